import PyProof.Rows.All
import Wide.All
import OpenK.AllK
import Wide.FinOn
import KE.KStateDown
import Lean
import HandS.ForMost
import HandS.Conv
import HandS.Codes
import HandS.IsInst
import HandS.Defaults
import HandS.Property
import HandS.Star
import HandS.MakeKwOnly
import HandS.SetKeys
import HandS.Deep
import HandS.Flow
import HandS.RaiseMore
import HandS.Evl
import HandS.Walk
import HandS.NoneIn
import HandS.Strs
import HandS.Zip
import HandS.OwnEq
import HandS.StrMore
import HandS.Exc
import HandS.Head0
import HandS.Head1
import HandS.Head2
import HandS.HeadEnd
import HandS.HeadHook1
import HandS.HeadHook2
import PySem.Str
import PySem.Challenge.RW_overlapturns_k62_whole_times_by_kinds_an
import OpenK.KMeth
import PyProof.InstNe
import KE.KDictZip
import HandS.Style
import HandS.SetTxt0
import HandS.TupSets
import HandS.More
/-! text OvMath -/
set_option Elab.async false
/-! The plain law: programs as trees (Rows), their times, the line left out. No Python here. -/
namespace Ov
open PySem

inductive Ln where
  | work (p f : Str) (as : List Str)
  | load (p a : Str) (o : Int)
  | store (a : Str) (o : Int) (p : Str)
  | copy (p q : Str)
  | step (n : Int)

def Ln.kind : Ln → Nat
  | .work _ _ _ => 0
  | .load _ _ _ => 1
  | .store _ _ _ => 2
  | .copy _ _ => 3
  | .step _ => 4
def Ln.byn : Ln → Int
  | .step n => n
  | _ => 0

inductive Rows where
  | nil
  | line (l : Ln) (r : Rows)
  | iff (b : Int) (e : Bool) (one two r : Rows)
  | whl (b : Int) (body r : Rows)

namespace Rows

/-- how many lines of text -/
def nl : Rows → Nat
  | nil => 0
  | line _ r => 1 + nl r
  | iff _ e one two r => 1 + nl one + (if e then 1 + nl two else 0) + 1 + nl r
  | whl _ body r => 1 + nl body + 1 + nl r
/-- the steps of all lines -/
def steps : Rows → Int
  | nil => 0
  | line l r => l.byn + steps r
  | iff _ _ one two r => steps one + steps two + steps r
  | whl _ body r => steps body + steps r
def Flat : Rows → Prop
  | nil => True
  | line _ r => Flat r
  | _ => False
def AllLn (P : Ln → Prop) : Rows → Prop
  | nil => True
  | line l r => P l ∧ AllLn P r
  | iff _ _ one two r => AllLn P one ∧ AllLn P two ∧ AllLn P r
  | whl _ body r => AllLn P body ∧ AllLn P r
/-- the shape: bounds, depth of ifs -/
def Shape : Rows → Nat → Prop
  | nil, _ => True
  | line l r, d => 0 ≤ l.byn ∧ Shape r d
  | iff b e one two r, d => 0 ≤ b ∧ b ≤ 12 ∧ (e = false → two = nil) ∧ (∃ d', d = d' + 1 ∧ Shape one d' ∧ Shape two d') ∧ Shape r d
  | whl b body r, d => 1 ≤ b ∧ b ≤ 12 ∧ Flat body ∧ Shape body 0 ∧ 1 ≤ steps body ∧ steps body ≤ 8 ∧ Shape r d

def rounds (b g x : Int) : Int := if x < b then 0 else (x - b) / g + 1
/-- what is left behind -/
def rem : Rows → Int → Int
  | nil, x => x
  | line l r, x => rem r (x - l.byn)
  | iff b _ one two r, x => rem r (if b ≤ x then rem one x else rem two x)
  | whl b body r, x => rem r (x - rounds b (-(rem body 0)) x * (-(rem body 0)))
/-- the time -/
def cost (pr : Nat → Int) : Rows → Int → Int
  | nil, _ => 0
  | line l r, x => pr l.kind + cost pr r (x - l.byn)
  | iff b _ one two r, x => (if b ≤ x then cost pr one x else cost pr two x) + pr 5 + cost pr r (if b ≤ x then rem one x else rem two x)
  | whl b body r, x => rounds b (-(rem body 0)) x * (cost pr body 0 + pr 5) + pr 5 + cost pr r (x - rounds b (-(rem body 0)) x * (-(rem body 0)))
/-- the first while that is met while enough turns are left: its body -/
def long : Rows → Option Rows
  | nil => none
  | line _ r => long r
  | iff _ _ one _ r => match long one with
    | some w => some w
    | none => long r
  | whl _ body _ => some body
def per (r : Rows) : Int := match long r with
  | none => 1
  | some body => -(rem body 0)
def rise (pr : Nat → Int) (r : Rows) : Int := match long r with
  | none => 0
  | some body => cost pr body 0 + pr 5
def many (r : Rows) : Int := steps r + 12 + per r
def heights (pr : Nat → Int) (r : Rows) : List Int := (List.range (many r).toNat).map fun (c : Nat) => cost pr r (c : Int)

/-! ### flat bodies -/
theorem rem_flat : ∀ {r : Rows}, Flat r → ∀ x, rem r x = x - steps r
  | nil, _, x => by simp [rem, steps]
  | line l r, h, x => by
    show rem r (x - l.byn) = x - (l.byn + steps r)
    rw [rem_flat (r := r) h]
    omega
theorem cost_flat {pr : Nat → Int} : ∀ {r : Rows}, Flat r → ∀ x y, cost pr r x = cost pr r y
  | nil, _, x, y => rfl
  | line l r, h, x, y => by
    show pr l.kind + cost pr r (x - l.byn) = pr l.kind + cost pr r (y - l.byn)
    rw [cost_flat (r := r) h (x - l.byn) (y - l.byn)]
theorem gain_flat {r : Rows} (h : Flat r) : -(rem r 0) = steps r := by
  rw [rem_flat h]
  omega
theorem steps_nonneg : ∀ {r : Rows} {d : Nat}, Shape r d → 0 ≤ steps r
  | nil, _, _ => Int.le_refl 0
  | line l r, d, h => by
    have := steps_nonneg (r := r) h.2
    have := h.1
    show 0 ≤ l.byn + steps r
    omega
  | iff b e one two r, d, h => by
    obtain ⟨_, _, _, ⟨d', _, h1, h2⟩, h3⟩ := h
    have := steps_nonneg h1
    have := steps_nonneg h2
    have := steps_nonneg h3
    show 0 ≤ steps one + steps two + steps r
    omega
  | whl b body r, d, h => by
    obtain ⟨_, _, _, _, h1, _, h3⟩ := h
    have := steps_nonneg h3
    show 0 ≤ steps body + steps r
    omega

/-! ### the form comes again -/
theorem rounds_more {b g x : Int} (hg : 1 ≤ g) (hx : b ≤ x) : rounds b g (x + g) = rounds b g x + 1 := by
  unfold rounds
  rw [if_neg (by omega), if_neg (by omega)]
  have e : x + g - b = (x - b) + 1 * g := by omega
  rw [e, Int.add_mul_ediv_right _ _ (by omega)]
/-- with enough turns left: no long while, and what is left is a fixed number less; or a long while, and what is left is the same again after a period -/
theorem far (pr : Nat → Int) : ∀ {r : Rows} {d : Nat}, Shape r d →
    (long r = none → ∃ s c, 0 ≤ s ∧ s ≤ steps r ∧ ∀ x, steps r + 12 ≤ x → rem r x = x - s ∧ cost pr r x = c) ∧
    (∀ w, long r = some w → 1 ≤ -(rem w 0) ∧ ∀ x, steps r + 12 ≤ x → rem r (x + -(rem w 0)) = rem r x ∧ cost pr r (x + -(rem w 0)) = cost pr r x + (cost pr w 0 + pr 5))
  | nil, d, h => ⟨fun _ => ⟨0, 0, by omega, by simp [steps], fun x _ => ⟨by simp [rem], rfl⟩⟩, fun w e => by simp [long] at e⟩
  | line l r, d, h => by
    obtain ⟨h0, h1⟩ := h
    obtain ⟨i1, i2⟩ := far pr (r := r) h1
    have hs := steps_nonneg h1
    refine ⟨fun e => ?_, fun w e => ?_⟩
    · obtain ⟨s, c, a, b, k⟩ := i1 e
      refine ⟨s + l.byn, pr l.kind + c, by omega, by show s + l.byn ≤ l.byn + steps r; omega, fun x hx => ?_⟩
      have hx : l.byn + steps r + 12 ≤ x := hx
      obtain ⟨k1, k2⟩ := k (x - l.byn) (by omega)
      refine ⟨?_, ?_⟩
      · show rem r (x - l.byn) = _
        rw [k1]; omega
      · show pr l.kind + cost pr r (x - l.byn) = _
        rw [k2]
    · obtain ⟨g, k⟩ := i2 w e
      refine ⟨g, fun x hx => ?_⟩
      have hx : l.byn + steps r + 12 ≤ x := hx
      obtain ⟨k1, k2⟩ := k (x - l.byn) (by omega)
      have ex : x + -(rem w 0) - l.byn = x - l.byn + -(rem w 0) := by omega
      refine ⟨?_, ?_⟩
      · show rem r (x + -(rem w 0) - l.byn) = rem r (x - l.byn)
        rw [ex, k1]
      · show pr l.kind + cost pr r (x + -(rem w 0) - l.byn) = pr l.kind + cost pr r (x - l.byn) + _
        rw [ex, k2]; omega
  | iff b e one two r, d, h => by
    obtain ⟨b0, b1, _, ⟨d', _, h1, h2⟩, h3⟩ := h
    obtain ⟨i1, i2⟩ := far pr h1
    obtain ⟨j1, j2⟩ := far pr h3
    have s1 := steps_nonneg h1
    have s2 := steps_nonneg h2
    have s3 := steps_nonneg h3
    have cs : ∀ x, b ≤ x → rem (iff b e one two r) x = rem r (rem one x) ∧ cost pr (iff b e one two r) x = cost pr one x + pr 5 + cost pr r (rem one x) := fun x hx => by
      refine ⟨?_, ?_⟩
      · show rem r (if b ≤ x then rem one x else rem two x) = _
        rw [if_pos hx]
      · show (if b ≤ x then cost pr one x else cost pr two x) + pr 5 + cost pr r (if b ≤ x then rem one x else rem two x) = _
        rw [if_pos hx, if_pos hx]
    have est : steps (iff b e one two r) = steps one + steps two + steps r := rfl
    cases e1 : long one with
    | some w1 =>
      obtain ⟨g, k⟩ := i2 w1 e1
      have el : long (iff b e one two r) = some w1 := by
        show (match long one with | some w => some w | none => long r) = _
        rw [e1]
      refine ⟨fun en => by rw [el] at en; simp at en, fun w ew => ?_⟩
      rw [el] at ew
      cases ew
      refine ⟨g, fun x hx => ?_⟩
      rw [est] at hx
      obtain ⟨k1, k2⟩ := k x (by omega)
      obtain ⟨c1, c2⟩ := cs x (by omega)
      obtain ⟨c3, c4⟩ := cs (x + -(rem w1 0)) (by omega)
      rw [c1, c2, c3, c4, k1, k2]
      exact ⟨rfl, by omega⟩
    | none =>
      obtain ⟨s, c, a, bb, k⟩ := i1 e1
      have el : long (iff b e one two r) = long r := by
        show (match long one with | some w => some w | none => long r) = _
        rw [e1]
      refine ⟨fun en => ?_, fun w ew => ?_⟩
      · rw [el] at en
        obtain ⟨s', c', a', b', k'⟩ := j1 en
        refine ⟨s + s', c + pr 5 + c', by omega, by omega, fun x hx => ?_⟩
        rw [est] at hx
        obtain ⟨k1, k2⟩ := k x (by omega)
        obtain ⟨c1, c2⟩ := cs x (by omega)
        obtain ⟨k3, k4⟩ := k' (x - s) (by omega)
        rw [c1, c2, k1, k2, k3, k4]
        exact ⟨by omega, rfl⟩
      · rw [el] at ew
        obtain ⟨g, k'⟩ := j2 w ew
        refine ⟨g, fun x hx => ?_⟩
        rw [est] at hx
        obtain ⟨k1, k2⟩ := k x (by omega)
        obtain ⟨k1', k2'⟩ := k (x + -(rem w 0)) (by omega)
        obtain ⟨c1, c2⟩ := cs x (by omega)
        obtain ⟨c3, c4⟩ := cs (x + -(rem w 0)) (by omega)
        obtain ⟨k3, k4⟩ := k' (x - s) (by omega)
        have ex : x + -(rem w 0) - s = x - s + -(rem w 0) := by omega
        rw [c1, c2, c3, c4, k1, k2, k1', k2', ex, k3, k4]
        exact ⟨rfl, by omega⟩
  | whl b body r, d, h => by
    obtain ⟨b0, b1, hf, hs, h1, h2, h3⟩ := h
    have eg := gain_flat hf
    refine ⟨fun e => by simp [long] at e, fun w ew => ?_⟩
    have ew' : some body = some w := ew
    cases ew'
    refine ⟨by omega, fun x hx => ?_⟩
    have s3 := steps_nonneg h3
    have hx : steps body + steps r + 12 ≤ x := hx
    have hr := rounds_more (b := b) (g := -(rem body 0)) (x := x) (by omega) (by omega)
    have ex : x + -(rem body 0) - rounds b (-(rem body 0)) (x + -(rem body 0)) * -(rem body 0) = x - rounds b (-(rem body 0)) x * -(rem body 0) := by
      rw [hr, Int.add_mul]; omega
    refine ⟨?_, ?_⟩
    · show rem r (x + -(rem body 0) - rounds b (-(rem body 0)) (x + -(rem body 0)) * -(rem body 0)) = rem r (x - rounds b (-(rem body 0)) x * -(rem body 0))
      rw [ex]
    · show rounds b (-(rem body 0)) (x + -(rem body 0)) * (cost pr body 0 + pr 5) + pr 5 + cost pr r (x + -(rem body 0) - rounds b (-(rem body 0)) (x + -(rem body 0)) * -(rem body 0)) = rounds b (-(rem body 0)) x * (cost pr body 0 + pr 5) + pr 5 + cost pr r (x - rounds b (-(rem body 0)) x * -(rem body 0)) + (cost pr body 0 + pr 5)
      rw [ex, hr, Int.add_mul]; omega
theorem long_flat : ∀ {r : Rows} {d : Nat} {w : Rows}, Shape r d → long r = some w → Flat w ∧ Shape w 0 ∧ 1 ≤ steps w ∧ steps w ≤ 8
  | nil, _, _, _, e => by simp [long] at e
  | line l r, d, w, h, e => long_flat (r := r) h.2 e
  | iff b e one two r, d, w, h, e' => by
    obtain ⟨_, _, _, ⟨d', _, h1, h2⟩, h3⟩ := h
    have e' : (match long one with | some w => some w | none => long r) = some w := e'
    cases e1 : long one with
    | some w1 =>
      rw [e1] at e'
      cases e'
      exact long_flat h1 e1
    | none =>
      rw [e1] at e'
      exact long_flat h3 e'
  | whl b body r, d, w, h, e => by
    obtain ⟨_, _, hf, hs, h1, h2, _⟩ := h
    cases (show some body = some w from e)
    exact ⟨hf, hs, h1, h2⟩
theorem per_bounds {r : Rows} {d : Nat} (h : Shape r d) : 1 ≤ per r ∧ per r ≤ 8 := by
  unfold per
  cases e : long r with
  | none => exact ⟨by decide, by decide⟩
  | some w =>
    obtain ⟨f, _, a, b⟩ := long_flat h e
    show 1 ≤ -(rem w 0) ∧ -(rem w 0) ≤ 8
    rw [gain_flat f]
    exact ⟨a, b⟩
theorem periodic (pr : Nat → Int) {r : Rows} {d : Nat} (h : Shape r d) (x : Int) (hx : steps r + 12 ≤ x) : cost pr r (x + per r) = cost pr r x + rise pr r := by
  obtain ⟨f1, f2⟩ := far pr h
  unfold per rise
  cases e : long r with
  | none =>
    obtain ⟨s, c, _, _, k⟩ := f1 e
    show cost pr r (x + 1) = cost pr r x + 0
    rw [(k x hx).2, (k (x + 1) (by omega)).2]
    omega
  | some w =>
    obtain ⟨_, k⟩ := f2 w e
    exact (k x hx).2
theorem periodic_mul (pr : Nat → Int) {r : Rows} {d : Nat} (h : Shape r d) (x : Int) (hx : steps r + 12 ≤ x) : ∀ n : Nat, cost pr r (x + n * per r) = cost pr r x + n * rise pr r
  | 0 => by simp
  | n + 1 => by
    have ih := periodic_mul pr h x hx n
    have p := (per_bounds h).1
    have hn : (0 : Int) ≤ n * per r := Int.mul_nonneg (by omega) (by omega)
    have q := periodic pr h (x + n * per r) (by omega)
    have e : x + ((n + 1 : Nat) : Int) * per r = x + n * per r + per r := by
      rw [Int.natCast_add, Int.add_mul]; simp; omega
    rw [e, q, ih]
    rw [Int.natCast_add, Int.add_mul]; simp; omega

/-! ### times are linear in the costs -/
theorem cost_add (p q : Nat → Int) : ∀ (r : Rows) (x : Int), cost (fun k => p k + q k) r x = cost p r x + cost q r x
  | nil, _ => by simp [cost]
  | line l r, x => by
    show p l.kind + q l.kind + cost (fun k => p k + q k) r (x - l.byn) = p l.kind + cost p r (x - l.byn) + (q l.kind + cost q r (x - l.byn))
    rw [cost_add p q r]; omega
  | iff b e one two r, x => by
    simp only [cost]
    rw [cost_add p q one, cost_add p q two, cost_add p q r]
    split <;> omega
  | whl b body r, x => by
    simp only [cost]
    rw [cost_add p q body, cost_add p q r]
    have e : rounds b (-(rem body 0)) x * (cost p body 0 + cost q body 0 + (p 5 + q 5)) = rounds b (-(rem body 0)) x * (cost p body 0 + p 5) + rounds b (-(rem body 0)) x * (cost q body 0 + q 5) := by
      rw [← Int.mul_add]; congr 1; omega
    rw [e]; omega
theorem rise_add (p q : Nat → Int) (r : Rows) : rise (fun k => p k + q k) r = rise p r + rise q r := by
  unfold rise
  cases long r with
  | none => rfl
  | some w =>
    show cost (fun k => p k + q k) w 0 + (p 5 + q 5) = cost p w 0 + p 5 + (cost q w 0 + q 5)
    rw [cost_add]; omega
theorem cost_zero : ∀ (r : Rows) (x : Int), cost (fun _ => 0) r x = 0
  | nil, _ => rfl
  | line l r, x => by
    show 0 + cost (fun _ => 0) r (x - l.byn) = 0
    rw [cost_zero r]; omega
  | iff b e one two r, x => by
    simp only [cost]
    rw [cost_zero one, cost_zero two, cost_zero r]
    split <;> omega
  | whl b body r, x => by
    simp only [cost]
    rw [cost_zero body, cost_zero r]
    simp
theorem rise_zero (r : Rows) : rise (fun _ => 0) r = 0 := by
  unfold rise
  cases long r with
  | none => rfl
  | some w =>
    show cost (fun _ => 0) w 0 + 0 = 0
    rw [cost_zero]; omega
theorem cost_nonneg {p : Nat → Int} (hp : ∀ k, 0 ≤ p k) : ∀ {r : Rows} {d : Nat}, Shape r d → ∀ x, 0 ≤ cost p r x
  | nil, _, _, _ => Int.le_refl 0
  | line l r, d, h, x => by
    have := cost_nonneg hp (r := r) h.2 (x - l.byn)
    have := hp l.kind
    show 0 ≤ p l.kind + cost p r (x - l.byn)
    omega
  | iff b e one two r, d, h, x => by
    obtain ⟨_, _, _, ⟨d', _, h1, h2⟩, h3⟩ := h
    have a1 := cost_nonneg hp h1 x
    have a2 := cost_nonneg hp h2 x
    have a3 := cost_nonneg hp h3 (if b ≤ x then rem one x else rem two x)
    have := hp 5
    show 0 ≤ (if b ≤ x then cost p one x else cost p two x) + p 5 + cost p r (if b ≤ x then rem one x else rem two x)
    by_cases c : b ≤ x
    · rw [if_pos c] at a3 ⊢
      rw [if_pos c]
      omega
    · rw [if_neg c] at a3 ⊢
      rw [if_neg c]
      omega
  | whl b body r, d, h, x => by
    obtain ⟨_, _, hf, hs, h1, _, h3⟩ := h
    have a1 := cost_nonneg hp hs 0
    have a3 := cost_nonneg hp h3 (x - rounds b (-(rem body 0)) x * (-(rem body 0)))
    have := hp 5
    have hr : 0 ≤ rounds b (-(rem body 0)) x := by
      rw [gain_flat hf]
      unfold rounds
      by_cases c : x < b
      · rw [if_pos c]; omega
      · rw [if_neg c]
        have := Int.ediv_nonneg (a := x - b) (b := steps body) (by omega) (by omega)
        omega
    have := Int.mul_nonneg hr (show 0 ≤ cost p body 0 + p 5 by omega)
    show 0 ≤ rounds b (-(rem body 0)) x * (cost p body 0 + p 5) + p 5 + cost p r (x - rounds b (-(rem body 0)) x * (-(rem body 0)))
    omega

/-! ### a line left out -/
/-- the statements with their indexes -/
def stm : Rows → Nat → List (Ln × Nat)
  | nil, _ => []
  | line l r, i => (l, i) :: stm r (i + 1)
  | iff _ e one two r, i => stm one (i + 1) ++ stm two (i + 1 + nl one + 1) ++ stm r (i + (1 + nl one + (if e then 1 + nl two else 0) + 1))
  | whl _ body r, i => stm body (i + 1) ++ stm r (i + (1 + nl body + 1))
def cut : Rows → Nat → Nat → Rows
  | nil, _, _ => nil
  | line l r, i, t => if i = t then cut r (i + 1) t else line l (cut r (i + 1) t)
  | iff b e one two r, i, t => iff b e (cut one (i + 1) t) (cut two (i + 1 + nl one + 1) t) (cut r (i + (1 + nl one + (if e then 1 + nl two else 0) + 1)) t)
  | whl b body r, i, t => whl b (cut body (i + 1) t) (cut r (i + (1 + nl body + 1)) t)
/-- how often the line with an index is gone through -/
def cnt : Rows → Nat → Nat → Int → Int
  | nil, _, _, _ => 0
  | line l r, i, t, x => (if i = t then 1 else 0) + cnt r (i + 1) t (x - l.byn)
  | iff b e one two r, i, t, x => (if b ≤ x then cnt one (i + 1) t x else cnt two (i + 1 + nl one + 1) t x) + cnt r (i + (1 + nl one + (if e then 1 + nl two else 0) + 1)) t (if b ≤ x then rem one x else rem two x)
  | whl b body r, i, t, x => rounds b (-(rem body 0)) x * cnt body (i + 1) t 0 + cnt r (i + (1 + nl body + 1)) t (x - rounds b (-(rem body 0)) x * (-(rem body 0)))
theorem stm_bounds : ∀ {r : Rows} {i : Nat} {d : Nat}, Shape r d → ∀ {l t}, (l, t) ∈ stm r i → i ≤ t ∧ t < i + nl r
  | nil, i, d, _, l, t, h => by simp [stm] at h
  | line l0 r, i, d, hs, l, t, h => by
    simp only [stm, List.mem_cons, Prod.mk.injEq] at h
    simp only [nl]
    rcases h with ⟨_, rfl⟩ | h
    · omega
    · have := stm_bounds (r := r) hs.2 h
      omega
  | iff b e one two r, i, d, hs, l, t, h => by
    obtain ⟨_, _, he, ⟨d', _, h1, h2⟩, h3⟩ := hs
    simp only [stm, List.mem_append] at h
    simp only [nl]
    rcases h with (h | h) | h
    · have := stm_bounds h1 h
      omega
    · have q := stm_bounds h2 h
      cases e with
      | true => simp only [if_true] at *; omega
      | false =>
        rw [he rfl] at h
        simp [stm] at h
    · have := stm_bounds h3 h
      omega
  | whl b body r, i, d, hs, l, t, h => by
    obtain ⟨_, _, _, h1, _, _, h3⟩ := hs
    simp only [stm, List.mem_append] at h
    simp only [nl]
    rcases h with h | h
    · have := stm_bounds h1 h
      omega
    · have := stm_bounds h3 h
      omega
/-- an index names one line -/
theorem stm_one : ∀ {r : Rows} {i : Nat} {d : Nat}, Shape r d → ∀ {l l' t}, (l, t) ∈ stm r i → (l', t) ∈ stm r i → l = l'
  | nil, i, d, _, l, l', t, h, _ => by simp [stm] at h
  | line l0 r, i, d, hs, l, l', t, h, h' => by
    simp only [stm, List.mem_cons, Prod.mk.injEq] at h h'
    rcases h with ⟨rfl, rfl⟩ | h
    · rcases h' with ⟨rfl, _⟩ | h'
      · rfl
      · have := stm_bounds hs.2 h'
        omega
    · rcases h' with ⟨rfl, rfl⟩ | h'
      · have := stm_bounds hs.2 h
        omega
      · exact stm_one (r := r) hs.2 h h'
  | iff b e one two r, i, d, hs, l, l', t, h, h' => by
    obtain ⟨_, _, he, ⟨d', _, h1, h2⟩, h3⟩ := hs
    simp only [stm, List.mem_append] at h h'
    have two_e : ∀ {k}, (k, t) ∈ stm two (i + 1 + nl one + 1) → e = true := fun {k} q => by
      cases e with
      | true => rfl
      | false => rw [he rfl] at q; simp [stm] at q
    rcases h with (h | h) | h
    · have a := stm_bounds h1 h
      rcases h' with (h' | h') | h'
      · exact stm_one h1 h h'
      · have := stm_bounds h2 h'; omega
      · have := stm_bounds h3 h'; omega
    · have a := stm_bounds h2 h
      have ee := two_e h
      subst ee
      rcases h' with (h' | h') | h'
      · have := stm_bounds h1 h'; omega
      · exact stm_one h2 h h'
      · have := stm_bounds h3 h'
        simp only [if_true] at *
        omega
    · have a := stm_bounds h3 h
      rcases h' with (h' | h') | h'
      · have := stm_bounds h1 h'; omega
      · have b' := stm_bounds h2 h'
        have ee := two_e h'
        subst ee
        simp only [if_true] at *
        omega
      · exact stm_one h3 h h'
  | whl b body r, i, d, hs, l, l', t, h, h' => by
    obtain ⟨_, _, _, h1, _, _, h3⟩ := hs
    simp only [stm, List.mem_append] at h h'
    rcases h with h | h
    · have a := stm_bounds h1 h
      rcases h' with h' | h'
      · exact stm_one h1 h h'
      · have := stm_bounds h3 h'; omega
    · have a := stm_bounds h3 h
      rcases h' with h' | h'
      · have := stm_bounds h1 h'; omega
      · exact stm_one h3 h h'

theorem cut_steps : ∀ {r : Rows} {i t : Nat}, (∀ l, (l, t) ∈ stm r i → l.byn = 0) → steps (cut r i t) = steps r
  | nil, i, t, _ => rfl
  | line l r, i, t, h => by
    have ih := cut_steps (r := r) (i := i + 1) (t := t) fun l' m => h l' (by simp only [stm]; exact List.mem_cons_of_mem _ m)
    simp only [cut]
    by_cases c : i = t
    · rw [if_pos c]
      have := h l (by simp [stm, c])
      simp only [steps]
      omega
    · rw [if_neg c]
      simp only [steps]
      omega
  | iff b e one two r, i, t, h => by
    simp only [cut, steps]
    rw [cut_steps (r := one) fun l m => h l (by simp only [stm, List.mem_append]; exact .inl (.inl m)), cut_steps (r := two) fun l m => h l (by simp only [stm, List.mem_append]; exact .inl (.inr m)), cut_steps (r := r) fun l m => h l (by simp only [stm, List.mem_append]; exact .inr m)]
  | whl b body r, i, t, h => by
    simp only [cut, steps]
    rw [cut_steps (r := body) fun l m => h l (by simp only [stm, List.mem_append]; exact .inl m), cut_steps (r := r) fun l m => h l (by simp only [stm, List.mem_append]; exact .inr m)]
theorem cut_flat : ∀ {r : Rows} {i t : Nat}, Flat r → Flat (cut r i t)
  | nil, _, _, _ => trivial
  | line l r, i, t, h => by
    simp only [cut]
    by_cases c : i = t
    · rw [if_pos c]; exact cut_flat (r := r) h
    · rw [if_neg c]; exact cut_flat (r := r) h
theorem cut_all {P : Ln → Prop} : ∀ {r : Rows} {i t : Nat}, AllLn P r → AllLn P (cut r i t)
  | nil, _, _, _ => trivial
  | line l r, i, t, h => by
    simp only [cut]
    by_cases c : i = t
    · rw [if_pos c]; exact cut_all (r := r) h.2
    · rw [if_neg c]; exact ⟨h.1, cut_all (r := r) h.2⟩
  | iff _ _ one two r, _, _, h => ⟨cut_all (r := one) h.1, cut_all (r := two) h.2.1, cut_all (r := r) h.2.2⟩
  | whl _ body r, _, _, h => ⟨cut_all (r := body) h.1, cut_all (r := r) h.2⟩
theorem cut_shape : ∀ {r : Rows} {i t d : Nat}, Shape r d → (∀ l, (l, t) ∈ stm r i → l.byn = 0) → Shape (cut r i t) d
  | nil, _, _, _, _, _ => trivial
  | line l r, i, t, d, hs, h => by
    have ih := cut_shape (r := r) (i := i + 1) (t := t) hs.2 fun l' m => h l' (by simp only [stm]; exact List.mem_cons_of_mem _ m)
    simp only [cut]
    by_cases c : i = t
    · rw [if_pos c]; exact ih
    · rw [if_neg c]; exact ⟨hs.1, ih⟩
  | iff b e one two r, i, t, d, hs, h => by
    obtain ⟨b0, b1, he, ⟨d', ed, h1, h2⟩, h3⟩ := hs
    refine ⟨b0, b1, fun q => by rw [he q]; rfl, ⟨d', ed, cut_shape h1 fun l m => h l ?_, cut_shape h2 fun l m => h l ?_⟩, cut_shape h3 fun l m => h l ?_⟩
    · simp only [stm, List.mem_append]; exact .inl (.inl m)
    · simp only [stm, List.mem_append]; exact .inl (.inr m)
    · simp only [stm, List.mem_append]; exact .inr m
  | whl b body r, i, t, d, hs, h => by
    obtain ⟨b0, b1, hf, h1, s1, s2, h3⟩ := hs
    have e := cut_steps (r := body) (i := i + 1) (t := t) fun l m => h l (by simp only [stm, List.mem_append]; exact .inl m)
    refine ⟨b0, b1, cut_flat hf, cut_shape h1 fun l m => h l ?_, by rw [e]; exact s1, by rw [e]; exact s2, cut_shape h3 fun l m => h l ?_⟩
    · simp only [stm, List.mem_append]; exact .inl m
    · simp only [stm, List.mem_append]; exact .inr m
theorem cut_rem : ∀ {r : Rows} {i t : Nat}, (∀ l, (l, t) ∈ stm r i → l.byn = 0) → ∀ x, rem (cut r i t) x = rem r x
  | nil, _, _, _, _ => rfl
  | line l r, i, t, h, x => by
    have ih := cut_rem (r := r) (i := i + 1) (t := t) fun l' m => h l' (by simp only [stm]; exact List.mem_cons_of_mem _ m)
    simp only [cut]
    by_cases c : i = t
    · rw [if_pos c]
      have := h l (by simp [stm, c])
      rw [ih]
      show rem r x = rem r (x - l.byn)
      rw [this, Int.sub_zero]
    · rw [if_neg c]
      exact ih _
  | iff b e one two r, i, t, h, x => by
    simp only [cut, rem]
    rw [cut_rem (r := one) fun l m => h l (by simp only [stm, List.mem_append]; exact .inl (.inl m)), cut_rem (r := two) fun l m => h l (by simp only [stm, List.mem_append]; exact .inl (.inr m)), cut_rem (r := r) fun l m => h l (by simp only [stm, List.mem_append]; exact .inr m)]
  | whl b body r, i, t, h, x => by
    simp only [cut, rem]
    rw [cut_rem (r := body) fun l m => h l (by simp only [stm, List.mem_append]; exact .inl m), cut_rem (r := r) fun l m => h l (by simp only [stm, List.mem_append]; exact .inr m)]
theorem cut_long : ∀ {r : Rows} {i t : Nat}, (long r = none → long (cut r i t) = none) ∧ (∀ w, long r = some w → ∃ j, long (cut r i t) = some (cut w j t) ∧ ∀ l, (l, t) ∈ stm w j → (l, t) ∈ stm r i)
  | nil, _, _ => ⟨fun _ => rfl, fun w e => by simp [long] at e⟩
  | line l r, i, t => by
    obtain ⟨a, b⟩ := cut_long (r := r) (i := i + 1) (t := t)
    simp only [cut]
    by_cases c : i = t
    · rw [if_pos c]
      refine ⟨a, fun w e => ?_⟩
      obtain ⟨j, e1, e2⟩ := b w e
      exact ⟨j, e1, fun l' m => by simp only [stm]; exact List.mem_cons_of_mem _ (e2 l' m)⟩
    · rw [if_neg c]
      refine ⟨a, fun w e => ?_⟩
      obtain ⟨j, e1, e2⟩ := b w e
      exact ⟨j, e1, fun l' m => by simp only [stm]; exact List.mem_cons_of_mem _ (e2 l' m)⟩
  | iff b e one two r, i, t => by
    obtain ⟨a1, b1⟩ := cut_long (r := one) (i := i + 1) (t := t)
    obtain ⟨a3, b3⟩ := cut_long (r := r) (i := i + (1 + nl one + (if e then 1 + nl two else 0) + 1)) (t := t)
    cases e1 : long one with
    | none =>
      have q := a1 e1
      refine ⟨fun en => ?_, fun w ew => ?_⟩
      · simp only [long, e1] at en
        simp only [cut, long, q]
        exact a3 en
      · simp only [long, e1] at ew
        obtain ⟨j, z1, z2⟩ := b3 w ew
        refine ⟨j, ?_, fun l m => ?_⟩
        · simp only [cut, long, q]; exact z1
        · simp only [stm, List.mem_append]; exact .inr (z2 l m)
    | some w1 =>
      obtain ⟨j, z1, z2⟩ := b1 w1 e1
      refine ⟨fun en => by simp [long, e1] at en, fun w ew => ?_⟩
      simp only [long, e1, Option.some.injEq] at ew
      subst ew
      refine ⟨j, ?_, fun l m => ?_⟩
      · simp only [cut, long, z1]
      · simp only [stm, List.mem_append]; exact .inl (.inl (z2 l m))
  | whl b body r, i, t => by
    refine ⟨fun en => by simp [long] at en, fun w ew => ?_⟩
    simp only [long, Option.some.injEq] at ew
    subst ew
    exact ⟨i + 1, rfl, fun l m => by simp only [stm, List.mem_append]; exact .inl m⟩
theorem cut_per {r : Rows} {i t : Nat} (h : ∀ l, (l, t) ∈ stm r i → l.byn = 0) : per (cut r i t) = per r := by
  obtain ⟨a, b⟩ := cut_long (r := r) (i := i) (t := t)
  unfold per
  cases e : long r with
  | none => rw [a e]
  | some w =>
    obtain ⟨j, e1, e2⟩ := b w e
    rw [e1]
    show -(rem (cut w j t) 0) = -(rem w 0)
    rw [cut_rem fun l m => h l (e2 l m)]
theorem cut_many {r : Rows} {i t : Nat} (h : ∀ l, (l, t) ∈ stm r i → l.byn = 0) : many (cut r i t) = many r := by
  unfold many
  rw [cut_per h, cut_steps h]
/-- what the line costs, times how often -/
theorem cut_cost {pr : Nat → Int} {c : Int} : ∀ {r : Rows} {i t : Nat}, (∀ l, (l, t) ∈ stm r i → l.byn = 0 ∧ pr l.kind = c) → ∀ x, cost pr r x = cost pr (cut r i t) x + c * cnt r i t x
  | nil, _, _, _, _ => by simp [cost, cut, cnt]
  | line l r, i, t, h, x => by
    have ih := cut_cost (r := r) (i := i + 1) (t := t) fun l' m => h l' (by simp only [stm]; exact List.mem_cons_of_mem _ m)
    simp only [cut, cnt]
    by_cases q : i = t
    · rw [if_pos q, if_pos q]
      obtain ⟨z1, z2⟩ := h l (by simp [stm, q])
      have e1 : x - l.byn = x := by omega
      show pr l.kind + cost pr r (x - l.byn) = _
      rw [e1, ih x, z2, Int.mul_add]; omega
    · rw [if_neg q, if_neg q]
      show pr l.kind + cost pr r (x - l.byn) = pr l.kind + cost pr (cut r (i + 1) t) (x - l.byn) + _
      rw [ih, Int.mul_add]; omega
  | iff b e one two r, i, t, h, x => by
    have g1 : ∀ l, (l, t) ∈ stm one (i + 1) → l.byn = 0 ∧ pr l.kind = c := fun l m => h l (by simp only [stm, List.mem_append]; exact .inl (.inl m))
    have g2 : ∀ l, (l, t) ∈ stm two (i + 1 + nl one + 1) → l.byn = 0 ∧ pr l.kind = c := fun l m => h l (by simp only [stm, List.mem_append]; exact .inl (.inr m))
    have g3 : ∀ l, (l, t) ∈ stm r (i + (1 + nl one + (if e then 1 + nl two else 0) + 1)) → l.byn = 0 ∧ pr l.kind = c := fun l m => h l (by simp only [stm, List.mem_append]; exact .inr m)
    have i1 := cut_cost g1 x
    have i2 := cut_cost g2 x
    have i3 := cut_cost g3 (if b ≤ x then rem one x else rem two x)
    simp only [cut, cost, cnt]
    rw [cut_rem (fun l m => (g1 l m).1), cut_rem (fun l m => (g2 l m).1), i3]
    by_cases q : b ≤ x
    · simp only [if_pos q]
      rw [i1, Int.mul_add]; omega
    · simp only [if_neg q]
      rw [i2, Int.mul_add]; omega
  | whl b body r, i, t, h, x => by
    have g1 : ∀ l, (l, t) ∈ stm body (i + 1) → l.byn = 0 ∧ pr l.kind = c := fun l m => h l (by simp only [stm, List.mem_append]; exact .inl m)
    have g3 : ∀ l, (l, t) ∈ stm r (i + (1 + nl body + 1)) → l.byn = 0 ∧ pr l.kind = c := fun l m => h l (by simp only [stm, List.mem_append]; exact .inr m)
    have i1 := cut_cost g1 0
    simp only [cut, cost, cnt]
    rw [cut_rem (fun l m => (g1 l m).1), cut_cost g3, i1]
    generalize rounds b (-(rem body 0)) x = n
    have e : n * (cost pr (cut body (i + 1) t) 0 + c * cnt body (i + 1) t 0 + pr 5) = n * (cost pr (cut body (i + 1) t) 0 + pr 5) + c * (n * cnt body (i + 1) t 0) := by
      have e1 : cost pr (cut body (i + 1) t) 0 + c * cnt body (i + 1) t 0 + pr 5 = (cost pr (cut body (i + 1) t) 0 + pr 5) + c * cnt body (i + 1) t 0 := by omega
      rw [e1, Int.mul_add, ← Int.mul_assoc, ← Int.mul_assoc, Int.mul_comm n c]
    rw [e, Int.mul_add c]; omega
theorem cnt_nonneg : ∀ {r : Rows} {d : Nat}, Shape r d → ∀ i t x, 0 ≤ cnt r i t x
  | nil, _, _, _, _, _ => Int.le_refl 0
  | line l r, d, h, i, t, x => by
    have := cnt_nonneg (r := r) h.2 (i + 1) t (x - l.byn)
    simp only [cnt]
    split <;> omega
  | iff b e one two r, d, h, i, t, x => by
    obtain ⟨_, _, _, ⟨d', _, h1, h2⟩, h3⟩ := h
    have a1 := cnt_nonneg h1 (i + 1) t x
    have a2 := cnt_nonneg h2 (i + 1 + nl one + 1) t x
    have a3 := cnt_nonneg h3 (i + (1 + nl one + (if e then 1 + nl two else 0) + 1)) t (if b ≤ x then rem one x else rem two x)
    simp only [cnt]
    by_cases c : b ≤ x
    · rw [if_pos c] at a3 ⊢; rw [if_pos c]; omega
    · rw [if_neg c] at a3 ⊢; rw [if_neg c]; omega
  | whl b body r, d, h, i, t, x => by
    obtain ⟨_, _, hf, hs, h1, _, h3⟩ := h
    have a1 := cnt_nonneg hs (i + 1) t 0
    have a3 := cnt_nonneg h3 (i + (1 + nl body + 1)) t (x - rounds b (-(rem body 0)) x * (-(rem body 0)))
    have hr : 0 ≤ rounds b (-(rem body 0)) x := by
      rw [gain_flat hf]
      unfold rounds
      by_cases c : x < b
      · rw [if_pos c]; omega
      · rw [if_neg c]
        have := Int.ediv_nonneg (a := x - b) (b := steps body) (by omega) (by omega)
        omega
    have := Int.mul_nonneg hr a1
    simp only [cnt]
    omega
theorem cut_rise {pr : Nat → Int} {c : Int} {r : Rows} {d i t : Nat} (hs : Shape r d) (hc : 0 ≤ c) (h : ∀ l, (l, t) ∈ stm r i → l.byn = 0 ∧ pr l.kind = c) : 0 ≤ rise pr r - rise pr (cut r i t) := by
  obtain ⟨a, b⟩ := cut_long (r := r) (i := i) (t := t)
  unfold rise
  cases e : long r with
  | none => rw [a e]; exact Int.le_refl 0
  | some w =>
    obtain ⟨j, e1, e2⟩ := b w e
    rw [e1]
    have q := cut_cost (r := w) (i := j) (t := t) (fun l m => h l (e2 l m)) 0
    have f := long_flat hs e
    have n := Int.mul_nonneg hc (cnt_nonneg f.2.1 j t 0)
    show 0 ≤ cost pr w 0 + pr 5 - (cost pr (cut w j t) 0 + pr 5)
    omega
end Rows
end Ov
/-! text OvBase -/
set_option Elab.async false
set_option linter.all false
set_option maxRecDepth 100000
/-! The text by places, what the top leaves, the rules that the hand layer lacks. -/
namespace Ov
open PySem PySem.Spec PyProof.Rows L2

def top (i : Nat) : Stmt := PySem.Challenge.pw_overlapturns_k62_whole_times_by_kinds_an.main.body.getD i (.Pass ⟨0, 0, 0, 0⟩)
abbrev s__wall : Stmt := top 0
abbrev s_InvalidTextu_initu : Stmt := inClass (top 3) 0
abbrev s_InvalidNumberu_initu : Stmt := inClass (top 4) 0
abbrev s_InvalidCostu_initu : Stmt := inClass (top 5) 0
abbrev s_NotAProgramu_initu : Stmt := inClass (top 6) 0
abbrev s_NotAFormu_initu : Stmt := inClass (top 7) 0
abbrev s_NotCostsu_initu : Stmt := inClass (top 8) 0
abbrev s_is_integer : Stmt := top 14
abbrev s_is_number : Stmt := top 15
abbrev s_is_between : Stmt := top 16
abbrev s_has_only : Stmt := top 17
abbrev s_is_name : Stmt := top 18
abbrev s_is_array : Stmt := top 19
abbrev s_numeral_in : Stmt := top 20
abbrev s_number_in : Stmt := top 21
abbrev s_first_value_in : Stmt := top 22
abbrev s_common_multiple : Stmt := top 24
abbrev s_steps_in : Stmt := top 30
abbrev s_words_of_lines : Stmt := top 32
abbrev s_are_names : Stmt := top 33
abbrev s_are_unlike : Stmt := top 34
abbrev s_offset_in : Stmt := top 35
abbrev s_widths_of : Stmt := top 36
abbrev s_is_take : Stmt := top 40
abbrev s_value_in : Stmt := top 41
abbrev s_statement_in : Stmt := top 42
abbrev s_Readeru_initu : Stmt := inClass (top 43) 0
abbrev s_Reader_is_at : Stmt := inClass (top 43) 1
abbrev s_Reader_bound_in : Stmt := inClass (top 43) 2
abbrev s_Reader_lines_in : Stmt := inClass (top 43) 3
abbrev s_Reader_choice_in : Stmt := inClass (top 43) 4
abbrev s_Reader_rounds_in : Stmt := inClass (top 43) 5
abbrev s_statements_of : Stmt := top 44
abbrev s_places_of : Stmt := top 45
abbrev s_parts_of_program : Stmt := top 46
abbrev s_Programu_initu : Stmt := inClass (top 47) 0
abbrev s_Program_text : Stmt := inClass (top 47) 1
abbrev s_Program_lines : Stmt := inClass (top 47) 2
abbrev s_Program_takes : Stmt := inClass (top 47) 3
abbrev s_Program_body : Stmt := inClass (top 47) 4
abbrev s_Program_outs : Stmt := inClass (top 47) 5
abbrev s_Program_places : Stmt := inClass (top 47) 6
abbrev s_Program_arrays : Stmt := inClass (top 47) 7
abbrev s_Program_words : Stmt := inClass (top 47) 8
abbrev s_Program_run : Stmt := inClass (top 47) 9
abbrev s_Program_check_index : Stmt := inClass (top 47) 10
abbrev s_Program_without : Stmt := inClass (top 47) 11
abbrev s_Program_put : Stmt := inClass (top 47) 12
abbrev s_Programu_stru : Stmt := inClass (top 47) 13
abbrev s_Programu_repru : Stmt := inClass (top 47) 14
abbrev s_Programu_equ : Stmt := inClass (top 47) 15
abbrev s_Costsu_initu : Stmt := inClass (top 50) 0
abbrev s_Costs_works : Stmt := inClass (top 50) 1
abbrev s_Costs_loads : Stmt := inClass (top 50) 2
abbrev s_Costs_stores : Stmt := inClass (top 50) 3
abbrev s_Costs_copies : Stmt := inClass (top 50) 4
abbrev s_Costs_steps : Stmt := inClass (top 50) 5
abbrev s_Costs_tests : Stmt := inClass (top 50) 6
abbrev s_Costsu_equ : Stmt := inClass (top 50) 7
abbrev s_prices_of : Stmt := top 51
abbrev s_height_at : Stmt := top 52
abbrev s_check_form : Stmt := top 53
abbrev s_combined : Stmt := top 54
abbrev s_lowest_terms : Stmt := top 55
abbrev s_is_zero : Stmt := top 56
abbrev s_Formu_initu : Stmt := inClass (top 57) 0
abbrev s_Form_rise : Stmt := inClass (top 57) 1
abbrev s_Formu_callu : Stmt := inClass (top 57) 2
abbrev s_Formu_addu : Stmt := inClass (top 57) 3
abbrev s_Formu_subu : Stmt := inClass (top 57) 4
abbrev s_Formu_equ : Stmt := inClass (top 57) 5
abbrev s_Formu_repru : Stmt := inClass (top 57) 6
abbrev s_spent : Stmt := top 58
abbrev s_round_of : Stmt := top 59
abbrev s_long_while : Stmt := top 60
abbrev s_time_of : Stmt := top 61
abbrev s_last_below : Stmt := top 62
abbrev s_never_more : Stmt := top 63
abbrev s_never_more_from : Stmt := top 64
abbrev s_z_purse : Stmt := top 66
abbrev s_z_pick : Stmt := top 67
abbrev s_z_spot : Stmt := top 68
abbrev s_z_line : Stmt := top 69
abbrev s_z_step : Stmt := top 70
abbrev s_z_body : Stmt := top 71
abbrev s_z_rows : Stmt := top 72
abbrev s_z_lines : Stmt := top 73
abbrev s_z_paid : Stmt := top 74
abbrev s_z_numbered : Stmt := top 75
abbrev s_z_often : Stmt := top 76
abbrev s_z_statements : Stmt := top 77
abbrev s_z_sums_right : Stmt := top 78
abbrev s_z_without_right : Stmt := top 79
abbrev s_z_right : Stmt := top 80
abbrev s_law : Stmt := top 81

/-! ### where a def stands -/
inductive At where
  | glo (x : Str)
  | meth (C m : Str)
  | prop (C f : Str)
def getterOf (K : PySem.W.Frag) (p : Addr) : Addr := match PySem.W.recIn K p "property" with
  | some (.ref g :: _) => g
  | _ => 0
def At.ad (K : PySem.W.Frag) : At → Addr
  | .glo x => He.ga K x
  | .meth C m => He.ma K (He.ga K C) m
  | .prop C f => getterOf K (He.ma K (He.ga K C) f)
structure DefA where
  at_ : At
  name : Str
  qual : Str
  params : Arguments
  body : List Stmt
  scope : Scope
  dfl : List He.Dv
  kwd : List (Str × He.Dv)
def DefA.want (d : DefA) : He.FnW := some (d.name, d.qual, d.params, .stmts d.body, d.scope, mainGlobals, [], builtinsNs)
def DefA.dvs (K : PySem.W.Frag) (d : DefA) : List V := d.dfl.map (He.Dv.v K)
def DefA.kws (K : PySem.W.Frag) (d : DefA) : List (Str × V) := d.kwd.map fun q => (q.1, q.2.v K)
/-- what is compared as data -/
def fnAt (K : PySem.W.Frag) (a : Addr) : He.FnW := match K.lookup a with
  | some ⟨_, _, .func fd, _⟩ => some (fd.name, fd.qualname, fd.params, fd.body, fd.scope, fd.globals, fd.closure, fd.builtins)
  | _ => none
/-- what is decided -/
def DefA.fine (K : PySem.W.Frag) (d : DefA) : Bool := PySem.W.keepIn K (.ref (d.at_.ad K)) && (match K.lookup (d.at_.ad K) with
  | some ⟨_, _, .func fd, _⟩ => PySem.W.codeIn K fd.code d.qual && (He.dflB K fd.defaults (d.dvs K) && He.kwdB K fd.kwdefaults (d.kws K))
  | _ => false)
theorem DefA.get {K : PySem.W.Frag} {d : DefA} (e : fnAt K (d.at_.ad K) = d.want) (c : d.fine K = true) : ∃ fd, FunD K d.name d.qual d.params d.body d.scope (d.dvs K) (d.kws K) (d.at_.ad K) fd := by
  unfold DefA.fine at c
  unfold fnAt at e
  rw [Bool.and_eq_true] at c
  obtain ⟨kp, c⟩ := c
  split at e
  · rename_i oc od fd osl q
    rw [q] at c
    simp only [Bool.and_eq_true] at c
    obtain ⟨c1, c2, c3⟩ := c
    obtain ⟨n1, n2, n3, n4, n5, n6, n7, n8, n9, n10, n11, n12, n13, n14, n15⟩ := fd
    simp only [DefA.want, Option.some.injEq, Prod.mk.injEq] at e
    obtain ⟨h1, h2, h3, h4, h5, h6, h7, h8⟩ := e
    subst h1 h2 h3 h4 h5 h6 h7 h8
    exact ⟨_, ⟨oc, od, n8, n9, n10, n11, n12, n13, n14, osl, rfl, q, c1, He.dflB_ok c2, He.kwdB_ok c3⟩, kp⟩
  · simp [DefA.want] at e

def d_is_integer : DefA := ⟨.glo "is_integer", "is_integer", "is_integer", defArgs s_is_integer, defBody s_is_integer, defScope s_is_integer, [], []⟩
def d_is_number : DefA := ⟨.glo "is_number", "is_number", "is_number", defArgs s_is_number, defBody s_is_number, defScope s_is_number, [], []⟩
def d_is_between : DefA := ⟨.glo "is_between", "is_between", "is_between", defArgs s_is_between, defBody s_is_between, defScope s_is_between, [], []⟩
def d_has_only : DefA := ⟨.glo "has_only", "has_only", "has_only", defArgs s_has_only, defBody s_has_only, defScope s_has_only, [], []⟩
def d_is_name : DefA := ⟨.glo "is_name", "is_name", "is_name", defArgs s_is_name, defBody s_is_name, defScope s_is_name, [], []⟩
def d_is_array : DefA := ⟨.glo "is_array", "is_array", "is_array", defArgs s_is_array, defBody s_is_array, defScope s_is_array, [], []⟩
def d_numeral_in : DefA := ⟨.glo "numeral_in", "numeral_in", "numeral_in", defArgs s_numeral_in, defBody s_numeral_in, defScope s_numeral_in, [], []⟩
def d_number_in : DefA := ⟨.glo "number_in", "number_in", "number_in", defArgs s_number_in, defBody s_number_in, defScope s_number_in, [], []⟩
def d_first_value_in : DefA := ⟨.glo "first_value_in", "first_value_in", "first_value_in", defArgs s_first_value_in, defBody s_first_value_in, defScope s_first_value_in, [], []⟩
def d_common_multiple : DefA := ⟨.glo "common_multiple", "common_multiple", "common_multiple", defArgs s_common_multiple, defBody s_common_multiple, defScope s_common_multiple, [], []⟩
def d_steps_in : DefA := ⟨.glo "steps_in", "steps_in", "steps_in", defArgs s_steps_in, defBody s_steps_in, defScope s_steps_in, [], []⟩
def d_words_of_lines : DefA := ⟨.glo "words_of_lines", "words_of_lines", "words_of_lines", defArgs s_words_of_lines, defBody s_words_of_lines, defScope s_words_of_lines, [], []⟩
def d_are_names : DefA := ⟨.glo "are_names", "are_names", "are_names", defArgs s_are_names, defBody s_are_names, defScope s_are_names, [], []⟩
def d_are_unlike : DefA := ⟨.glo "are_unlike", "are_unlike", "are_unlike", defArgs s_are_unlike, defBody s_are_unlike, defScope s_are_unlike, [], []⟩
def d_offset_in : DefA := ⟨.glo "offset_in", "offset_in", "offset_in", defArgs s_offset_in, defBody s_offset_in, defScope s_offset_in, [], []⟩
def d_widths_of : DefA := ⟨.glo "widths_of", "widths_of", "widths_of", defArgs s_widths_of, defBody s_widths_of, defScope s_widths_of, [], []⟩
def d_is_take : DefA := ⟨.glo "is_take", "is_take", "is_take", defArgs s_is_take, defBody s_is_take, defScope s_is_take, [], []⟩
def d_value_in : DefA := ⟨.glo "value_in", "value_in", "value_in", defArgs s_value_in, defBody s_value_in, defScope s_value_in, [], []⟩
def d_statement_in : DefA := ⟨.glo "statement_in", "statement_in", "statement_in", defArgs s_statement_in, defBody s_statement_in, defScope s_statement_in, [], []⟩
def d_Readeru_initu : DefA := ⟨.meth "Reader" "__init__", "__init__", "Reader.__init__", defArgs s_Readeru_initu, defBody s_Readeru_initu, defScope s_Readeru_initu, [], []⟩
def d_Reader_is_at : DefA := ⟨.meth "Reader" "is_at", "is_at", "Reader.is_at", defArgs s_Reader_is_at, defBody s_Reader_is_at, defScope s_Reader_is_at, [], []⟩
def d_Reader_bound_in : DefA := ⟨.meth "Reader" "bound_in", "bound_in", "Reader.bound_in", defArgs s_Reader_bound_in, defBody s_Reader_bound_in, defScope s_Reader_bound_in, [], []⟩
def d_Reader_lines_in : DefA := ⟨.meth "Reader" "lines_in", "lines_in", "Reader.lines_in", defArgs s_Reader_lines_in, defBody s_Reader_lines_in, defScope s_Reader_lines_in, [], []⟩
def d_Reader_choice_in : DefA := ⟨.meth "Reader" "choice_in", "choice_in", "Reader.choice_in", defArgs s_Reader_choice_in, defBody s_Reader_choice_in, defScope s_Reader_choice_in, [], []⟩
def d_Reader_rounds_in : DefA := ⟨.meth "Reader" "rounds_in", "rounds_in", "Reader.rounds_in", defArgs s_Reader_rounds_in, defBody s_Reader_rounds_in, defScope s_Reader_rounds_in, [], []⟩
def d_statements_of : DefA := ⟨.glo "statements_of", "statements_of", "statements_of", defArgs s_statements_of, defBody s_statements_of, defScope s_statements_of, [], []⟩
def d_places_of : DefA := ⟨.glo "places_of", "places_of", "places_of", defArgs s_places_of, defBody s_places_of, defScope s_places_of, [], []⟩
def d_parts_of_program : DefA := ⟨.glo "parts_of_program", "parts_of_program", "parts_of_program", defArgs s_parts_of_program, defBody s_parts_of_program, defScope s_parts_of_program, [], []⟩
def d_Programu_initu : DefA := ⟨.meth "Program" "__init__", "__init__", "Program.__init__", defArgs s_Programu_initu, defBody s_Programu_initu, defScope s_Programu_initu, [], []⟩
def d_Program_lines : DefA := ⟨.prop "Program" "lines", "lines", "Program.lines", defArgs s_Program_lines, defBody s_Program_lines, defScope s_Program_lines, [], []⟩
def d_Program_body : DefA := ⟨.prop "Program" "body", "body", "Program.body", defArgs s_Program_body, defBody s_Program_body, defScope s_Program_body, [], []⟩
def d_Program_check_index : DefA := ⟨.meth "Program" "check_index", "check_index", "Program.check_index", defArgs s_Program_check_index, defBody s_Program_check_index, defScope s_Program_check_index, [], []⟩
def d_Program_without : DefA := ⟨.meth "Program" "without", "without", "Program.without", defArgs s_Program_without, defBody s_Program_without, defScope s_Program_without, [], []⟩
def d_Costsu_initu : DefA := ⟨.meth "Costs" "__init__", "__init__", "Costs.__init__", defArgs s_Costsu_initu, defBody s_Costsu_initu, defScope s_Costsu_initu, [], [("works", .int 1), ("loads", .int 1), ("stores", .int 1), ("copies", .int 1), ("steps", .int 1), ("tests", .int 1)]⟩
def d_prices_of : DefA := ⟨.glo "prices_of", "prices_of", "prices_of", defArgs s_prices_of, defBody s_prices_of, defScope s_prices_of, [], []⟩
def d_height_at : DefA := ⟨.glo "height_at", "height_at", "height_at", defArgs s_height_at, defBody s_height_at, defScope s_height_at, [], []⟩
def d_check_form : DefA := ⟨.glo "check_form", "check_form", "check_form", defArgs s_check_form, defBody s_check_form, defScope s_check_form, [], []⟩
def d_combined : DefA := ⟨.glo "combined", "combined", "combined", defArgs s_combined, defBody s_combined, defScope s_combined, [], []⟩
def d_is_zero : DefA := ⟨.glo "is_zero", "is_zero", "is_zero", defArgs s_is_zero, defBody s_is_zero, defScope s_is_zero, [], []⟩
def d_Formu_initu : DefA := ⟨.meth "Form" "__init__", "__init__", "Form.__init__", defArgs s_Formu_initu, defBody s_Formu_initu, defScope s_Formu_initu, [], []⟩
def d_Formu_callu : DefA := ⟨.meth "Form" "__call__", "__call__", "Form.__call__", defArgs s_Formu_callu, defBody s_Formu_callu, defScope s_Formu_callu, [], []⟩
def d_Formu_addu : DefA := ⟨.meth "Form" "__add__", "__add__", "Form.__add__", defArgs s_Formu_addu, defBody s_Formu_addu, defScope s_Formu_addu, [], []⟩
def d_Formu_subu : DefA := ⟨.meth "Form" "__sub__", "__sub__", "Form.__sub__", defArgs s_Formu_subu, defBody s_Formu_subu, defScope s_Formu_subu, [], []⟩
def d_Formu_equ : DefA := ⟨.meth "Form" "__eq__", "__eq__", "Form.__eq__", defArgs s_Formu_equ, defBody s_Formu_equ, defScope s_Formu_equ, [], []⟩
def d_spent : DefA := ⟨.glo "spent", "spent", "spent", defArgs s_spent, defBody s_spent, defScope s_spent, [], []⟩
def d_round_of : DefA := ⟨.glo "round_of", "round_of", "round_of", defArgs s_round_of, defBody s_round_of, defScope s_round_of, [], []⟩
def d_long_while : DefA := ⟨.glo "long_while", "long_while", "long_while", defArgs s_long_while, defBody s_long_while, defScope s_long_while, [], []⟩
def d_time_of : DefA := ⟨.glo "time_of", "time_of", "time_of", defArgs s_time_of, defBody s_time_of, defScope s_time_of, [.non], []⟩
def d_last_below : DefA := ⟨.glo "last_below", "last_below", "last_below", defArgs s_last_below, defBody s_last_below, defScope s_last_below, [], []⟩
def d_never_more : DefA := ⟨.glo "never_more", "never_more", "never_more", defArgs s_never_more, defBody s_never_more, defScope s_never_more, [], []⟩
def d_never_more_from : DefA := ⟨.glo "never_more_from", "never_more_from", "never_more_from", defArgs s_never_more_from, defBody s_never_more_from, defScope s_never_more_from, [], []⟩
def d_z_purse : DefA := ⟨.glo "_law_purse", "_law_purse", "_law_purse", defArgs s_z_purse, defBody s_z_purse, defScope s_z_purse, [], []⟩
def d_z_pick : DefA := ⟨.glo "_law_pick", "_law_pick", "_law_pick", defArgs s_z_pick, defBody s_z_pick, defScope s_z_pick, [], []⟩
def d_z_spot : DefA := ⟨.glo "_law_spot", "_law_spot", "_law_spot", defArgs s_z_spot, defBody s_z_spot, defScope s_z_spot, [], []⟩
def d_z_line : DefA := ⟨.glo "_law_line", "_law_line", "_law_line", defArgs s_z_line, defBody s_z_line, defScope s_z_line, [], []⟩
def d_z_step : DefA := ⟨.glo "_law_step", "_law_step", "_law_step", defArgs s_z_step, defBody s_z_step, defScope s_z_step, [], []⟩
def d_z_body : DefA := ⟨.glo "_law_body", "_law_body", "_law_body", defArgs s_z_body, defBody s_z_body, defScope s_z_body, [], []⟩
def d_z_rows : DefA := ⟨.glo "_law_rows", "_law_rows", "_law_rows", defArgs s_z_rows, defBody s_z_rows, defScope s_z_rows, [], []⟩
def d_z_lines : DefA := ⟨.glo "_law_lines", "_law_lines", "_law_lines", defArgs s_z_lines, defBody s_z_lines, defScope s_z_lines, [], []⟩
def d_z_paid : DefA := ⟨.glo "_law_paid", "_law_paid", "_law_paid", defArgs s_z_paid, defBody s_z_paid, defScope s_z_paid, [], []⟩
def d_z_numbered : DefA := ⟨.glo "_law_numbered", "_law_numbered", "_law_numbered", defArgs s_z_numbered, defBody s_z_numbered, defScope s_z_numbered, [], []⟩
def d_z_often : DefA := ⟨.glo "_law_often", "_law_often", "_law_often", defArgs s_z_often, defBody s_z_often, defScope s_z_often, [], []⟩
def d_z_statements : DefA := ⟨.glo "_law_statements", "_law_statements", "_law_statements", defArgs s_z_statements, defBody s_z_statements, defScope s_z_statements, [], []⟩
def d_z_sums_right : DefA := ⟨.glo "_law_sums_right", "_law_sums_right", "_law_sums_right", defArgs s_z_sums_right, defBody s_z_sums_right, defScope s_z_sums_right, [], []⟩
def d_z_without_right : DefA := ⟨.glo "_law_without_right", "_law_without_right", "_law_without_right", defArgs s_z_without_right, defBody s_z_without_right, defScope s_z_without_right, [], []⟩
def d_z_right : DefA := ⟨.glo "_law_right", "_law_right", "_law_right", defArgs s_z_right, defBody s_z_right, defScope s_z_right, [], []⟩
def d_law : DefA := ⟨.glo "law", "law", "law", defArgs s_law, defBody s_law, defScope s_law, [], []⟩
def fns : List DefA := [d_is_integer, d_is_number, d_is_between, d_has_only, d_is_name, d_is_array, d_numeral_in, d_number_in, d_first_value_in, d_common_multiple, d_steps_in, d_words_of_lines, d_are_names, d_are_unlike, d_offset_in, d_widths_of, d_is_take, d_value_in, d_statement_in, d_Readeru_initu, d_Reader_is_at, d_Reader_bound_in, d_Reader_lines_in, d_Reader_choice_in, d_Reader_rounds_in, d_statements_of, d_places_of, d_parts_of_program, d_Programu_initu, d_Program_lines, d_Program_body, d_Program_check_index, d_Program_without, d_Costsu_initu, d_prices_of, d_height_at, d_check_form, d_combined, d_is_zero, d_Formu_initu, d_Formu_callu, d_Formu_addu, d_Formu_subu, d_Formu_equ, d_spent, d_round_of, d_long_while, d_time_of, d_last_below, d_never_more, d_never_more_from, d_z_purse, d_z_pick, d_z_spot, d_z_line, d_z_step, d_z_body, d_z_rows, d_z_lines, d_z_paid, d_z_numbered, d_z_often, d_z_statements, d_z_sums_right, d_z_without_right, d_z_right, d_law]


/-! ### what is told of the top -/
def freeNames : List Str := ["isinstance", "len", "all", "any", "int", "set", "tuple", "list", "sorted", "range", "max", "min", "sum", "dict", "zip", "divmod", "abs", "str", "repr", "bool"]
def gloNames : List Str := (["is_integer", "is_number", "is_between", "has_only", "is_name", "is_array", "numeral_in", "number_in", "first_value_in", "common_multiple", "steps_in", "words_of_lines", "are_names", "are_unlike", "offset_in", "widths_of", "is_take", "value_in", "statement_in", "Reader", "statements_of", "places_of", "parts_of_program", "Program", "Costs", "prices_of", "height_at", "check_form"] : List Str) ++ (["combined", "is_zero", "Form", "spent", "round_of", "long_while", "time_of", "last_below", "never_more", "never_more_from", "_law_purse", "_law_pick", "_law_spot", "_law_line", "_law_step", "_law_body", "_law_rows", "_law_lines", "_law_paid", "_law_numbered", "_law_often", "_law_statements", "_law_sums_right", "_law_without_right", "_law_right", "law", "KEYWORDS"] : List Str)
def intNames : List (Str × Int) := [("MOST_OFFSET", 4), ("MOST_LINES", 400), ("MOST_PLACES", 80), ("MOST_BOUND", 12), ("MOST_DEEP", 3), ("MOST_TOGETHER", 8), ("MOST_COST", 1000)]
def strNames : List (Str × Str) := [("LETTERS", "abcdefghijklmnopqrstuvwxyz"), ("CAPITALS", "ABCDEFGHIJKLMNOPQRSTUVWXYZ"), ("DIGITS", "0123456789")]
def clsNames : List Str := ["Reader", "Program", "Costs", "Form"]
def fldNames : List (Str × Str) := [("Reader", "rows"), ("Reader", "at"), ("Program", "written"), ("Program", "parts"), ("Costs", "prices"), ("Form", "held")]
def methNames : List (Str × Str) := [("Reader", "is_at"), ("Reader", "bound_in"), ("Reader", "lines_in"), ("Reader", "choice_in"), ("Reader", "rounds_in"), ("Program", "check_index"), ("Program", "without"), ("Form", "__call__"), ("Form", "__add__"), ("Form", "__sub__"), ("Form", "__eq__")]
def propNames : List (Str × Str) := [("Program", "lines"), ("Program", "body")]
def keywords : List Str := ["in", "out", "load", "store", "take", "step", "if", "else", "while", "end"]
def optB {α : Type} [DecidableEq α] (a b : α) : Bool := decide (a = b)
def propB (K : PySem.W.Frag) (C f : Str) : Bool :=
  optB (PySem.W.findIn K (.ref (He.ga K C)) f) (some (some (.ref (He.ma K (He.ga K C) f)))) && (optB (PySem.W.specialIn K (.ref (He.ma K (He.ga K C) f)) "__get__") (some (some (.builtin "property.__get__"))) && (optB (PySem.W.takesIn K (.ref (He.ma K (He.ga K C) f))) (some true) &&
    (match PySem.W.recIn K (He.ma K (He.ga K C) f) "property" with
      | some (.ref _ :: _) => true
      | _ => false)))
def insB (K : PySem.W.Frag) (C : Str) : Bool :=
  optB (PySem.W.findIn K (.ref (He.ga K C)) "__class__") (some (some (.builtin "object.__class__"))) && (optB (PySem.W.specialIn K (.builtin "object.__class__") "__get__") (some (some (.builtin "getset_descriptor.__get__"))) && (optB (PySem.W.takesIn K (.builtin "object.__class__")) (some true) &&
    (optB (PySem.W.mroIn K (He.ga K C) (.type "object")) (some true) && (optB (PySem.W.kitOne K (.ref (He.ga K C)) (.ref (He.ga K C))) (some true) && (PySem.W.selfFirst K (He.ga K C) && PySem.W.keepIn K (.ref (He.ga K C)))))))
def extraB (K : PySem.W.Frag) : Bool :=
  He.tupB K "KEYWORDS" (keywords.map He.Dv.str) && (PySem.W.fnIn K (He.ma K (He.ga K "Form") "__call__") && optB (PySem.W.findIn K (.ref (He.ga K "Form")) "__ne__") (some (some (.builtin "object.__ne__"))))
def factsB (K : PySem.W.Frag) : Bool :=
  (freeNames.all fun x => (He.Fa.free x).ok K) && ((gloNames.all fun x => (He.Fa.glo x).ok K) && ((intNames.all fun q => (He.Fa.int q.1 q.2).ok K) && ((strNames.all fun q => (He.Fa.str q.1 q.2).ok K) && ((clsNames.all fun x => (He.Fa.cls x).ok K && ((He.Fa.mkr x).ok K && insB K x)) &&
    ((fldNames.all fun q => (He.Fa.noat q.1 q.2).ok K) && ((methNames.all fun q => (He.Fa.meth q.1 q.2).ok K) && ((propNames.all fun q => propB K q.1 q.2) && (extraB K && fns.all fun d => d.fine K))))))))
abbrev AlO : Type := Bool × List He.FnW
def obsO (K : PySem.W.Frag) : AlO := (factsB K, fns.map fun d => fnAt K (d.at_.ad K))
def valO : AlO := (true, fns.map DefA.want)
def SaysO (K : PySem.W.Frag) : Prop := obsO K = valO
/-- the addresses that are looked at: by levels from the module's names -/
def kindS (o : Obj) : Bool := match o.data with
  | .func _ => true
  | .cls _ => true
  | .seq _ _ => true
  | .fields _ => optB o.cls (.type "property")
  | _ => false
def refsS (g : Addr → Option Obj) (o : Obj) : List Addr := match o.data with
  | .func fd => He.refV fd.code ++ (He.refV fd.defaults ++ He.refV fd.kwdefaults)
  | .cls cd => [cd.ns]
  | .dict es _ => (es.toList.flatMap fun e => He.refV e.val).filter fun a => (match g a with
    | some u => kindS u
    | none => false)
  | .fields vs => if optB o.cls (.type "property") = true then vs.toList.flatMap He.refV else []
  | _ => []
def nextS (g : Addr → Option Obj) (as : List Addr) : List Addr := as.flatMap fun a => match g a with
  | some o => refsS g o
  | none => []
def goS (g : Addr → Option Obj) : Nat → List Addr → List Addr
  | 0, as => as
  | n + 1, as => as ++ goS g n (nextS g as)
def obsOG (n : Nat) (g : Addr → Option Obj) : AlO := obsO (He.frG g (goS g n [mainGlobals]))
def hookO (n : Nat) : PySem.W.Hook where
  α := AlO
  obs := fun s => obsOG n s.heap.get?
  val := fun _ => valO
  says := fun _ h => ∃ K : PySem.W.Frag, K.In h ∧ SaysO K
  of := fun _ _ e => ⟨_, He.frG_in, e⟩
  keeps := fun _ _ _ ⟨K, hK, c⟩ k => ⟨K, PySem.W.Frag.In.keeps hK k, c⟩
theorem obsOG_eq {n : Nat} {g : Addr → Option Obj} {s : Shared} (h : ∀ a, g a = s.heap.get? a) : obsOG n g = (hookO n).obs s := by
  have e : g = s.heap.get? := funext h
  rw [e] <;> rfl

/-- what every def's proof leans on -/
structure Zf (K : PySem.W.Frag) (mg : Str → Option Value) : Prop where
  ex : ∃ h : Heap, K.In h ∧ h.Ns mainGlobals mg
  says : SaysO K
section
variable {K : PySem.W.Frag} {mg : Str → Option Value}
theorem Zf.facts (Z : Zf K mg) : factsB K = true := congrArg (fun z : AlO => z.1) Z.says
theorem mem_dec {α : Type} {x : α} {l : List α} [Decidable (x ∈ l)] (h : decide (x ∈ l) = true) : x ∈ l := of_decide_eq_true h
theorem Zf.free (Z : Zf K mg) (x : Str) (h : decide (x ∈ freeNames) = true := by decide +kernel) : mg x = none := by
  obtain ⟨hp, X, G⟩ := Z.ex
  have c := Z.facts
  simp only [factsB, Bool.and_eq_true] at c
  exact He.free_ok X G (List.all_eq_true.mp c.1 x (mem_dec h))
theorem Zf.glo (Z : Zf K mg) (x : Str) (h : decide (x ∈ gloNames) = true := by decide +kernel) : mg x = some (.ref (He.ga K x)) := by
  obtain ⟨hp, X, G⟩ := Z.ex
  have c := Z.facts
  simp only [factsB, Bool.and_eq_true] at c
  exact He.glo_ok X G (List.all_eq_true.mp c.2.1 x (mem_dec h))
theorem Zf.int (Z : Zf K mg) (x : Str) (i : Int) (h : decide ((x, i) ∈ intNames) = true := by decide +kernel) : ∃ t, mg x = some (.int i t) := by
  obtain ⟨hp, X, G⟩ := Z.ex
  have c := Z.facts
  simp only [factsB, Bool.and_eq_true] at c
  exact He.int_ok X G (List.all_eq_true.mp c.2.2.1 (x, i) (mem_dec h))
theorem Zf.str (Z : Zf K mg) (x z : Str) (h : decide ((x, z) ∈ strNames) = true := by decide +kernel) : ∃ t, mg x = some (.str z t) := by
  obtain ⟨hp, X, G⟩ := Z.ex
  have c := Z.facts
  simp only [factsB, Bool.and_eq_true] at c
  exact He.str_ok X G (List.all_eq_true.mp c.2.2.2.1 (x, z) (mem_dec h))
theorem Zf.clsAll (Z : Zf K mg) (x : Str) (h : decide (x ∈ clsNames) = true) : (He.Fa.cls x).ok K = true ∧ (He.Fa.mkr x).ok K = true ∧ insB K x = true := by
  have c := Z.facts
  simp only [factsB, Bool.and_eq_true] at c
  have q := List.all_eq_true.mp c.2.2.2.2.1 x (mem_dec h)
  simp only [Bool.and_eq_true] at q
  exact q
theorem Zf.cls (Z : Zf K mg) (x : Str) (h : decide (x ∈ clsNames) = true := by decide +kernel) : Cls K (He.ga K x) := He.cls_ok (Z.clsAll x h).1
theorem Zf.mkr (Z : Zf K mg) (x : Str) (h : decide (x ∈ clsNames) = true := by decide +kernel) : Mk K (He.ga K x) (He.ma K (He.ga K x) "__init__") := He.mkr_ok (Z.clsAll x h).2.1
theorem Zf.ins (Z : Zf K mg) (x : Str) (h : decide (x ∈ clsNames) = true := by decide +kernel) : C8.InsC K (He.ga K x) ∧ PySem.W.selfFirst K (He.ga K x) = true ∧ PySem.W.keepIn K (.ref (He.ga K x)) = true := by
  have c := (Z.clsAll x h).2.2
  simp only [insB, Bool.and_eq_true, optB, decide_eq_true_eq] at c
  exact ⟨⟨Z.cls x h, c.1, c.2.1, c.2.2.1, c.2.2.2.1, c.2.2.2.2.1⟩, c.2.2.2.2.2.1, c.2.2.2.2.2.2⟩
theorem Zf.noat (Z : Zf K mg) (x f : Str) (h : decide ((x, f) ∈ fldNames) = true := by decide +kernel) : NoAttr K (He.ga K x) f := by
  have c := Z.facts
  simp only [factsB, Bool.and_eq_true] at c
  exact He.noat_ok (List.all_eq_true.mp c.2.2.2.2.2.1 (x, f) (mem_dec h))
theorem Zf.meth (Z : Zf K mg) (x m : Str) (h : decide ((x, m) ∈ methNames) = true := by decide +kernel) : Meth K (He.ga K x) m (He.ma K (He.ga K x) m) := by
  have c := Z.facts
  simp only [factsB, Bool.and_eq_true] at c
  exact He.meth_ok (List.all_eq_true.mp c.2.2.2.2.2.2.1 (x, m) (mem_dec h))
theorem Zf.prop (Z : Zf K mg) (x f : Str) (h : decide ((x, f) ∈ propNames) = true := by decide +kernel) : PropOf K (He.ga K x) f (He.ma K (He.ga K x) f) (getterOf K (He.ma K (He.ga K x) f)) := by
  have c := Z.facts
  simp only [factsB, Bool.and_eq_true] at c
  have q := List.all_eq_true.mp c.2.2.2.2.2.2.2.1 (x, f) (mem_dec h)
  simp only [propB, Bool.and_eq_true, optB, decide_eq_true_eq] at q
  obtain ⟨q1, q2, q3, q4⟩ := q
  refine ⟨q1, q2, q3, ?_⟩
  unfold getterOf
  split at q4
  · rename_i g rest e
    exact ⟨rest, by rw [e]⟩
  · cases q4
theorem Zf.extra (Z : Zf K mg) : extraB K = true := by
  have c := Z.facts
  simp only [factsB, Bool.and_eq_true] at c
  exact c.2.2.2.2.2.2.2.2.1
theorem Zf.kw (Z : Zf K mg) (H : Hp) : SqT K H (He.ga K "KEYWORDS") (keywords.map V.str) := by
  have c := Z.extra
  simp only [extraB, Bool.and_eq_true] at c
  exact He.tupB_ok c.1 H
theorem Zf.callF (Z : Zf K mg) : PySem.W.fnIn K (He.ma K (He.ga K "Form") "__call__") = true := by
  have c := Z.extra
  simp only [extraB, Bool.and_eq_true] at c
  exact c.2.1
theorem Zf.neF (Z : Zf K mg) : PySem.W.findIn K (.ref (He.ga K "Form")) "__ne__" = some (some (.builtin "object.__ne__")) := by
  have c := Z.extra
  simp only [extraB, Bool.and_eq_true, optB, decide_eq_true_eq] at c
  exact c.2.2
theorem Zf.def_ (Z : Zf K mg) (i : Nat) {d : DefA} (h : fns[i]? = some d := by rfl) : ∃ fd, FunD K d.name d.qual d.params d.body d.scope (d.dvs K) (d.kws K) (d.at_.ad K) fd := by
  have c := Z.facts
  simp only [factsB, Bool.and_eq_true] at c
  have e : fns.map (fun d => fnAt K (d.at_.ad K)) = fns.map DefA.want := congrArg (fun z : AlO => z.2) Z.says
  have e2 : (fns.map fun d => fnAt K (d.at_.ad K))[i]? = (fns.map DefA.want)[i]? := by rw [e]
  rw [List.getElem?_map, List.getElem?_map, h] at e2
  exact DefA.get (Option.some.inj e2) (List.all_eq_true.mp c.2.2.2.2.2.2.2.2.2 d (List.mem_of_getElem? h))
end

/-! ### defs as callers see them -/
section
variable {P : Program} {w : World} {K : PySem.W.Frag} {mg : Str → Option Value} {base : Heap}
/-- a def of the module, by its name -/
structure Df (P : Program) (w : World) (K : PySem.W.Frag) (mg : Str → Option Value) (base : Heap) (x : Str) (k : Nat) (ps : List Str) (sp : Sp) : Prop where
  ex : ∃ f fd, FnOk P w K mg base CX0 k f fd ps sp ∧ mg x = some (.ref f) ∧ PySem.W.keepIn K (.ref f) = true ∧ Binds K fd ps []
/-- a method of a class of the module -/
structure Mf (P : Program) (w : World) (K : PySem.W.Frag) (mg : Str → Option Value) (base : Heap) (C m : Str) (k : Nat) (ps : List Str) (sp : Sp) : Prop where
  ex : ∃ fd, FnOk P w K mg base CX0 k (He.ma K (He.ga K C) m) fd ps sp ∧ Binds K fd ps []
/-- THE RULE for a def of the module without defaults -/
theorem def_ok {N ps : List Str} {k : Nat} {sp : Sp} (Z : Zf K mg) (i : Nat) {x : Str} {st : Stmt} (h : fns[i]? = some ⟨.glo x, x, x, defArgs st, defBody st, defScope st, [], []⟩) (hx : decide (x ∈ gloNames) = true) (S : FnScope N ps (defScope st))
    (bind : ∀ (kV doc pm : Value) (an : Option Addr) (cdv ct : Value) (us : List Value), us.length = ps.length → bindArgs (PySem.W.fnOf x x (defArgs st) (defBody st) (defScope st) .none kV doc pm an cdv ct) ⟨us, []⟩ = pure (ps.zip us))
    (len : ∀ vs H Q E, sp vs H Q E → vs.length = ps.length)
    (hbody : ∀ (f : Addr) (cdv : Value) (A : Around) (outer : List Env) (s : Shared) (H : Hp) (vs : List V) (Q : VK) (E : XK), Room k (A.deeper (envOfC x (defScope st) s.heap.objs.size f cdv)) → sp vs H Q E →
      ∃ t, PSs (cxOf CX0 P w K mg base N x (defScope st) f cdv A outer s H E).nox (defBody st) t ∧ t { nx := fun _ H' => Q .non H', rt := Q } (start N vs) H) : Df P w K mg base x (k + 1) ps sp := by
  obtain ⟨fd, F⟩ := Z.def_ i h
  refine ⟨He.ga K x, fd, F.ok S len fun cdv A outer s H vs Q E hr hs => ?_, Z.glo x hx, F.kp, F.bindsN bind⟩
  obtain ⟨t, h1, h2⟩ := hbody (He.ga K x) cdv A outer s H vs Q E hr hs
  exact ⟨t, h1.nox, h2⟩
theorem meth_ok {N ps : List Str} {k : Nat} {sp : Sp} (Z : Zf K mg) (i : Nat) {C m q : Str} {st : Stmt} (h : fns[i]? = some ⟨.meth C m, m, q, defArgs st, defBody st, defScope st, [], []⟩) (S : FnScope N ps (defScope st))
    (bind : ∀ (kV doc pm : Value) (an : Option Addr) (cdv ct : Value) (us : List Value), us.length = ps.length → bindArgs (PySem.W.fnOf m q (defArgs st) (defBody st) (defScope st) .none kV doc pm an cdv ct) ⟨us, []⟩ = pure (ps.zip us))
    (len : ∀ vs H Q E, sp vs H Q E → vs.length = ps.length)
    (hbody : ∀ (f : Addr) (cdv : Value) (A : Around) (outer : List Env) (s : Shared) (H : Hp) (vs : List V) (Q : VK) (E : XK), Room k (A.deeper (envOfC q (defScope st) s.heap.objs.size f cdv)) → sp vs H Q E →
      ∃ t, PSs (cxOf CX0 P w K mg base N q (defScope st) f cdv A outer s H E).nox (defBody st) t ∧ t { nx := fun _ H' => Q .non H', rt := Q } (start N vs) H) : Mf P w K mg base C m (k + 1) ps sp := by
  obtain ⟨fd, F⟩ := Z.def_ i h
  refine ⟨fd, F.ok S len fun cdv A outer s H vs Q E hr hs => ?_, F.bindsN bind⟩
  obtain ⟨t, h1, h2⟩ := hbody _ cdv A outer s H vs Q E hr hs
  exact ⟨t, h1.nox, h2⟩
end
section
variable {X : Cx} {k k' : Nat} {ps : List Str} {sp : Sp} {x C m : Str} {p pos apos : Pos} {e o : Expr} {es : List Expr} {t : TA} {ta : TE}
/-- a call of such a def -/
theorem pe_callD (D : Df X.prog X.w X.K X.mg X.base x k ps sp) (hr : Room k' X.A) (hk : k ≤ k') (hg : Gl X x) (ha : PA X (e :: es) t) (hdb : (x == ("__debug__" : Str)) = false := by decide)
    (he : starEach (e :: es) X.env = (false, eval e X.env) :: starEach es X.env := by rfl) (hpl : (backTo pos (starEach es X.env)).any (·.1) = false := by rfl) : PE X (.Call (.Name x p) (e :: es) [] pos) (tCall sp [] E0 t) := by
  obtain ⟨f, fd, F, m, kp, b⟩ := D.ex
  exact pe_call F (hr.mono hk) hg m kp b .nil pass0 ha hdb he hpl
theorem pe_methD {pl : Sem Bool} (D : Mf X.prog X.w X.K X.mg X.base C m k ps sp) (c : Cls X.K (He.ga X.K C)) (hm : Meth X.K (He.ga X.K C) m (He.ma X.K (He.ga X.K C) m)) (hr : Room k' X.A) (hk : k ≤ k') (ho : PE X o ta) (ha : PA X (e :: es) t)
    (hst : starEach (e :: es) X.env = (false, eval e X.env) :: starEach es X.env := by rfl) (hpl : (backTo pos (starEach es X.env)).any (·.1) = false := by rfl)
    (ht : eval (.Call (.Attribute o m apos) (e :: es) [] pos) X.env = (do
      let ov ← eval o X.env
      standAt apos.atName
      let (f, first) ← holding [ov] (getMethod ov m pl)
      callWith pos f first (backTo pos (starEach (e :: es) X.env)) (backToKw pos (keywordEach [] X.env))) := by rfl) :
    PE X (.Call (.Attribute o m apos) (e :: es) [] pos) (tMeth (He.ga X.K C) m sp [] E0 ta t) := by
  obtain ⟨fd, F, b⟩ := D.ex
  exact pe_meth ho c hm F (hr.mono hk) b .nil pass0 ha hst hpl ht
theorem pe_methD0 {pl : Sem Bool} (D : Mf X.prog X.w X.K X.mg X.base C m k ps sp) (c : Cls X.K (He.ga X.K C)) (hm : Meth X.K (He.ga X.K C) m (He.ma X.K (He.ga X.K C) m)) (hr : Room k' X.A) (hk : k ≤ k') (ho : PE X o ta)
    (ht : eval (.Call (.Attribute o m apos) [] [] pos) X.env = (do
      let ov ← eval o X.env
      standAt apos.atName
      let (f, first) ← holding [ov] (getMethod ov m pl)
      callWith pos f first (backTo pos (starEach [] X.env)) (backToKw pos (keywordEach [] X.env))) := by rfl) :
    PE X (.Call (.Attribute o m apos) [] [] pos) (tMeth (He.ga X.K C) m sp [] E0 ta tNil) := by
  obtain ⟨fd, F, b⟩ := D.ex
  exact pe_meth0 ho c hm F (hr.mono hk) b .nil pass0 ht
/-- C(e, ..), C a class of the module -/
theorem pe_makeD (D : Mf X.prog X.w X.K X.mg X.base C "__init__" k ps sp) (M : Mk X.K (He.ga X.K C) (He.ma X.K (He.ga X.K C) "__init__")) (hm : X.mg C = some (.ref (He.ga X.K C))) (hr : Room k' X.A) (hk : k + 1 ≤ k') (hg : Gl X C) (ha : PA X (e :: es) t)
    (hdb : (C == ("__debug__" : Str)) = false := by decide) (he : starEach (e :: es) X.env = (false, eval e X.env) :: starEach es X.env := by rfl) (hpl : (backTo pos (starEach es X.env)).any (·.1) = false := by rfl) :
    PE X (.Call (.Name C p) (e :: es) [] pos) (tMake (He.ga X.K C) sp [] E0 t) := by
  obtain ⟨fd, F, b⟩ := D.ex
  exact pe_make M F (hr.mono hk) hg hm b .nil pass0 ha hdb he hpl
/-- an expression that is not come to -/
def tNev : TE := fun _ _ _ => False
theorem pe_nev : PE X e tNev := ⟨fun _ _ _ _ _ _ h => h.elim⟩
/-- a name of the module that is a number, a text, an object -/
theorem pe_gint {i : Int} (hg : Gl X x) (h : ∃ t, X.mg x = some (.int i t)) (hd : (x == ("__debug__" : Str)) = false := by decide) : PE X (.Name x p) (tC (.int i)) := by
  obtain ⟨t, h⟩ := h
  exact pe_glob hg h ⟨t, rfl⟩ hd
theorem pe_gstr {z : Str} (hg : Gl X x) (h : ∃ t, X.mg x = some (.str z t)) (hd : (x == ("__debug__" : Str)) = false := by decide) : PE X (.Name x p) (tC (.str z)) := by
  obtain ⟨t, h⟩ := h
  exact pe_glob hg h ⟨t, rfl⟩ hd
theorem pe_gref {a : Addr} (hg : Gl X x) (h : X.mg x = some (.ref a)) (hd : (x == ("__debug__" : Str)) = false := by decide) : PE X (.Name x p) (tC (.ref a)) := pe_glob hg h rfl hd
/-- int, str, bool as values -/
theorem pe_ty (n : String) (hg : Gl X x) (hm : X.mg x = none) (hv : bootBuiltins x = some (.type n)) (hn : x ≠ "__name__" := by decide) (hd : (x == ("__debug__" : Str)) = false := by decide) : PE X (.Name x p) (tC (.ty n)) := pe_bltn hg hm hv rfl hn hd
/-- the i-th slot as a target -/
theorem pgn (i : Nat) {x : Str} {pos : Pos} (hN : X.N.Nodup) (hi : X.N[i]? = some x := by rfl) (hx : Loc X.env.scope x := by first | exact Or.inl rfl | exact Or.inr rfl) (hf : X.fn x = true ∨ X.env.scope.names.lookup x = some .local := by first | exact .inl rfl | exact .inr rfl | assumption) : PG X (.Name x pos) (gName i) := pg_name hN hi hx hf
/-- isinstance(x, int | bool | str) -/
def isiB : V → String → Option Bool
  | .int _, "int" => some true
  | .int _, "bool" => some false
  | .str _, "str" => some true
  | _, _ => none
def rIsiP : List V → Hp → VK → Prop := fun xs H Q => ∃ (v : V) (n : String) (b : Bool), xs = [v, .ty n] ∧ isiB v n = some b ∧ Q (.bl b) H
theorem call_isiP : CallR X (.builtin "isinstance") rIsiP := by
  intro pins s σ H xs us Q I r h
  obtain ⟨v, n, b, rfl, hb, q⟩ := h
  obtain ⟨u, u', rfl, ru, ru'⟩ := vals2 r
  cases ru'
  unfold isiB at hb
  split at hb
  · cases hb
    exact isinst_ok I ru (TyOf.int _) (kit_ty (by decide +kernel)) fun tk => ⟨.bl true, H, I.tok _, rfl, q⟩
  · cases hb
    exact isinst_ok I ru (TyOf.int _) (kit_ty (by decide +kernel)) fun tk => ⟨.bl false, H, I.tok _, rfl, q⟩
  · cases hb
    exact isinst_ok I ru (TyOf.str _) (kit_ty (by decide +kernel)) fun tk => ⟨.bl true, H, I.tok _, rfl, q⟩
  · cases hb
end
end Ov
/-! text OvRun -/
set_option Elab.async false
set_option linter.all false
set_option maxRecDepth 100000
set_option maxHeartbeats 0
namespace Ov
open PySem PySem.Spec PyProof.Rows L2
abbrev R : PySem.W.OpenRow := PySem.W.OpenLaw.row PySem.Challenge.rw_overlapturns_k62_whole_times_by_kinds_an
def loose : List Str := (["_wall", "WrongValue", "InvalidText", "InvalidNumber", "InvalidCost", "NotAProgram", "NotAForm", "NotCosts", "LETTERS", "CAPITALS", "DIGITS", "KEYWORDS", "is_integer", "is_number", "is_between", "has_only", "is_name", "is_array", "numeral_in", "number_in", "first_value_in", "common_multiple", "MOST_OFFSET", "MOST_LINES", "MOST_PLACES", "MOST_BOUND", "steps_in", "words_of_lines", "are_names", "are_unlike"] : List Str) ++ (["offset_in", "widths_of", "MOST_DEEP", "MOST_TOGETHER", "is_take", "value_in", "statement_in", "Reader", "statements_of", "places_of", "parts_of_program", "Program", "MOST_COST", "Costs", "prices_of", "height_at", "check_form", "combined", "lowest_terms", "is_zero", "Form", "spent", "round_of", "long_while", "time_of", "last_below", "never_more", "never_more_from", "_law_purse", "_law_pick"] : List Str) ++ (["_law_spot", "_law_line", "_law_step", "_law_body", "_law_rows", "_law_lines", "_law_paid", "_law_numbered", "_law_often", "_law_statements", "_law_sums_right", "_law_without_right", "_law_right"] : List Str)
abbrev hk : PySem.W.Hook := hookO 6
def ob (s : PySem.W.SharedT) : AlO := obsOG 6 (HandSHeadRun.getT s)
theorem ob_eq (s : PySem.W.SharedT) : ob s = hk.obs s.abs := obsOG_eq (HandSHeadRun.getT_eq s)
theorem run (w : World) : HandSHeadRun.RunEq R (PySem.W.view R.prog [81]) hk ob 8000 loose w := by
  intro os
  kernel_rfl
end Ov
/-! text OvTool -/
set_option Elab.async false
set_option linter.all false
set_option maxRecDepth 100000
/-! Tools for the readings: what is new, what may change, comprehensions. -/
namespace Ov
open PySem PySem.Spec PyProof.Rows L2
abbrev Ex := Evl.Ex
/-! ### parts of the heap -/
/-- without some addresses -/
def hid (as : List Addr) (H : Hp) : Hp := fun a => if a ∈ as then none else H a
/-- what H has and H0 has not -/
def nw (H0 H : Hp) : Hp := fun a => match H0 a with
  | none => H a
  | some _ => none
section
variable {H H' H0 H1 H2 : Hp} {a b p l : Addr} {o u : HO} {as bs : List Addr}
theorem hid_some : hid as H a = some o ↔ a ∉ as ∧ H a = some o := by
  unfold hid
  by_cases c : a ∈ as
  · rw [if_pos c]; simp [c]
  · rw [if_neg c]; simp [c]
theorem hid_get (h : H a = some o) (n : a ∉ as) : hid as H a = some o := hid_some.mpr ⟨n, h⟩
theorem ex_hid : Ex (hid as H) H := fun a o h => (hid_some.mp h).2
theorem hid_mono (e : Ex H H') : Ex (hid as H) (hid as H') := fun a o h => hid_some.mpr ⟨(hid_some.mp h).1, e _ _ (hid_some.mp h).2⟩
theorem hid_upd (h : l ∈ as) : hid as (upd H l o) = hid as H := by
  funext b
  unfold hid
  by_cases c : b ∈ as
  · rw [if_pos c, if_pos c]
  · rw [if_neg c, if_neg c, upd_ne (fun e => c (by rw [e]; exact h))]
theorem hid_nil : hid [] H = H := by
  funext b
  unfold hid
  rw [if_neg (by simp)]
theorem hid_more (h : ∀ a ∈ as, a ∈ bs) : Ex (hid bs H) (hid as H) := fun a o e => hid_some.mpr ⟨fun m => (hid_some.mp e).1 (h a m), (hid_some.mp e).2⟩
theorem hid_of_ex (e : Ex H H') (n : ∀ a ∈ as, H a = none) : Ex H (hid as H') := fun a o h => hid_some.mpr ⟨fun m => (nomatch (n a m).symm.trans h), e _ _ h⟩
theorem nw_some : nw H0 H a = some o ↔ H0 a = none ∧ H a = some o := by
  unfold nw
  cases c : H0 a with
  | none => simp
  | some _ => simp
theorem nw_get (n : H0 a = none) (h : H a = some o) : nw H0 H a = some o := nw_some.mpr ⟨n, h⟩
theorem ex_nw : Ex (nw H0 H) H := fun a o h => (nw_some.mp h).2
theorem nw_mono (e : Ex H H') : Ex (nw H0 H) (nw H0 H') := fun a o h => nw_some.mpr ⟨(nw_some.mp h).1, e _ _ (nw_some.mp h).2⟩
/-- what is new behind a call is new, and is none of the things that may change -/
theorem nw_call (h0 : Ex H0 H1) (n : ∀ l ∈ as, ∃ o, H1 l = some o) (e : Ex (nw H1 H2) H) : Ex (nw H1 H2) (nw H0 (hid as H)) := fun a o h => by
  obtain ⟨n1, _⟩ := nw_some.mp h
  refine nw_get ?_ (hid_get (e _ _ h) fun m => ?_)
  · cases c : H0 a with
    | none => rfl
    | some u => rw [h0 a u c] at n1; cases n1
  · obtain ⟨u, q⟩ := n a m
    rw [q] at n1; cases n1
theorem nw_call0 (h0 : Ex H0 H1) (e : Ex (nw H1 H2) H) : Ex (nw H1 H2) (nw H0 H) := by
  have q := nw_call (as := []) h0 (fun l m => by cases m) e
  rw [hid_nil] at q
  exact q
theorem nw_none (h : H0 a = none) : nw H0 H a = H a := by
  unfold nw
  rw [h]
theorem ex_none (e : Ex H H') (h : H' a = none) : H a = none := Evl.fresh_back e h
theorem hid_none (e : Ex (hid as H) H') (h : H' a = none) (n : ∀ l ∈ as, ∃ o, H' l = some o) : H a = none := by
  cases c : H a with
  | none => rfl
  | some u =>
    by_cases m : a ∈ as
    · obtain ⟨o, q⟩ := n a m
      rw [q] at h; cases h
    · rw [e a u (hid_get c m)] at h; cases h
theorem ex_upd (e : Ex H H') (h : H l = none) : Ex H (upd H' l o) := Evl.Ex.mut e h
/-- a change of a thing that is hidden -/
theorem hex_upd (e : Ex (hid as H) (hid as H')) (h : l ∈ as) : Ex (hid as H) (hid as (upd H' l o)) := by
  rw [hid_upd h]; exact e
theorem hex_new (e : Ex (hid as H) (hid as H')) (h : H' p = none) : Ex (hid as H) (hid as (upd H' p o)) := Evl.Ex.trans e (hid_mono (Evl.Ex.new h))
end

/-! ### lists that are made turn by turn -/
def Made (flag : Nat → Bool) (Pr : Nat → V → Hp → Prop) : Nat → List V → Hp → Prop
  | 0, ys, _ => ys = []
  | n + 1, ys, H => if flag n = true then ∃ ys0 y, ys = ys0 ++ [y] ∧ Made flag Pr n ys0 H ∧ Pr n y H else Made flag Pr n ys H
def Mono (Pr : Nat → V → Hp → Prop) : Prop := ∀ i v H H', Ex H H' → Pr i v H → Pr i v H'
theorem Made.mono {flag : Nat → Bool} {Pr : Nat → V → Hp → Prop} (m : Mono Pr) {H H' : Hp} (e : Ex H H') : ∀ {n : Nat} {ys : List V}, Made flag Pr n ys H → Made flag Pr n ys H'
  | 0, _, h => h
  | n + 1, ys, h => by
    simp only [Made] at h ⊢
    by_cases c : flag n = true
    · rw [if_pos c] at h ⊢
      obtain ⟨ys0, y, a, b, d⟩ := h
      exact ⟨ys0, y, a, Made.mono m e b, m _ _ _ _ e d⟩
    · rw [if_neg c] at h ⊢
      exact Made.mono m e h
theorem Made.len {flag : Nat → Bool} {Pr : Nat → V → Hp → Prop} {H : Hp} : ∀ {n : Nat} {ys : List V}, Made flag Pr n ys H → ys.length ≤ n
  | 0, ys, h => by
    have e : ys = [] := h
    rw [e]; exact Nat.le_refl _
  | n + 1, ys, h => by
    simp only [Made] at h
    by_cases c : flag n = true
    · rw [if_pos c] at h
      obtain ⟨ys0, y, a, b, d⟩ := h
      have := Made.len b
      rw [a, List.length_append, List.length_singleton]
      omega
    · rw [if_neg c] at h
      have := Made.len h
      omega
/-- all kept -/
theorem Made.all {Pr : Nat → V → Hp → Prop} {H : Hp} : ∀ {n : Nat} {ys : List V}, Made (fun _ => true) Pr n ys H → ys.length = n ∧ ∀ i y, ys[i]? = some y → Pr i y H
  | 0, ys, h => by
    have e : ys = [] := h
    subst e
    exact ⟨rfl, fun i y q => by simp at q⟩
  | n + 1, ys, h => by
    simp only [Made, if_true] at h
    obtain ⟨ys0, y, a, b, d⟩ := h
    obtain ⟨l, q⟩ := Made.all b
    subst a
    refine ⟨by rw [List.length_append, List.length_singleton, l], fun i z hz => ?_⟩
    by_cases c : i < ys0.length
    · rw [List.getElem?_append_left c] at hz
      exact q i z hz
    · rw [List.getElem?_append_right (by omega)] at hz
      have e : i - ys0.length = 0 := by
        cases k : i - ys0.length with
        | zero => rfl
        | succ m => rw [k] at hz; simp at hz
      rw [e] at hz
      have e2 : i = n := by omega
      simp at hz
      rw [e2, ← hz]
      exact d
/-- plain values -/
theorem Made.vals {f : Nat → V} {flag : Nat → Bool} {H : Hp} : ∀ {n : Nat} {ys : List V}, Made flag (fun i v _ => v = f i) n ys H → ys = ((List.range n).filter flag).map f
  | 0, ys, h => h
  | n + 1, ys, h => by
    simp only [Made] at h
    rw [List.range_succ, List.filter_append, List.map_append]
    by_cases c : flag n = true
    · rw [if_pos c] at h
      obtain ⟨ys0, y, a, b, d⟩ := h
      rw [a, Made.vals b, d]
      simp [c]
    · rw [if_neg c] at h
      rw [Made.vals h]
      simp [c]
theorem Made.allVals {f : Nat → V} {H : Hp} {n : Nat} {ys : List V} (h : Made (fun _ => true) (fun i v _ => v = f i) n ys H) : ys = (List.range n).map f := by
  have q := Made.vals h
  rw [List.filter_eq_self.mpr (by simp)] at q
  exact q
/-- what a comprehension asks behind its source -/
def LcGo (J : It) (g : TG) (tt : TT) (te : TE) (vs : List Nat) (σ : L2.St) (H1 : Hp) (Q : VK) : Prop := ∀ D, H1 D = none → ∃ W : Nat → Nat → Hp → Prop, (∃ m, W 0 m (upd H1 D (.lst []))) ∧ ∀ i m H, W i m H →
  (J.stop i H ∧ Q (.ref D) H) ∨ (J.go i H ∧ ∃ Nx : Hp → Prop, (∀ H', Nx H' → ∃ m', m' < m ∧ W (i + 1) m' H') ∧ ∀ x H', J.yld i H x H' → g x (wipe σ vs) H' fun σ2 H2 => wipe σ2 vs = wipe σ vs ∧ tt σ2 H2 fun b H3 =>
    if b = true then te σ2 H3 fun y H4 => ∃ acc, H4 D = some (.lst acc) ∧ acc.length < sizeLine ∧ Nx (upd H4 D (.lst (acc ++ [y]))) else Nx H3)
theorem lc_of {wi : TI} {g : TG} {tt : TT} {te : TE} {vs : List Nat} {σ : L2.St} {H : Hp} {Q : VK} (h : wi σ H fun J H1 => LcGo J g tt te vs σ H1 Q) : tLc wi g tt te vs σ H Q := h
/-- what a loop asks behind its source -/
def ForGo (J : It) (g : TG) (tb : TS) (D : Ends) (σ : L2.St) (H : Hp) : Prop := ∃ W : Nat → Nat → L2.St → Hp → Prop, (∃ m, W 0 m σ H) ∧ ∀ i m σ H, W i m σ H →
  (J.stop i H ∧ D.nx σ H) ∨ (J.go i H ∧ ∃ N : L2.St → Hp → Prop, (∀ σ' H', N σ' H' → ∃ m', m' < m ∧ W (i + 1) m' σ' H') ∧ ∀ x H', J.yld i H x H' → g x σ H' fun σ2 H2 => tb { D with nx := N, ct := N, bk := D.nx } σ2 H2)
theorem for_of {wi : TI} {g : TG} {tb : TS} {D : Ends} {σ : L2.St} {H : Hp} (h : wi σ H fun J H1 => ForGo J g tb D σ H1) : tFor wi g tb D σ H := h
theorem for_go {J : It} {n : Nat} {G : Hp → Prop} {Y : Nat → Hp → V → Hp → Prop} (w : Walk J n G Y) {g : TG} {tb : TS} {D : Ends} {σ : L2.St} {H : Hp} (Pv : Nat → L2.St → Hp → Prop) (h0 : Pv 0 σ H) (hG : ∀ i σ H, i ≤ n → Pv i σ H → G H)
    (hs : ∀ i x σ H H', i < n → Pv i σ H → Y i H x H' → g x σ H' fun σ2 H2 => tb { D with nx := Pv (i + 1), ct := Pv (i + 1), bk := D.nx } σ2 H2) (hd : ∀ σ H, Pv n σ H → D.nx σ H) : ForGo J g tb D σ H :=
  for_it w Pv h0 hG hs hd
theorem seq_of {t u : TS} {D : Ends} {σ : L2.St} {H : Hp} (h : t { D with nx := u D } σ H) : tSeq t u D σ H := h
/-- a comprehension whose source stands still: the i-th item is src i, kept by flag i, the new item is told by Pr in what is new -/
theorem lc_ex {J : It} {n : Nat} {G : Hp → Prop} {Y : Nat → Hp → V → Hp → Prop} (w : Walk J n G Y) {j : Nat} {tt : TT} {te : TE} {vs : List Nat} {σ : L2.St} {H1 : Hp} {Qf : VK} (src : Nat → V) (flag : Nat → Bool) (Pr : Nat → V → Hp → Prop) (mono : Mono Pr)
    (hY : ∀ i H x H', i < n → Y i H x H' → H' = H ∧ x = src i) (hG : ∀ H, Ex H1 H → G H) (hn : n ≤ 100000) (hw : ∀ x, wipe ((wipe σ vs).set j (some x)) vs = wipe σ vs)
    (ht : ∀ i H, i < n → Ex H1 H → ∀ Q : Bool → Hp → Prop, (∀ H', Ex H H' → Q (flag i) H') → tt ((wipe σ vs).set j (some (src i))) H Q)
    (he : ∀ i H, i < n → flag i = true → Ex H1 H → ∀ Q : VK, (∀ v H', Ex H H' → Pr i v (nw H H') → Q v H') → te ((wipe σ vs).set j (some (src i))) H Q)
    (hd : ∀ D ys H', H1 D = none → Ex H1 H' → H' D = some (.lst ys) → Made flag Pr n ys (nw H1 (hid [D] H')) → Qf (.ref D) H') :
    LcGo J (gName j) tt te vs σ H1 Qf := by
  intro D hD
  refine lc_it w (fun i H => i ≤ n ∧ Ex H1 H ∧ ∃ ys, H D = some (.lst ys) ∧ Made flag Pr i ys (nw H1 (hid [D] H))) ?_ ?_ ?_ ?_
  · exact ⟨Nat.zero_le _, Evl.Ex.new hD, [], upd_same, rfl⟩
  · exact fun i H _ h => hG H h.2.1
  · rintro i x H H' hi ⟨_, e, ys, hys, hm⟩ hy
    obtain ⟨rfl, rfl⟩ := hY i H x H' hi hy
    refine ⟨hw _, ht i _ hi e _ fun H3 e3 => ?_⟩
    by_cases c : flag i = true
    · rw [c, if_pos rfl]
      refine he i H3 hi c (Evl.Ex.trans e e3) _ fun v H4 e4 p => ?_
      have ys4 := e4 _ _ (e3 _ _ hys)
      have l := Made.len hm
      refine ⟨ys, ys4, by rw [sizeLine_eq]; omega, hi, ex_upd (Evl.Ex.trans e (Evl.Ex.trans e3 e4)) hD, _, upd_same, ?_⟩
      simp only [Made]
      rw [if_pos c, hid_upd (by simp)]
      refine ⟨ys, v, rfl, Made.mono mono (nw_mono (hid_mono (Evl.Ex.trans e3 e4))) hm, mono _ _ _ _ (nw_call (Evl.Ex.trans e e3) (fun l m => ?_) ex_nw) p⟩
      have em : l = D := by simpa using m
      rw [em]
      exact ⟨_, e3 _ _ hys⟩
    · have cf : flag i = false := by simpa using c
      rw [cf, if_neg Bool.false_ne_true]
      refine ⟨hi, Evl.Ex.trans e e3, ys, e3 _ _ hys, ?_⟩
      simp only [Made]
      rw [if_neg c]
      exact Made.mono mono (nw_mono (hid_mono e3)) hm
  · rintro H ⟨_, e, ys, hys, hm⟩
    exact hd D ys H hD e hys hm

/-! ### kinds -/
section
variable {X : Cx}
theorem call_lenL : CallR X (.builtin "len") (fun xs H Q => ∃ p ys, xs = [V.ref p] ∧ SqL X.K H p ys ∧ Q (.int (ys.length : Nat)) H) := fun pins s σ H xs us Q I r h => by
  obtain ⟨p, ys, e, q, k⟩ := h
  exact call_len pins s σ H xs us Q I r ⟨.ref p, ys.length, e, .inl ⟨ys, q, rfl⟩, k⟩
theorem call_lenT : CallR X (.builtin "len") (fun xs H Q => ∃ p ys, xs = [V.ref p] ∧ SqT X.K H p ys ∧ Q (.int (ys.length : Nat)) H) := fun pins s σ H xs us Q I r h => by
  obtain ⟨p, ys, e, q, k⟩ := h
  exact call_len pins s σ H xs us Q I r ⟨.ref p, ys.length, e, .inr ⟨ys, q, rfl⟩, k⟩
theorem call_lenS : CallR X (.builtin "len") (fun xs H Q => ∃ z, xs = [V.str z] ∧ z.length ≤ sizeLine ∧ Q (.int (z.length : Nat)) H) := fun pins s σ H xs us Q I r h => by
  obtain ⟨z, e, q, k⟩ := h
  exact call_len pins s σ H xs us Q I r ⟨.str z, z.length, e, ⟨q, rfl⟩, k⟩
theorem call_tupL : CallR X (.type "tuple") (fun xs H Q => ∃ p ys, xs = [V.ref p] ∧ SqL X.K H p ys ∧ ∀ l, H l = none → Q (.ref l) (upd H l (.tup ys))) := fun pins s σ H xs us Q I r h => by
  obtain ⟨p, ys, e, q, k⟩ := h
  exact call_tuple_of pins s σ H xs us Q I r ⟨p, ys, e, .inl ⟨q, k⟩⟩
theorem call_lstL : CallR X (.type "list") (fun xs H Q => ∃ p ys, xs = [V.ref p] ∧ SqT X.K H p ys ∧ ∀ l, H l = none → Q (.ref l) (upd H l (.lst ys))) := fun pins s σ H xs us Q I r h => by
  obtain ⟨p, ys, e, q, k⟩ := h
  exact call_list_of pins s σ H xs us Q I r ⟨p, ys, e, .inr q, k⟩
theorem ixTK {K : PySem.W.Frag} (h : X.K = K) : IxR X (rIxT K) := by subst h; exact ix_tup
theorem ixLK {K : PySem.W.Frag} (h : X.K = K) : IxR X (rIxL K) := by subst h; exact ix_list
theorem inK {K : PySem.W.Frag} (h : X.K = K) : OpR X (compareOp .In) (rIn K false) := by subst h; exact op_in_seq
theorem notInK {K : PySem.W.Frag} (h : X.K = K) : OpR X (compareOp .NotIn) (rIn K true) := by subst h; exact op_notIn_seq
theorem lenTK {K : PySem.W.Frag} (h : X.K = K) : CallR X (.builtin "len") (fun xs H Q => ∃ p ys, xs = [V.ref p] ∧ SqT K H p ys ∧ Q (.int (ys.length : Nat)) H) := by subst h; exact call_lenT
theorem lenLK {K : PySem.W.Frag} (h : X.K = K) : CallR X (.builtin "len") (fun xs H Q => ∃ p ys, xs = [V.ref p] ∧ SqL K H p ys ∧ Q (.int (ys.length : Nat)) H) := by subst h; exact call_lenL
theorem call_intI : CallR X (.type "int") (fun xs H Q => ∃ i, xs = [V.int i] ∧ Q (.int i) H) := fun pins s σ H xs us Q I r h => call_int1 pins s σ H xs us Q I r (.inl h)
theorem call_intB : CallR X (.type "int") (fun xs H Q => ∃ k, xs = [V.bl k] ∧ Q (.int (if k then 1 else 0)) H) := fun pins s σ H xs us Q I r h => call_int1 pins s σ H xs us Q I r (.inr h)
end

theorem at_nat {xs : List V} {v : V} (j : Nat) (h : xs[j]? = some v) : atI xs (j : Int) = some v := atI_nat h
theorem deq {a b : Str} (h : a = b) : decide (V.str a = V.str b) = true := decide_eq_true (by rw [h])
theorem dne {a b : Str} (h : a ≠ b) : decide (V.str a = V.str b) = false := decide_eq_false (fun z => h (V.str.inj z))
theorem small_le {n : Nat} (h : n ≤ 1000000) : n ≤ sizeLine := by rw [sizeLine_eq]; omega

/-! ### the readings, step by step (for the tactic "vc") -/
section
variable {σ : L2.St} {H : Hp} {Q : VK} {QA : List V → Hp → Prop} {QT : Bool → Hp → Prop} {QO : Option Int → Hp → Prop} {QG : L2.St → Hp → Prop} {D : Ends} {K : PySem.W.Frag} {i j : Nat} {v x y : V} {ta tb tc te tv : TE} {t u : TA} {c d : TT} {ts us : TS} {tg : TG} {tgs : TGs} {r r' : R2} {rc : List V → Hp → VK → Prop} {ru : V → Hp → VK → Prop}
theorem s_var (h : σ[i]? = some (some v)) (q : Q v H) : tVar i σ H Q := ⟨v, h, q⟩
theorem s_c (q : Q v H) : tC v σ H Q := q
theorem s_op (q : ta σ H fun x H1 => tb σ H1 fun y H2 => r x y H2 Q) : tOp r ta tb σ H Q := q
theorem s_un (q : ta σ H fun x H1 => ru x H1 Q) : tUn ru ta σ H Q := q
theorem s_test (q : te σ H fun x H' => ∃ k, x = .bl k ∧ QT k H') : tTest te σ H QT := q
theorem s_B (q : te σ H fun x H1 => ∃ c, x = .bl c ∧ QT c H1) : tB te σ H QT := q
theorem s_andV (q : ta σ H fun x H1 => ∃ c, x = .bl c ∧ if c = true then tb σ H1 Q else Q (.bl false) H1) : tAndV ta tb σ H Q := q
theorem s_orV (q : ta σ H fun x H1 => ∃ c, x = .bl c ∧ if c = true then Q (.bl true) H1 else tb σ H1 Q) : tOrV ta tb σ H Q := q
theorem s_notV (q : ta σ H fun x H1 => ∃ c, x = .bl c ∧ Q (.bl (!c)) H1) : tNotV ta σ H Q := q
theorem s_and (q : c σ H fun b H1 => if b = true then d σ H1 QT else QT false H1) : tAnd c d σ H QT := q
theorem s_or (q : c σ H fun b H1 => if b = true then QT true H1 else d σ H1 QT) : tOr c d σ H QT := q
theorem s_not (q : c σ H fun b H1 => QT (!b) H1) : tNot c σ H QT := q
theorem s_if (q : c σ H fun b H1 => if b = true then ta σ H1 Q else tb σ H1 Q) : tIf c ta tb σ H Q := q
theorem s_chain (q : ta σ H fun x H1 => tb σ H1 fun y H2 => r x y H2 fun z H3 => ∃ k, z = .bl k ∧ (if k = true then tc σ H3 fun w' H4 => r' y w' H4 Q else Q (.bl false) H3)) : tChain r r' ta tb tc σ H Q := q
theorem s_ifS (q : c σ H fun b H1 => if b = true then ts D σ H1 else us D σ H1) : tIfS c ts us D σ H := q
theorem s_seq (q : ts { D with nx := us D } σ H) : tSeq ts us D σ H := q
theorem s_next (q : D.nx σ H) : tNext D σ H := q
theorem s_break (q : D.bk σ H) : tBreak D σ H := q
theorem s_cont (q : D.ct σ H) : tCont D σ H := q
theorem s_drop (q : te σ H fun _ H1 => D.nx σ H1) : tDrop te D σ H := q
theorem s_ret (q : te σ H D.rt) : tRet te D σ H := q
theorem s_retN (q : D.rt .non H) : tRetN D σ H := q
theorem s_asg (q : te σ H fun x H1 => tg x σ H1 D.nx) : tAsg te tg D σ H := q
theorem s_name (q : QG (σ.set i (some v)) H) : gName i v σ H QG := q
theorem s_par (q : t σ H fun vs H1 => ∃ v w, vs = [v, w] ∧ D.nx ((σ.set i (some v)).set j (some w)) H1) : tPar i j t D σ H := q
theorem s_aug {ti : TIp} (h : σ[i]? = some (some v)) (q : te σ H fun y H1 => ti v y H1 fun z H2 => D.nx (σ.set i (some z)) H2) : tAug i te ti D σ H := ⟨v, h, q⟩
theorem s_ip {f : Int → Int → Int} {m n : Int} (q : Q (.int (f m n)) H) : ipI f (.int m) (.int n) H Q := ⟨m, n, rfl, rfl, q⟩
theorem s_gnil (q : QG σ H) : gNil [] σ H QG := ⟨rfl, q⟩
theorem s_gcons {vs : List V} (q : tg v σ H fun σ' H' => tgs vs σ' H' QG) : gCons tg tgs (v :: vs) σ H QG := ⟨v, vs, rfl, q⟩
theorem s_gtup {a : Addr} {xs : List V} {n : Nat} (h : SqT K H a xs) (l : xs.length = n) (q : tgs xs σ H QG) : gTup K n tgs (.ref a) σ H QG := ⟨a, xs, rfl, h, l, q⟩
theorem s_nil (q : QA [] H) : tNil σ H QA := q
theorem s_cons (q : ta σ H fun x H1 => t σ H1 fun xs H2 => QA (x :: xs) H2) : tCons ta t σ H QA := q
theorem s_cb (q : t σ H fun vs H1 => rc vs H1 Q) : tCB rc t σ H Q := q
theorem s_tup (q : t σ H fun xs H1 => xs.length ≤ sizeLine ∧ ∀ p, H1 p = none → Q (.ref p) (upd H1 p (.tup xs))) : tTup t σ H Q := q
theorem s_lst (q : t σ H fun xs H1 => xs.length ≤ sizeLine ∧ ∀ p, H1 p = none → Q (.ref p) (upd H1 p (.lst xs))) : tLst t σ H Q := q
theorem s_sl {rs : V → Option Int → Option Int → Hp → VK → Prop} {tl th : TO} (q : te σ H fun x H1 => tl σ H1 fun l H2 => th σ H2 fun u H3 => rs x l u H3 Q) : tSl rs te tl th σ H Q := q
theorem s_part (q : te σ H fun x H1 => ∃ i, x = .int i ∧ QO (some i) H1) : tPart te σ H QO := q
theorem s_nopart (q : QO none H) : tNoPart σ H QO := q
theorem s_fld {f : Str} (q : ta σ H fun x H1 => ∃ a C dx fs v, x = .ref a ∧ H1 a = some (.ins C dx fs) ∧ Cls K C ∧ NoAttr K C f ∧ fs.lookup f = some v ∧ Q v H1) : tFld K ta f σ H Q := q
theorem s_call {sp : Sp} {E : XK} (q : t σ H fun vs H1 => sp vs H1 Q E) : tCall sp [] E t σ H Q := by
  show t σ H fun vs H1 => sp (vs ++ []) H1 Q E
  simp only [List.append_nil]
  exact q
theorem s_bm {T : String} {rm : V → List V → Hp → VK → Prop} (q : te σ H fun x H1 => tyV K T x H1 ∧ t σ H1 fun xs H2 => rm x xs H2 Q) : tBM K T rm te t σ H Q := q
theorem s_bm0 {T : String} {rm : V → List V → Hp → VK → Prop} (q : te σ H fun x H1 => tyV K T x H1 ∧ rm x [] H1 Q) : tBM0 K T rm te σ H Q := q
theorem s_m1 {rm : V → List V → Hp → VK → Prop} (q : ta σ H fun x H1 => (∃ a, x = .str a) ∧ te σ H1 fun y H2 => rm x [y] H2 Q) : tM1 rm ta te σ H Q := q
theorem s_dget (q : ta σ H fun x H1 => tb σ H1 fun y H2 => ∃ a v, x = .ref a ∧ DGet H2 a y (some v) ∧ Q v H2) : tDGet ta tb σ H Q := q
theorem s_lc {wi : TI} {vs : List Nat} (h : wi σ H fun J H1 => LcGo J tg c te vs σ H1 Q) : tLc wi tg c te vs σ H Q := h
theorem s_for {wi : TI} (h : wi σ H fun J H1 => ForGo J tg ts D σ H1) : tFor wi tg ts D σ H := h
theorem s_iList {R : It → Hp → Prop} (h : te σ H fun x H1 => ∃ a, x = .ref a ∧ (∃ xs, SqL K H1 a xs) ∧ R (Itl K a) H1) : iList K te σ H R := h
theorem s_iTup {R : It → Hp → Prop} (h : te σ H fun x H1 => ∃ a, x = .ref a ∧ (∃ xs, SqT K H1 a xs) ∧ R (Itt K a) H1) : iTup K te σ H R := h
theorem s_iStr {R : It → Hp → Prop} (h : te σ H fun v H1 => ∃ x, v = .str x ∧ R (Its x) H1) : iStr te σ H R := h
theorem s_iRng1 {R : It → Hp → Prop} (h : t σ H fun vs H1 => ∃ j : Int, vs = [.int j] ∧ -(2 ^ 62) ≤ j ∧ j < 2 ^ 62 ∧ R (Itr 0 j.toNat) H1) : iRng1 t σ H R := h
theorem s_iRng2 {R : It → Hp → Prop} (h : t σ H fun vs H1 => ∃ i j : Int, vs = [.int i, .int j] ∧ (-(2 ^ 62) ≤ i ∧ i < 2 ^ 62 ∧ -(2 ^ 62) ≤ j ∧ j < 2 ^ 62) ∧ R (Itr i (j - i).toNat) H1) : iRng2 t σ H R := h
theorem s_yes (q : QT true H) : tYes σ H QT := q
theorem s_rI0 {g : Int → Int → V} {m n : Int} (q : Q (g m n) H) : rI0 g (.int m) (.int n) H Q := ⟨m, n, rfl, rfl, q⟩
theorem s_rI {C : Int → Int → Prop} {g : Int → Int → V} {m n : Int} (hc : C m n) (q : Q (g m n) H) : rI C g (.int m) (.int n) H Q := ⟨m, n, rfl, rfl, hc, q⟩
theorem s_rU {g : Int → V} {m : Int} (q : Q (g m) H) : rU g (.int m) H Q := ⟨m, rfl, q⟩
theorem s_rEq (h : scal x y = true) (q : Q (.bl (decide (x = y))) H) : rEq x y H Q := ⟨h, q⟩
theorem s_rNe (h : scal x y = true) (q : Q (.bl (!decide (x = y))) H) : rNe x y H Q := ⟨h, q⟩
theorem s_ixL {p : Addr} {xs : List V} {n : Int} (h : SqL K H p xs) (ha : atI xs n = some v) (q : Q v H) : rIxL K (.ref p) (.int n) H Q := ⟨p, xs, n, v, rfl, rfl, h, ha, q⟩
theorem s_ixT {p : Addr} {xs : List V} {n : Int} (h : SqT K H p xs) (ha : atI xs n = some v) (q : Q v H) : rIxT K (.ref p) (.int n) H Q := ⟨p, xs, n, v, rfl, rfl, h, ha, q⟩
theorem s_rIn {p : Addr} {xs : List V} {neg : Bool} (h : SqL K H p xs ∨ SqT K H p xs) (h1 : flatV x = true) (h2 : xs.all flatV = true) (q : Q (.bl (if neg then !inV x xs else inV x xs)) H) : rIn K neg x (.ref p) H Q := ⟨p, xs, rfl, h, h1, h2, q⟩
theorem s_isiP {n : String} {b : Bool} (h : isiB v n = some b) (q : Q (.bl b) H) : rIsiP [v, .ty n] H Q := ⟨v, n, b, rfl, h, q⟩
theorem iteT' {A B : Prop} (h : A) : if true = true then A else B := iteT h
theorem iteF' {A B : Prop} (h : B) : if false = true then A else B := iteF h
theorem s_mk {n : Nat} {Pq : Prop} (h : n ≤ sizeLine) (q : Pq) : n ≤ sizeLine ∧ Pq := ⟨h, q⟩
theorem iteT_of {b : Bool} {A B : Prop} (h : b = true) (q : A) : if b = true then A else B := by rw [if_pos h]; exact q
theorem iteF_of {b : Bool} {A B : Prop} (h : b = false) (q : B) : if b = true then A else B := by rw [h]; exact iteF q
theorem s_ixS {z : Str} {n : Int} {c : Nat} (hl : z.length ≤ sizeLine) (ha : atI z.cps.toList n = some c) (q : Q (.str ⟨#[c]⟩) H) : rIxS (.str z) (.int n) H Q := ⟨z, n, c, rfl, rfl, hl, ha, q⟩
theorem s_slS {z : Str} {lo hi : Option Int} (hl : z.length ≤ sizeLine) (q : Q (.str (cutS z lo hi)) H) : rSlS (.str z) lo hi H Q := ⟨z, rfl, hl, q⟩
theorem s_slL {a : Addr} {xs : List V} {lo hi : Option Int} (h : SqL K H a xs) (q : ∀ p, H p = none → Q (.ref p) (upd H p (.lst (cutV xs lo hi)))) : rSlL K (.ref a) lo hi H Q := ⟨a, xs, rfl, h, q⟩
theorem ex_bl {b : Bool} {Pq : Bool → Prop} (h : Pq b) : ∃ k, V.bl b = .bl k ∧ Pq k := ⟨b, rfl, h⟩
theorem ex_int {n : Int} {Pq : Int → Prop} (h : Pq n) : ∃ k, V.int n = .int k ∧ Pq k := ⟨n, rfl, h⟩
theorem ex_str {z : Str} {Pq : Str → Prop} (h : Pq z) : ∃ k, V.str z = .str k ∧ Pq k := ⟨z, rfl, h⟩
theorem ex_ref {a : Addr} {Pq : Addr → Prop} (h : Pq a) : ∃ k, V.ref a = .ref k ∧ Pq k := ⟨a, rfl, h⟩
theorem ex_int1 {n : Int} {Pq : Int → Prop} (h : Pq n) : ∃ k, [V.int n] = [.int k] ∧ Pq k := ⟨n, rfl, h⟩
theorem ex_str1 {z : Str} {Pq : Str → Prop} (h : Pq z) : ∃ k, [V.str z] = [.str k] ∧ Pq k := ⟨z, rfl, h⟩
theorem ex_int2 {m n : Int} {Pq : Int → Int → Prop} (h : Pq m n) : ∃ i j, [V.int m, V.int n] = [.int i, .int j] ∧ Pq i j := ⟨m, n, rfl, h⟩
theorem ex_pair {Pq : V → V → Prop} (h : Pq x y) : ∃ v w, [x, y] = [v, w] ∧ Pq v w := ⟨x, y, rfl, h⟩
theorem s_make {C : Addr} {sp : Sp} {E : XK} (q : t σ H fun vs H1 => ∀ x dx, H1 x = none → H1 dx = none → dx ≠ x → sp (.ref x :: vs) (upd (upd H1 dx (.own x)) x (.ins C dx [])) (fun v H2 => v = .non ∧ Q (.ref x) H2) E) : tMake C sp [] E t σ H Q := by
  show t σ H fun vs H1 => ∀ x dx, H1 x = none → H1 dx = none → dx ≠ x → sp (.ref x :: (vs ++ [])) (upd (upd H1 dx (.own x)) x (.ins C dx [])) (fun v H2 => v = .non ∧ Q (.ref x) H2) E
  simp only [List.append_nil]
  exact q
theorem s_meth {C : Addr} {m : Str} {sp : Sp} {E : XK} (q : ta σ H fun x H1 => ∃ a dx fs, x = .ref a ∧ H1 a = some (.ins C dx fs) ∧ fs.lookup m = none ∧ t σ H1 fun vs H2 => sp (x :: vs) H2 Q E) : tMeth C m sp [] E ta t σ H Q := by
  show ta σ H fun x H1 => ∃ a dx fs, x = .ref a ∧ H1 a = some (.ins C dx fs) ∧ fs.lookup m = none ∧ t σ H1 fun vs H2 => sp (x :: (vs ++ [])) H2 Q E
  simp only [List.append_nil]
  exact q
theorem s_prop {C : Addr} {sp : Sp} {E : XK} (q : ta σ H fun x H1 => ∃ a dx fs, x = .ref a ∧ H1 a = some (.ins C dx fs) ∧ sp [.ref a] H1 Q E) : tProp C sp [] E ta σ H Q := q
theorem s_sfld {f : Str} (q : tv σ H fun y H1 => ta σ H1 fun x H2 => ∃ a C dx fs, x = .ref a ∧ H2 a = some (.ins C dx fs) ∧ Cls K C ∧ NoAttr K C f ∧ fs.length < 1000 ∧ D.nx σ (upd H2 a (.ins C dx (putF f y fs)))) : sFld K ta tv f D σ H := q
theorem ex_fld {a C dx : Addr} {fs : List (Str × V)} {f : Str} {Pq : V → Prop} (h : H a = some (.ins C dx fs)) (c1 : Cls K C) (n1 : NoAttr K C f) (l : fs.lookup f = some v) (q : Pq v) : ∃ a' C' dx' fs' v', V.ref a = .ref a' ∧ H a' = some (.ins C' dx' fs') ∧ Cls K C' ∧ NoAttr K C' f ∧ fs'.lookup f = some v' ∧ Pq v' := ⟨a, C, dx, fs, v, rfl, h, c1, n1, l, q⟩
theorem ex_sfld {a C dx : Addr} {fs : List (Str × V)} {f : Str} {Pq : Hp → Prop} (h : H a = some (.ins C dx fs)) (c1 : Cls K C) (n1 : NoAttr K C f) (l : fs.length < 1000) (q : Pq (upd H a (.ins C dx (putF f y fs)))) : ∃ a' C' dx' fs', V.ref a = .ref a' ∧ H a' = some (.ins C' dx' fs') ∧ Cls K C' ∧ NoAttr K C' f ∧ fs'.length < 1000 ∧ Pq (upd H a' (.ins C' dx' (putF f y fs'))) := ⟨a, C, dx, fs, rfl, h, c1, n1, l, q⟩
theorem ex_tupL {a : Addr} {xs : List V} {Pq : List V → Prop} (h : SqL K H a xs) (q : Pq xs) : ∃ p ys, [V.ref a] = [V.ref p] ∧ SqL K H p ys ∧ Pq ys := ⟨a, xs, rfl, h, q⟩
theorem ex_lstT {a : Addr} {xs : List V} {Pq : List V → Prop} (h : SqT K H a xs) (q : Pq xs) : ∃ p ys, [V.ref a] = [V.ref p] ∧ SqT K H p ys ∧ Pq ys := ⟨a, xs, rfl, h, q⟩
theorem ex_lenL {a : Addr} {xs : List V} {Pq : Nat → Prop} (h : SqL K H a xs) (q : Pq xs.length) : ∃ p ys, [V.ref a] = [V.ref p] ∧ SqL K H p ys ∧ Pq ys.length := ⟨a, xs, rfl, h, q⟩
theorem ex_lenT {a : Addr} {xs : List V} {Pq : Nat → Prop} (h : SqT K H a xs) (q : Pq xs.length) : ∃ p ys, [V.ref a] = [V.ref p] ∧ SqT K H p ys ∧ Pq ys.length := ⟨a, xs, rfl, h, q⟩
theorem ex_srcL {a : Addr} {xs : List V} {Pq : Addr → Prop} (h : SqL K H a xs) (q : Pq a) : ∃ b, V.ref a = .ref b ∧ (∃ xs, SqL K H b xs) ∧ Pq b := ⟨a, rfl, ⟨xs, h⟩, q⟩
theorem ex_srcT {a : Addr} {xs : List V} {Pq : Addr → Prop} (h : SqT K H a xs) (q : Pq a) : ∃ b, V.ref a = .ref b ∧ (∃ xs, SqT K H b xs) ∧ Pq b := ⟨a, rfl, ⟨xs, h⟩, q⟩
end
theorem small_lt {n : Nat} (h : n ≤ 1000000) : n < sizeLine := by rw [sizeLine_eq]; omega
end Ov
/-! text OvHeap -/
set_option Elab.async false
set_option linter.all false
set_option maxRecDepth 100000
/-! What stands in the heap: items of a program, prices, forms. -/
namespace Ov
open PySem PySem.Spec PyProof.Rows L2
open Rows
/-! ### items -/
def lnS : Ln → Str
  | .work _ _ _ => "work"
  | .load _ _ _ => "load"
  | .store _ _ _ => "store"
  | .copy _ _ => "copy"
  | .step _ => "step"
def knm : Nat → Str
  | 0 => "work"
  | 1 => "load"
  | 2 => "store"
  | 3 => "copy"
  | 4 => "step"
  | _ => "test"
theorem lnS_knm (l : Ln) : lnS l = knm l.kind := by cases l <;> rfl
theorem kind_lt (l : Ln) : l.kind < 5 := by cases l <;> simp [Ln.kind]
/-- a statement read -/
def ItemLn (H : Hp) (v : V) (l : Ln) : Prop := ∃ (p : Addr) (k : Int), v = .ref p ∧ match l with
  | .work x f as => ∃ q, H p = some (.tup [.str "work", .str x, .str f, .ref q, .int k]) ∧ H q = some (.tup (as.map V.str))
  | .load x a o => H p = some (.tup [.str "load", .str x, .str a, .int o, .int k])
  | .store a o x => H p = some (.tup [.str "store", .str a, .int o, .str x, .int k])
  | .copy x y => H p = some (.tup [.str "copy", .str x, .str y, .int k])
  | .step n => H p = some (.tup [.str "step", .int n, .int k])
def ItemsAt (H : Hp) : Rows → List V → Prop
  | .nil, vs => vs = []
  | .line l r, vs => ∃ v vs', vs = v :: vs' ∧ ItemLn H v l ∧ ItemsAt H r vs'
  | .iff b _ one two r, vs => ∃ (p p1 p2 : Addr) (vs1 vs2 vs' : List V) (k : Int), vs = .ref p :: vs' ∧ H p = some (.tup [.str "if", .int b, .ref p1, .ref p2, .int k]) ∧ H p1 = some (.tup vs1) ∧ ItemsAt H one vs1 ∧ H p2 = some (.tup vs2) ∧ ItemsAt H two vs2 ∧ ItemsAt H r vs'
  | .whl b body r, vs => ∃ (p p1 : Addr) (vs1 vs' : List V) (k : Int), vs = .ref p :: vs' ∧ H p = some (.tup [.str "while", .int b, .ref p1, .int k]) ∧ H p1 = some (.tup vs1) ∧ ItemsAt H body vs1 ∧ ItemsAt H r vs'
theorem ItemLn.mono {H H' : Hp} (e : Ex H H') {v : V} {l : Ln} (h : ItemLn H v l) : ItemLn H' v l := by
  obtain ⟨p, k, hv, h⟩ := h
  refine ⟨p, k, hv, ?_⟩
  cases l with
  | work x f as =>
    obtain ⟨q, h1, h2⟩ := h
    exact ⟨q, e _ _ h1, e _ _ h2⟩
  | load x a o => exact e _ _ h
  | store a o x => exact e _ _ h
  | copy x y => exact e _ _ h
  | step n => exact e _ _ h
theorem ItemsAt.mono {H H' : Hp} (e : Ex H H') : ∀ {r : Rows} {vs : List V}, ItemsAt H r vs → ItemsAt H' r vs
  | .nil, _, h => h
  | .line l r, _, ⟨v, vs', a, b, c⟩ => ⟨v, vs', a, b.mono e, ItemsAt.mono e c⟩
  | .iff b f one two r, _, ⟨p, p1, p2, vs1, vs2, vs', k, a, h, h1, i1, h2, i2, i3⟩ => ⟨p, p1, p2, vs1, vs2, vs', k, a, e _ _ h, e _ _ h1, ItemsAt.mono e i1, e _ _ h2, ItemsAt.mono e i2, ItemsAt.mono e i3⟩
  | .whl b body r, _, ⟨p, p1, vs1, vs', k, a, h, h1, i1, i3⟩ => ⟨p, p1, vs1, vs', k, a, e _ _ h, e _ _ h1, ItemsAt.mono e i1, ItemsAt.mono e i3⟩
/-- a statement's item, of whatever kind -/
theorem ItemLn.get {H : Hp} {v : V} {l : Ln} (h : ItemLn H v l) : ∃ (p : Addr) (y : V) (xs : List V), v = .ref p ∧ H p = some (.tup (.str (lnS l) :: y :: xs)) ∧ lnS l ≠ ("if" : Str) ∧ lnS l ≠ ("while" : Str) ∧ ((lnS l = ("step" : Str) ∧ y = .int l.byn) ∨ (lnS l ≠ ("step" : Str) ∧ l.byn = 0)) := by
  obtain ⟨p, k, hv, h⟩ := h
  cases l with
  | work x f as =>
    obtain ⟨q, h1, h2⟩ := h
    exact ⟨p, _, _, hv, h1, by show ("work" : Str) ≠ "if"; decide +kernel, by show ("work" : Str) ≠ "while"; decide +kernel, .inr ⟨by show ("work" : Str) ≠ "step"; decide +kernel, rfl⟩⟩
  | load x a o => exact ⟨p, _, _, hv, h, by show ("load" : Str) ≠ "if"; decide +kernel, by show ("load" : Str) ≠ "while"; decide +kernel, .inr ⟨by show ("load" : Str) ≠ "step"; decide +kernel, rfl⟩⟩
  | store a o x => exact ⟨p, _, _, hv, h, by show ("store" : Str) ≠ "if"; decide +kernel, by show ("store" : Str) ≠ "while"; decide +kernel, .inr ⟨by show ("store" : Str) ≠ "step"; decide +kernel, rfl⟩⟩
  | copy x y => exact ⟨p, _, _, hv, h, by show ("copy" : Str) ≠ "if"; decide +kernel, by show ("copy" : Str) ≠ "while"; decide +kernel, .inr ⟨by show ("copy" : Str) ≠ "step"; decide +kernel, rfl⟩⟩
  | step n => exact ⟨p, _, _, hv, h, by show ("step" : Str) ≠ "if"; decide +kernel, by show ("step" : Str) ≠ "while"; decide +kernel, .inl ⟨rfl, rfl⟩⟩
/-- how deep -/
def dep : Rows → Nat
  | .nil => 0
  | .line _ r => dep r
  | .iff _ _ one two r => max (max (dep one + 1) (dep two + 1)) (dep r)
  | .whl _ body r => max (dep body + 1) (dep r)
theorem dep_flat : ∀ {r : Rows}, Flat r → dep r = 0
  | .nil, _ => rfl
  | .line _ r, h => dep_flat (r := r) h
theorem dep_shape : ∀ {r : Rows} {d : Nat}, Shape r d → dep r ≤ d + 1
  | .nil, d, _ => Nat.zero_le _
  | .line l r, d, h => dep_shape (r := r) h.2
  | .iff b e one two r, d, h => by
    obtain ⟨_, _, _, ⟨d', rfl, h1, h2⟩, h3⟩ := h
    have := dep_shape h1
    have := dep_shape h2
    have := dep_shape h3
    simp only [dep]
    omega
  | .whl b body r, d, h => by
    obtain ⟨_, _, hf, _, _, _, h3⟩ := h
    have := dep_flat hf
    have := dep_shape h3
    simp only [dep]
    omega
theorem rounds_bounds {b g x : Int} (hg : 1 ≤ g) (hb : 1 ≤ b) : 0 ≤ rounds b g x ∧ rounds b g x ≤ max 0 x := by
  unfold rounds
  by_cases c : x < b
  · rw [if_pos c]; omega
  · rw [if_neg c]
    have h0 : 0 ≤ (x - b) / g := Int.ediv_nonneg (by omega) (by omega)
    have h1 : (x - b) / g ≤ x - b := Int.ediv_le_self _ (by omega)
    omega
theorem rem_le : ∀ {r : Rows} {d : Nat}, Shape r d → ∀ x, rem r x ≤ x
  | .nil, _, _, x => Int.le_refl x
  | .line l r, d, h, x => by
    have := rem_le (r := r) h.2 (x - l.byn)
    have := h.1
    show rem r (x - l.byn) ≤ x
    omega
  | .iff b e one two r, d, h, x => by
    obtain ⟨_, _, _, ⟨d', _, h1, h2⟩, h3⟩ := h
    have a1 := rem_le h1 x
    have a2 := rem_le h2 x
    show rem r (if b ≤ x then rem one x else rem two x) ≤ x
    by_cases c : b ≤ x
    · rw [if_pos c]
      have := rem_le h3 (rem one x)
      omega
    · rw [if_neg c]
      have := rem_le h3 (rem two x)
      omega
  | .whl b body r, d, h, x => by
    obtain ⟨b0, _, hf, hs, h1, _, h3⟩ := h
    have a3 := rem_le h3 (x - rounds b (-(rem body 0)) x * (-(rem body 0)))
    rw [gain_flat hf] at a3
    have r0 := (rounds_bounds (b := b) (g := steps body) (x := x) h1 b0).1
    have := Int.mul_nonneg r0 (show 0 ≤ steps body by omega)
    show rem r (x - rounds b (-(rem body 0)) x * (-(rem body 0))) ≤ x
    rw [gain_flat hf]
    omega
/-! ### prices -/
def PrAt (H : Hp) (d : Addr) (pr : Nat → Int) : Prop := ∃ kvs : List (Key × V), H d = some (.dK kvs) ∧ ∀ k, k < 6 → valV kvs (.inr (knm k)) = some (.int (pr k))
theorem PrAt.mono {H H' : Hp} (e : Ex H H') {d : Addr} {pr : Nat → Int} (h : PrAt H d pr) : PrAt H' d pr := let ⟨kvs, a, b⟩ := h; ⟨kvs, e _ _ a, b⟩
/-! ### forms -/
def FormAt (K : PySem.W.Frag) (H : Hp) (p : Addr) (hs : List Int) (n g : Int) : Prop := ∃ dx t q : Addr, H p = some (.ins (He.ga K "Form") dx [("held", .ref t)]) ∧ H t = some (.tup [.ref q, .int n, .int g]) ∧ H q = some (.tup (hs.map V.int))
theorem FormAt.mono {K : PySem.W.Frag} {H H' : Hp} (e : Ex H H') {p : Addr} {hs : List Int} {n g : Int} (h : FormAt K H p hs n g) : FormAt K H' p hs n g := let ⟨dx, t, q, a, b, c⟩ := h; ⟨dx, t, q, e _ _ a, e _ _ b, e _ _ c⟩
/-- a def that is never called so -/
theorem df_none {P : Program} {w : World} {K : PySem.W.Frag} {mg : Str → Option Value} {base : Heap} {ps : List Str} {sp : Sp} (Z : Zf K mg) (i : Nat) {x : Str} {st : Stmt} (h : fns[i]? = some ⟨.glo x, x, x, defArgs st, defBody st, defScope st, [], []⟩) (hx : decide (x ∈ gloNames) = true)
    (bind : ∀ (kV doc pm : Value) (an : Option Addr) (cdv ct : Value) (us : List Value), us.length = ps.length → bindArgs (PySem.W.fnOf x x (defArgs st) (defBody st) (defScope st) .none kV doc pm an cdv ct) ⟨us, []⟩ = pure (ps.zip us))
    (no : ∀ vs H Q E, ¬ sp vs H Q E) : Df P w K mg base x 0 ps sp := by
  obtain ⟨fd, F⟩ := Z.def_ i h
  exact ⟨He.ga K x, fd, ⟨fun vs H Q E h => absurd h (no vs H Q E), fun A outer s H args us vs Q E _ _ _ _ h => absurd h (no vs H Q E)⟩, Z.glo x hx, F.kp, F.bindsN bind⟩
/-- a loop over what a tree stands for -/
theorem for_rows {J : It} {vs : List V} {G : Hp → Prop} (w : Walk J vs.length G (YAt vs)) {g : TG} {tb : TS} {D : Ends} {σ : L2.St} {H : Hp} (IA : Rows → List V → Prop) (hnil : ∀ r, IA r [] → r = .nil) (In : Rows → L2.St → Hp → Prop) (r0 : Rows) (hI : IA r0 vs) (h0 : In r0 σ H) (hG : ∀ r σ H, In r σ H → G H)
    (hs : ∀ r x vs' σ H, In r σ H → IA r (x :: vs') → g x σ H fun σ2 H2 => tb { D with nx := fun σ H => ∃ r', IA r' vs' ∧ In r' σ H, ct := fun σ H => ∃ r', IA r' vs' ∧ In r' σ H, bk := D.nx } σ2 H2) (hd : ∀ σ H, In .nil σ H → D.nx σ H) : ForGo J g tb D σ H := by
  refine for_go w (fun i σ H => ∃ r, IA r (vs.drop i) ∧ In r σ H) ⟨r0, hI, h0⟩ (fun i σ H _ ⟨r, _, q⟩ => hG r σ H q) ?_ ?_
  · rintro i x σ H H' hi ⟨r, a, q⟩ ⟨eH, hx⟩
    rw [eH]
    have e : vs.drop i = x :: vs.drop (i + 1) := by
      rw [List.drop_eq_getElem_cons hi]
      rw [List.getElem?_eq_getElem hi] at hx
      rw [Option.some.inj hx]
    rw [e] at a
    exact hs r x (vs.drop (i + 1)) σ H q a
  · rintro σ H ⟨r, a, q⟩
    rw [List.drop_eq_nil_of_le (Nat.le_refl _)] at a
    rw [hnil r a] at q
    exact hd σ H q
theorem items_nil {H : Hp} : ∀ r, ItemsAt H r [] → r = .nil
  | .nil, _ => rfl
  | .line _ _, ⟨_, _, h, _⟩ => by cases h
  | .iff _ _ _ _ _, ⟨_, _, _, _, _, _, _, h, _⟩ => by cases h
  | .whl _ _ _, ⟨_, _, _, _, _, h, _⟩ => by cases h
end Ov
/-! text OvT1 -/
set_option Elab.async false
set_option linter.all false
set_option maxRecDepth 100000
namespace Ov
open PySem PySem.Spec PyProof.Rows L2
open Rows
local macro_rules | `(tactic| walk_at "hp") => `(tactic| first
  | assumption
  | exact upd_same
  | (refine Evl.Ex.new (by assumption) _ _ ?_; walk_at "hp")
  | (refine (by assumption : Evl.Ex _ _) _ _ ?_; walk_at "hp"))
local macro_rules | `(tactic| walk_at "sq") => `(tactic| first
  | assumption
  | exact SqL.of (by walk_at "hp")
  | exact SqT.of (by walk_at "hp")
  | (refine Evl.ex_l (by assumption) ?_; walk_at "sq")
  | (refine Evl.ex_t (by assumption) ?_; walk_at "sq")
  | (refine Evl.ex_l (Evl.Ex.new (by assumption)) ?_; walk_at "sq")
  | (refine Evl.ex_t (Evl.Ex.new (by assumption)) ?_; walk_at "sq"))
local macro_rules | `(tactic| walk_at "ex") => `(tactic| first
  | assumption
  | exact Evl.Ex.refl _
  | (refine Evl.Ex.trans ?_ (Evl.Ex.new (by assumption)); walk_at "ex")
  | (refine Evl.Ex.trans ?_ (by assumption); walk_at "ex"))
local macro_rules | `(tactic| walk_at "s1") => `(tactic| first
  | refine ⟨_, rfl, ?_⟩
  | refine ⟨rfl, ?_⟩
  | refine ⟨_, _, rfl, rfl, ?_⟩
  | refine ⟨_, _, _, rfl, rfl, ?_⟩)
local macro_rules | `(tactic| walk_at "st") => `(tactic| repeat walk_at "s1")
local macro_rules | `(tactic| walk_at "v1") => `(tactic| first
  | ((with_reducible refine' s_var ?vch ?_); (case vch => exact rfl))
  | with_reducible refine' s_c ?_
  | with_reducible refine' s_seq ?_
  | with_reducible refine' s_asg ?_
  | with_reducible refine' s_name ?_
  | with_reducible refine' s_cons ?_
  | with_reducible refine' s_nil ?_
  | with_reducible refine' s_op ?_
  | with_reducible refine' s_rI0 ?_
  | with_reducible refine' s_ret ?_
  | with_reducible refine' s_test ?_
  | with_reducible refine' s_ifS ?_
  | with_reducible refine' s_call ?_
  | with_reducible refine' s_cb ?_
  | ((with_reducible refine' s_rEq ?vch ?_); (case vch => exact rfl))
  | ((with_reducible refine' s_rNe ?vch ?_); (case vch => exact rfl))
  | ((with_reducible refine' s_ixT ?vch ?vca ?_); (case vch => walk_at "sq"); (case vca => first | exact rfl | exact at_nat 0 rfl | exact at_nat 1 rfl | exact at_nat 2 rfl | exact at_nat 3 rfl | exact at_nat 4 rfl))
  | ((with_reducible refine' s_ixL ?vch ?vca ?_); (case vch => walk_at "sq"); (case vca => first | exact rfl | exact at_nat 0 rfl | exact at_nat 1 rfl | exact at_nat 2 rfl | exact at_nat 3 rfl | exact at_nat 4 rfl))
  | with_reducible refine iteT' ?_
  | with_reducible refine iteF' ?_
  | with_reducible refine' ex_bl ?_
  | with_reducible refine' ex_int ?_
  | with_reducible refine' ex_str ?_
  | with_reducible refine' ex_int1 ?_
  | with_reducible refine' ex_str1 ?_
  | with_reducible refine' ex_int2 ?_
  | with_reducible refine' ex_pair ?_
  | with_reducible refine' s_un ?_
  | with_reducible refine' s_B ?_
  | with_reducible refine' s_andV ?_
  | with_reducible refine' s_orV ?_
  | with_reducible refine' s_notV ?_
  | with_reducible refine' s_and ?_
  | with_reducible refine' s_or ?_
  | with_reducible refine' s_not ?_
  | with_reducible refine' s_if ?_
  | with_reducible refine' s_chain ?_
  | with_reducible refine' s_next ?_
  | with_reducible refine' s_break ?_
  | with_reducible refine' s_cont ?_
  | with_reducible refine' s_drop ?_
  | with_reducible refine' s_retN ?_
  | with_reducible refine' s_par ?_
  | ((with_reducible refine' s_aug ?vch ?_); (case vch => exact rfl))
  | with_reducible refine' s_ip ?_
  | with_reducible refine' s_gcons ?_
  | with_reducible refine' s_gnil ?_
  | ((with_reducible refine' s_gtup ?vch ?vca ?_); (case vch => walk_at "sq"); (case vca => exact rfl))
  | with_reducible refine' s_tup ?_
  | with_reducible refine' s_lst ?_
  | with_reducible refine' s_sl ?_
  | with_reducible refine' s_part ?_
  | with_reducible refine' s_nopart ?_
  | with_reducible refine' s_fld ?_
  | with_reducible refine' s_make ?_
  | with_reducible refine' s_meth ?_
  | with_reducible refine' s_prop ?_
  | with_reducible refine' s_makeK ?_
  | with_reducible refine' s_gsub ?_
  | ((with_reducible refine' s_setL ?vch ?vca ?_); (case vch => walk_at "hp"); (case vca => exact rfl))
  | with_reducible refine' s_par3 ?_
  | with_reducible refine' ex_three ?_
  | with_reducible refine' s_star ?_
  | with_reducible refine' s_dnewK ?_
  | with_reducible refine' s_dsetd ?_
  | with_reducible refine' s_methR ?_
  | with_reducible refine' s_fldaug ?_
  | with_reducible refine' s_dictzip ?_
  | with_reducible refine' s_sfld ?_
  | with_reducible refine' s_bm ?_
  | with_reducible refine' s_bm0 ?_
  | with_reducible refine' s_m1 ?_
  | with_reducible refine' s_dget ?_
  | with_reducible refine' s_lc ?_
  | with_reducible refine' s_for ?_
  | with_reducible refine' s_iList ?_
  | with_reducible refine' s_iTup ?_
  | with_reducible refine' s_iStr ?_
  | with_reducible refine' s_iRng1 ?_
  | with_reducible refine' s_iRng2 ?_
  | with_reducible refine' s_yes ?_
  | with_reducible refine' s_rU ?_
  | ((with_reducible refine' s_isiP ?vch ?_); (case vch => exact rfl))
  | ((with_reducible refine' ex_lenL ?vch ?_); (case vch => walk_at "sq"))
  | ((with_reducible refine' ex_lenT ?vch ?_); (case vch => walk_at "sq"))
  | ((with_reducible refine' ex_tupL ?vch ?_); (case vch => walk_at "sq"))
  | ((with_reducible refine' ex_lstT ?vch ?_); (case vch => walk_at "sq"))
  | ((with_reducible refine' ex_srcL ?vch ?_); (case vch => walk_at "sq"))
  | ((with_reducible refine' ex_srcT ?vch ?_); (case vch => walk_at "sq"))
  | ((with_reducible refine' s_mk ?vch ?_); (case vch => exact small_le (Nat.le_of_ble_eq_true rfl)))
  | with_reducible refine' ⟨_, _, rfl, rfl, ?_⟩
  | with_reducible refine' ⟨⟨_, rfl⟩, ?_⟩
  | with_reducible refine' ⟨rfl, ?_⟩
  | ((with_reducible refine' iteT_of ?vch ?_); (case vch => exact rfl))
  | ((with_reducible refine' iteF_of ?vch ?_); (case vch => exact rfl)))
local macro_rules | `(tactic| walk_at "vc") => `(tactic| repeat walk_at "v1")
section
variable {P : Program} {w : World} {K : PySem.W.Frag} {mg : Str → Option Value} {base : Heap}
/-! ### steps_in -/
def spSteps (n : Nat) : Sp := fun vs H Q _ => ∃ (a : Addr) (ys : List V) (r : Rows), vs = [.ref a] ∧ H a = some (.tup ys) ∧ ItemsAt H r ys ∧ dep r < n ∧ ∀ H', Ex H H' → Q (.int (steps r)) H'
theorem sc_steps_in : FnScope ["items", "total", "item"] ["items"] (defScope s_steps_in) := ⟨rfl, rfl, rfl, by decide +kernel, rfl, by decide +kernel, by decide +kernel⟩
theorem steps_one (Z : Zf K mg) {n : Nat} (R : Df P w K mg base "steps_in" n ["items"] (spSteps n)) : Df P w K mg base "steps_in" (n+1) ["items"] (spSteps (n+1)) := by
  refine def_ok Z 10 rfl (by decide +kernel) sc_steps_in (fun _ _ _ _ _ _ us hl => match us, hl with | [_], _ => rfl) (fun vs H Q E h => ?_) (fun f cdv A outer s H vs Q E hr h => ⟨_, (pss_cons (ps_asg pe_int (pgn 1 sc_steps_in.nd))
      (pss_cons (ps_for PassesOwn.never rfl (pi_tup (pv 0)) (pgn 2 sc_steps_in.nd)
      (pss_one (ps_if (pt_cmpR op_eq (pe_ix ix_tup (pv 2) pe_int (fun _ _ => rfl)) pe_str (nomark _)) (pss_one (ps_aug (i := 1) sc_steps_in.nd rfl (by first | exact Or.inl rfl | exact Or.inr rfl) (pe_ix ix_tup (pv 2) pe_int (fun _ _ => rfl)) ip_add)) (pss_one (ps_if (pt_cmpR op_eq (pe_ix ix_tup (pv 2) pe_int (fun _ _ => rfl)) pe_str (nomark _)) (pss_one (ps_aug (i := 1) sc_steps_in.nd rfl (by first | exact Or.inl rfl | exact Or.inr rfl) (pe_callD R hr (by omega) rfl (pa_cons (pe_ix ix_tup (pv 2) pe_int (fun _ _ => rfl)) pa_nil)) ip_add)) (pss_one (ps_if (pt_cmpR op_eq (pe_ix ix_tup (pv 2) pe_int (fun _ _ => rfl)) pe_str (nomark _)) (pss_one (ps_aug (i := 1) sc_steps_in.nd rfl (by first | exact Or.inl rfl | exact Or.inr rfl) (pe_op op_add (pe_callD R hr (by omega) rfl (pa_cons (pe_ix ix_tup (pv 2) pe_int (fun _ _ => rfl)) pa_nil)) (pe_callD R hr (by omega) rfl (pa_cons (pe_ix ix_tup (pv 2) pe_int (fun _ _ => rfl)) pa_nil))) ip_add)) pss_nil)))))))
      (pss_one (ps_ret (pv 1))))), ?_⟩)
  · obtain ⟨a, ys, r, rfl, _⟩ := h
    rfl
  · obtain ⟨a, ys, rows, rfl, ha, hi, hd, q⟩ := h
    walk_at "vc"
    refine for_rows walk_tup (ItemsAt H) items_nil (fun r σ H' => Ex H H' ∧ dep r ≤ dep rows ∧ ∃ z v, σ = [some (.ref a), some (.int z), v] ∧ z + steps r = steps rows) rows hi ⟨Evl.Ex.refl _, Nat.le_refl _, 0, _, rfl, by omega⟩ (fun r σ H' ⟨e, _⟩ => by walk_at "sq") ?_ ?_
    · rintro r x vs' σ H' ⟨e, hdr, z, v, rfl, hz⟩ hx
      rcases r with _ | ⟨l, r⟩ | ⟨b, f, one, two, r⟩ | ⟨b, body, r⟩
      · cases hx
      · obtain ⟨x', vs2, e1, hl, hr⟩ := hx
        cases e1
        obtain ⟨p, y, xs, rfl, hp, n1, n2, n3⟩ := hl.get
        walk_at "vc"
        simp only [dep, steps] at hdr hz
        rcases n3 with ⟨n3, rfl⟩ | ⟨n3, ey⟩
        · refine iteT_of (deq n3) ?_
          walk_at "vc"
          exact ⟨r, hr, e, hdr, _, _, rfl, by omega⟩
        · refine iteF_of (dne n3) ?_
          walk_at "vc"
          refine iteF_of (dne n2) ?_
          walk_at "vc"
          refine iteF_of (dne n1) ?_
          walk_at "vc"
          exact ⟨r, hr, e, hdr, _, _, rfl, by omega⟩
      · obtain ⟨p, p1, p2, vs1, vs2, vs3, k, e1, hp, h1, i1, h2, i2, hr⟩ := hx
        cases e1
        simp only [dep, steps] at hdr hz
        walk_at "vc"
        refine ⟨p1, vs1, one, rfl, e _ _ h1, i1.mono e, by omega, fun H2 e2 => ?_⟩
        walk_at "vc"
        refine ⟨p2, vs2, two, rfl, e2 _ _ (e _ _ h2), (i2.mono e).mono e2, by omega, fun H3 e3 => ?_⟩
        walk_at "vc"
        exact ⟨r, hr, Evl.Ex.trans e (Evl.Ex.trans e2 e3), by omega, _, _, rfl, by omega⟩
      · obtain ⟨p, p1, vs1, vs3, k, e1, hp, h1, i1, hr⟩ := hx
        cases e1
        simp only [dep, steps] at hdr hz
        walk_at "vc"
        refine ⟨p1, vs1, body, rfl, e _ _ h1, i1.mono e, by omega, fun H2 e2 => ?_⟩
        walk_at "vc"
        exact ⟨r, hr, Evl.Ex.trans e e2, by omega, _, _, rfl, by omega⟩
    · rintro σ H' ⟨e, _, z, v, rfl, hz⟩
      walk_at "vc"
      have ez : z = steps rows := by
        simp only [steps] at hz
        omega
      rw [ez]
      exact q _ e
theorem D_steps_in (Z : Zf K mg) : ∀ n : Nat, Df P w K mg base "steps_in" n ["items"] (spSteps n)
  | 0 => df_none Z 10 (st := s_steps_in) rfl (by decide +kernel) (fun _ _ _ _ _ _ us hl => match us, hl with | [_], _ => rfl) (fun vs H Q E ⟨_, _, _, _, _, _, h, _⟩ => absurd h (Nat.not_lt_zero _))
  | n + 1 => steps_one Z (D_steps_in Z n)
end
end Ov
/-! text OvT2 -/
set_option Elab.async false
set_option linter.all false
set_option maxRecDepth 100000
namespace Ov
open PySem PySem.Spec PyProof.Rows L2
open Rows
local macro_rules | `(tactic| walk_at "hp") => `(tactic| first
  | assumption
  | exact upd_same
  | (refine Evl.Ex.new (by assumption) _ _ ?_; walk_at "hp")
  | (refine (by assumption : Evl.Ex _ _) _ _ ?_; walk_at "hp"))
local macro_rules | `(tactic| walk_at "sq") => `(tactic| first
  | assumption
  | exact SqL.of (by walk_at "hp")
  | exact SqT.of (by walk_at "hp")
  | (refine Evl.ex_l (by assumption) ?_; walk_at "sq")
  | (refine Evl.ex_t (by assumption) ?_; walk_at "sq")
  | (refine Evl.ex_l (Evl.Ex.new (by assumption)) ?_; walk_at "sq")
  | (refine Evl.ex_t (Evl.Ex.new (by assumption)) ?_; walk_at "sq"))
local macro_rules | `(tactic| walk_at "ex") => `(tactic| first
  | assumption
  | exact Evl.Ex.refl _
  | (refine Evl.Ex.trans ?_ (Evl.Ex.new (by assumption)); walk_at "ex")
  | (refine Evl.Ex.trans ?_ (by assumption); walk_at "ex"))
local macro_rules | `(tactic| walk_at "s1") => `(tactic| first
  | refine ⟨_, rfl, ?_⟩
  | refine ⟨rfl, ?_⟩
  | refine ⟨_, _, rfl, rfl, ?_⟩
  | refine ⟨_, _, _, rfl, rfl, ?_⟩)
local macro_rules | `(tactic| walk_at "st") => `(tactic| repeat walk_at "s1")
local macro_rules | `(tactic| walk_at "v1") => `(tactic| first
  | ((with_reducible refine' s_var ?vch ?_); (case vch => exact rfl))
  | with_reducible refine' s_c ?_
  | with_reducible refine' s_seq ?_
  | with_reducible refine' s_asg ?_
  | with_reducible refine' s_name ?_
  | with_reducible refine' s_cons ?_
  | with_reducible refine' s_nil ?_
  | with_reducible refine' s_op ?_
  | with_reducible refine' s_rI0 ?_
  | with_reducible refine' s_ret ?_
  | with_reducible refine' s_test ?_
  | with_reducible refine' s_ifS ?_
  | with_reducible refine' s_call ?_
  | with_reducible refine' s_cb ?_
  | ((with_reducible refine' s_rEq ?vch ?_); (case vch => exact rfl))
  | ((with_reducible refine' s_rNe ?vch ?_); (case vch => exact rfl))
  | ((with_reducible refine' s_ixT ?vch ?vca ?_); (case vch => walk_at "sq"); (case vca => first | exact rfl | exact at_nat 0 rfl | exact at_nat 1 rfl | exact at_nat 2 rfl | exact at_nat 3 rfl | exact at_nat 4 rfl))
  | ((with_reducible refine' s_ixL ?vch ?vca ?_); (case vch => walk_at "sq"); (case vca => first | exact rfl | exact at_nat 0 rfl | exact at_nat 1 rfl | exact at_nat 2 rfl | exact at_nat 3 rfl | exact at_nat 4 rfl))
  | with_reducible refine iteT' ?_
  | with_reducible refine iteF' ?_
  | with_reducible refine' ex_bl ?_
  | with_reducible refine' ex_int ?_
  | with_reducible refine' ex_str ?_
  | with_reducible refine' ex_int1 ?_
  | with_reducible refine' ex_str1 ?_
  | with_reducible refine' ex_int2 ?_
  | with_reducible refine' ex_pair ?_
  | with_reducible refine' s_un ?_
  | with_reducible refine' s_B ?_
  | with_reducible refine' s_andV ?_
  | with_reducible refine' s_orV ?_
  | with_reducible refine' s_notV ?_
  | with_reducible refine' s_and ?_
  | with_reducible refine' s_or ?_
  | with_reducible refine' s_not ?_
  | with_reducible refine' s_if ?_
  | with_reducible refine' s_chain ?_
  | with_reducible refine' s_next ?_
  | with_reducible refine' s_break ?_
  | with_reducible refine' s_cont ?_
  | with_reducible refine' s_drop ?_
  | with_reducible refine' s_retN ?_
  | with_reducible refine' s_par ?_
  | ((with_reducible refine' s_aug ?vch ?_); (case vch => exact rfl))
  | with_reducible refine' s_ip ?_
  | with_reducible refine' s_gcons ?_
  | with_reducible refine' s_gnil ?_
  | ((with_reducible refine' s_gtup ?vch ?vca ?_); (case vch => walk_at "sq"); (case vca => exact rfl))
  | with_reducible refine' s_tup ?_
  | with_reducible refine' s_lst ?_
  | with_reducible refine' s_sl ?_
  | with_reducible refine' s_part ?_
  | with_reducible refine' s_nopart ?_
  | with_reducible refine' s_fld ?_
  | with_reducible refine' s_make ?_
  | with_reducible refine' s_meth ?_
  | with_reducible refine' s_prop ?_
  | with_reducible refine' s_makeK ?_
  | with_reducible refine' s_gsub ?_
  | ((with_reducible refine' s_setL ?vch ?vca ?_); (case vch => walk_at "hp"); (case vca => exact rfl))
  | with_reducible refine' s_par3 ?_
  | with_reducible refine' ex_three ?_
  | with_reducible refine' s_star ?_
  | with_reducible refine' s_dnewK ?_
  | with_reducible refine' s_dsetd ?_
  | with_reducible refine' s_methR ?_
  | with_reducible refine' s_fldaug ?_
  | with_reducible refine' s_dictzip ?_
  | with_reducible refine' s_sfld ?_
  | with_reducible refine' s_bm ?_
  | with_reducible refine' s_bm0 ?_
  | with_reducible refine' s_m1 ?_
  | with_reducible refine' s_dget ?_
  | with_reducible refine' s_lc ?_
  | with_reducible refine' s_for ?_
  | with_reducible refine' s_iList ?_
  | with_reducible refine' s_iTup ?_
  | with_reducible refine' s_iStr ?_
  | with_reducible refine' s_iRng1 ?_
  | with_reducible refine' s_iRng2 ?_
  | with_reducible refine' s_yes ?_
  | with_reducible refine' s_rU ?_
  | ((with_reducible refine' s_isiP ?vch ?_); (case vch => exact rfl))
  | ((with_reducible refine' ex_lenL ?vch ?_); (case vch => walk_at "sq"))
  | ((with_reducible refine' ex_lenT ?vch ?_); (case vch => walk_at "sq"))
  | ((with_reducible refine' ex_tupL ?vch ?_); (case vch => walk_at "sq"))
  | ((with_reducible refine' ex_lstT ?vch ?_); (case vch => walk_at "sq"))
  | ((with_reducible refine' ex_srcL ?vch ?_); (case vch => walk_at "sq"))
  | ((with_reducible refine' ex_srcT ?vch ?_); (case vch => walk_at "sq"))
  | ((with_reducible refine' s_mk ?vch ?_); (case vch => exact small_le (Nat.le_of_ble_eq_true rfl)))
  | with_reducible refine' ⟨_, _, rfl, rfl, ?_⟩
  | with_reducible refine' ⟨⟨_, rfl⟩, ?_⟩
  | with_reducible refine' ⟨rfl, ?_⟩
  | ((with_reducible refine' iteT_of ?vch ?_); (case vch => exact rfl))
  | ((with_reducible refine' iteF_of ?vch ?_); (case vch => exact rfl)))
local macro_rules | `(tactic| walk_at "vc") => `(tactic| repeat walk_at "v1")
theorem dget_pr {H : Hp} {d : Addr} {pr : Nat → Int} {z : Str} {Pq : V → Prop} (h : PrAt H d pr) (j : Nat) (hj : j < 6) (hz : z = knm j) (q : Pq (.int (pr j))) : ∃ a v, V.ref d = .ref a ∧ DGet H a (.str z) (some v) ∧ Pq v := by
  obtain ⟨kvs, h1, h2⟩ := h
  refine ⟨d, _, rfl, ?_, q⟩
  have z := DGet.k (k := (Sum.inr (knm j) : Key)) h1
  rw [h2 j hj] at z
  rw [hz]
  exact z
/-- an item that is a while -/
def WhlAt (H : Hp) (p : Addr) (w : Rows) : Prop := ∃ (b : Int) (p1 : Addr) (ys : List V) (k : Int), H p = some (.tup [.str "while", .int b, .ref p1, .int k]) ∧ H p1 = some (.tup ys) ∧ ItemsAt H w ys
theorem WhlAt.mono {H H' : Hp} (e : Ex H H') {p : Addr} {w : Rows} (h : WhlAt H p w) : WhlAt H' p w := let ⟨b, p1, ys, k, a, c, d⟩ := h; ⟨b, p1, ys, k, e _ _ a, e _ _ c, d.mono e⟩
section
variable {P : Program} {w : World} {K : PySem.W.Frag} {mg : Str → Option Value} {base : Heap}
/-! ### long_while -/
def spLong (n : Nat) : Sp := fun vs H Q _ => ∃ (a : Addr) (ys : List V) (r : Rows), vs = [.ref a] ∧ H a = some (.tup ys) ∧ ItemsAt H r ys ∧ dep r < n ∧ (∀ H', Ex H H' → long r = none → Q .non H') ∧ ∀ H' p u, Ex H H' → long r = some u → WhlAt H' p u → Q (.ref p) H'
theorem sc_long_while : FnScope ["items", "item", "found"] ["items"] (defScope s_long_while) := ⟨rfl, rfl, rfl, by decide +kernel, rfl, by decide +kernel, by decide +kernel⟩
theorem long_one (Z : Zf K mg) {n : Nat} (R : Df P w K mg base "long_while" n ["items"] (spLong n)) : Df P w K mg base "long_while" (n+1) ["items"] (spLong (n+1)) := by
  refine def_ok Z 46 rfl (by decide +kernel) sc_long_while (fun _ _ _ _ _ _ us hl => match us, hl with | [_], _ => rfl) (fun vs H Q E h => ?_) (fun f cdv A outer s H vs Q E hr h => ⟨_, (pss_cons (ps_for PassesOwn.never rfl (pi_tup (pv 0)) (pgn 1 sc_long_while.nd)
      (pss_cons (ps_if (pt_cmpR op_eq (pe_ix ix_tup (pv 1) pe_int (fun _ _ => rfl)) pe_str (nomark _)) (pss_one (ps_ret (pv 1))) pss_nil)
      (pss_cons (ps_asg (pe_ifExp (pt_cmpR op_eq (pe_ix ix_tup (pv 1) pe_int (fun _ _ => rfl)) pe_str (nomark _)) (pe_callD R hr (by omega) rfl (pa_cons (pe_ix ix_tup (pv 1) pe_int (fun _ _ => rfl)) pa_nil)) pe_non) (pgn 2 sc_long_while.nd))
      (pss_one (ps_if (pt_cmpR op_notN (pv 2) pe_non (nomark _)) (pss_one (ps_ret (pv 2))) pss_nil)))))
      (pss_one (ps_ret pe_non))), ?_⟩)
  · obtain ⟨a, ys, r, rfl, _⟩ := h
    rfl
  · obtain ⟨a, ys, rows, rfl, ha, hi, hd, q0, q1⟩ := h
    walk_at "vc"
    refine for_rows walk_tup (ItemsAt H) items_nil (fun r σ H' => Ex H H' ∧ dep r ≤ dep rows ∧ long r = long rows ∧ ∃ v1 v2, σ = [some (.ref a), v1, v2]) rows hi ⟨Evl.Ex.refl _, Nat.le_refl _, rfl, _, _, rfl⟩ (fun r σ H' ⟨e, _⟩ => by walk_at "sq") ?_ ?_
    · rintro r x vs' σ H' ⟨e, hdr, hl, v1, v2, rfl⟩ hx
      rcases r with _ | ⟨l, r⟩ | ⟨b, f, one, two, r⟩ | ⟨b, body, r⟩
      · cases hx
      · obtain ⟨x', vs2, e1, hln, hr⟩ := hx
        cases e1
        obtain ⟨p, y, xs, rfl, hp, n1, n2, n3⟩ := hln.get
        simp only [dep, long] at hdr hl
        walk_at "vc"
        refine iteF_of (dne n2) ?_
        walk_at "vc"
        refine iteF_of (dne n1) ?_
        walk_at "vc"
        exact ⟨r, hr, e, hdr, hl, _, _, rfl⟩
      · obtain ⟨p, p1, p2, vs1, vs2, vs3, k, e1, hp, h1, i1, h2, i2, hr⟩ := hx
        cases e1
        simp only [dep, long] at hdr hl
        walk_at "vc"
        refine ⟨p1, vs1, one, rfl, e _ _ h1, i1.mono e, by omega, fun H2 e2 en => ?_, fun H2 p' u e2 eu hu => ?_⟩
        · rw [en] at hl
          walk_at "vc"
          exact ⟨r, hr, Evl.Ex.trans e e2, by omega, hl, _, _, rfl⟩
        · rw [eu] at hl
          walk_at "vc"
          exact q1 _ _ _ (Evl.Ex.trans e e2) hl.symm hu
      · obtain ⟨p, p1, vs1, vs3, k, e1, hp, h1, i1, hr⟩ := hx
        cases e1
        simp only [dep, long] at hdr hl
        walk_at "vc"
        exact q1 _ _ _ e hl.symm ⟨b, p1, vs1, k, e _ _ hp, e _ _ h1, i1.mono e⟩
    · rintro σ H' ⟨e, _, hl, v1, v2, rfl⟩
      walk_at "vc"
      exact q0 _ e hl.symm
theorem D_long_while (Z : Zf K mg) : ∀ n : Nat, Df P w K mg base "long_while" n ["items"] (spLong n)
  | 0 => df_none Z 46 (st := s_long_while) rfl (by decide +kernel) (fun _ _ _ _ _ _ us hl => match us, hl with | [_], _ => rfl) (fun vs H Q E ⟨_, _, _, _, _, _, h, _⟩ => absurd h (Nat.not_lt_zero _))
  | n + 1 => long_one Z (D_long_while Z n)
/-! ### spent, round_of -/
def spSpent (n : Nat) : Sp := fun vs H Q _ => ∃ (a d : Addr) (ys : List V) (r : Rows) (x : Int) (pr : Nat → Int) (dd : Nat), vs = [.ref a, .int x, .ref d] ∧ H a = some (.tup ys) ∧ ItemsAt H r ys ∧ dep r < n ∧ Shape r dd ∧ PrAt H d pr ∧ x ≤ 2 ^ 40 ∧
  ∀ p H', Ex H H' → H' p = some (.tup [.int (cost pr r x), .int (rem r x)]) → Q (.ref p) H'
def spRound (n : Nat) : Sp := fun vs H Q _ => ∃ (a d : Addr) (u : Rows) (pr : Nat → Int), vs = [.ref a, .ref d] ∧ WhlAt H a u ∧ dep u < n ∧ Shape u 0 ∧ PrAt H d pr ∧
  ∀ p H', Ex H H' → H' p = some (.tup [.int (cost pr u 0 + pr 5), .int (-(rem u 0))]) → Q (.ref p) H'
theorem sc_round_of : FnScope ["item", "prices", "cost", "left"] ["item", "prices"] (defScope s_round_of) := ⟨rfl, rfl, rfl, by decide +kernel, rfl, by decide +kernel, by decide +kernel⟩
theorem round_one (Z : Zf K mg) {n k : Nat} (R : Df P w K mg base "spent" k ["items", "left", "prices"] (spSpent n)) : Df P w K mg base "round_of" (k+1) ["item", "prices"] (spRound n) := by
  refine def_ok Z 45 rfl (by decide +kernel) sc_round_of (fun _ _ _ _ _ _ us hl => match us, hl with | [_, _], _ => rfl) (fun vs H Q E h => ?_) (fun f cdv A outer s H vs Q E hr h => ⟨_, (pss_cons (ps_asg (pe_callD R hr (by omega) rfl (pa_cons (pe_ix ix_tup (pv 0) pe_int (fun _ _ => rfl)) (pa_cons pe_int (pa_cons (pv 1) pa_nil)))) (pg_tup (by rfl) (pgs_cons (pgn 2 sc_round_of.nd) (pgs_cons (pgn 3 sc_round_of.nd) pgs_nil))))
      (pss_one (ps_ret (pe_tup (pa_cons (pe_op op_add (pv 2) (pe_dget (hu_of hr) (pv 1) pe_str (fun _ _ => rfl))) (pa_cons (pe_un un_neg (pv 3)) pa_nil)))))), ?_⟩)
  · obtain ⟨a, d, u, pr, rfl, _⟩ := h
    rfl
  · obtain ⟨a, d, u, pr, rfl, ⟨b, p1, ys, k, h0, h1, hi⟩, hd, hs, hp, q⟩ := h
    walk_at "vc"
    refine ⟨p1, d, ys, u, 0, pr, 0, rfl, h1, hi, hd, hs, hp, by decide, fun p2 H2 e2 h2 => ?_⟩
    walk_at "vc"
    refine dget_pr (hp.mono e2) 5 (by decide) rfl ?_
    walk_at "vc"
    intro p3 hp3
    exact q p3 _ (by walk_at "ex") upd_same
theorem rounds_eq {b g x : Int} (h : ¬ x < b) : rounds b g x = (x - b) / g + 1 := by
  unfold rounds
  rw [if_neg h]
theorem sc_spent : FnScope ["items", "left", "prices", "total", "item", "more", "cost", "gain", "rounds"] ["items", "left", "prices"] (defScope s_spent) := ⟨rfl, rfl, rfl, by decide +kernel, rfl, by decide +kernel, by decide +kernel⟩
theorem spent_one (Z : Zf K mg) {n k : Nat} (R : Df P w K mg base "spent" k ["items", "left", "prices"] (spSpent n)) (R2 : Df P w K mg base "round_of" (k + 1) ["item", "prices"] (spRound n)) : Df P w K mg base "spent" (k+2) ["items", "left", "prices"] (spSpent (n+1)) := by
  refine def_ok Z 44 rfl (by decide +kernel) sc_spent (fun _ _ _ _ _ _ us hl => match us, hl with | [_, _, _], _ => rfl) (fun vs H Q E h => ?_) (fun f cdv A outer s H vs Q E hr h => ⟨_, (pss_cons (ps_asg pe_int (pgn 3 sc_spent.nd))
      (pss_cons (ps_for PassesOwn.never rfl (pi_tup (pv 0)) (pgn 4 sc_spent.nd)
      (pss_one (ps_if (pt_cmpR op_eq (pe_ix ix_tup (pv 4) pe_int (fun _ _ => rfl)) pe_str (nomark _)) (pss_cons (ps_asg (pe_callD R hr (by omega) rfl (pa_cons (pe_ifExp (pt_cmpR op_ge (pv 1) (pe_ix ix_tup (pv 4) pe_int (fun _ _ => rfl)) (nomark _)) (pe_ix ix_tup (pv 4) pe_int (fun _ _ => rfl)) (pe_ix ix_tup (pv 4) pe_int (fun _ _ => rfl))) (pa_cons (pv 1) (pa_cons (pv 2) pa_nil)))) (pg_tup (by rfl) (pgs_cons (pgn 5 sc_spent.nd) (pgs_cons (pgn 1 sc_spent.nd) pgs_nil))))
      (pss_one (ps_aug (i := 3) sc_spent.nd rfl (by first | exact Or.inl rfl | exact Or.inr rfl) (pe_op op_add (pv 5) (pe_dget (hu_of hr) (pv 2) pe_str (fun _ _ => rfl))) ip_add))) (pss_one (ps_if (pt_cmpR op_eq (pe_ix ix_tup (pv 4) pe_int (fun _ _ => rfl)) pe_str (nomark _)) (pss_cons (ps_asg (pe_callD R2 hr (by omega) rfl (pa_cons (pv 4) (pa_cons (pv 2) pa_nil))) (pg_tup (by rfl) (pgs_cons (pgn 6 sc_spent.nd) (pgs_cons (pgn 7 sc_spent.nd) pgs_nil))))
      (pss_cons (ps_asg (pe_ifExp (pt_cmpR op_lt (pv 1) (pe_ix ix_tup (pv 4) pe_int (fun _ _ => rfl)) (nomark _)) pe_int (pe_op op_add (pe_op op_fdiv (pe_op op_sub (pv 1) (pe_ix ix_tup (pv 4) pe_int (fun _ _ => rfl))) (pv 7)) pe_int)) (pgn 8 sc_spent.nd))
      (pss_cons (ps_aug (i := 3) sc_spent.nd rfl (by first | exact Or.inl rfl | exact Or.inr rfl) (pe_op op_add (pe_op op_mul (pv 8) (pv 6)) (pe_dget (hu_of hr) (pv 2) pe_str (fun _ _ => rfl))) ip_add)
      (pss_one (ps_aug (i := 1) sc_spent.nd rfl (by first | exact Or.inl rfl | exact Or.inr rfl) (pe_op op_mul (pv 8) (pv 7)) ip_sub))))) (pss_cons (ps_aug (i := 3) sc_spent.nd rfl (by first | exact Or.inl rfl | exact Or.inr rfl) (pe_dget (hu_of hr) (pv 2) (pe_ix ix_tup (pv 4) pe_int (fun _ _ => rfl)) (fun _ _ => rfl)) ip_add)
      (pss_one (ps_aug (i := 1) sc_spent.nd rfl (by first | exact Or.inl rfl | exact Or.inr rfl) (pe_ifExp (pt_cmpR op_eq (pe_ix ix_tup (pv 4) pe_int (fun _ _ => rfl)) pe_str (nomark _)) (pe_ix ix_tup (pv 4) pe_int (fun _ _ => rfl)) pe_int) ip_sub))))))))
      (pss_one (ps_ret (pe_tup (pa_cons (pv 3) (pa_cons (pv 1) pa_nil))))))), ?_⟩)
  · obtain ⟨a, d, ys, r, x, pr, dd, rfl, _⟩ := h
    rfl
  · obtain ⟨a, d, ys, rows, x, pr, dd, rfl, ha, hi, hd, hs, hp, hx40, q⟩ := h
    walk_at "vc"
    refine for_rows walk_tup (ItemsAt H) items_nil (fun r σ H' => Ex H H' ∧ dep r ≤ dep rows ∧ (∃ dd, Shape r dd) ∧ ∃ t y v4 v5 v6 v7 v8, σ = [some (.ref a), some (.int y), some (.ref d), some (.int t), v4, v5, v6, v7, v8] ∧ y ≤ 2 ^ 40 ∧ t + cost pr r y = cost pr rows x ∧ rem r y = rem rows x) rows hi ⟨Evl.Ex.refl _, Nat.le_refl _, ⟨dd, hs⟩, 0, x, _, _, _, _, _, rfl, hx40, by omega, rfl⟩ (fun r σ H' ⟨e, _⟩ => by walk_at "sq") ?_ ?_
    · rintro r x' vs' σ H' ⟨e, hdr, ⟨dd', hsh⟩, t, y, v4, v5, v6, v7, v8, rfl, hy, hc, hr1⟩ hx
      rcases r with _ | ⟨l, r⟩ | ⟨b, f, one, two, r⟩ | ⟨b, body, r⟩
      · cases hx
      · obtain ⟨x'', vs2, e1, hl, hr⟩ := hx
        cases e1
        obtain ⟨p, z, xs, rfl, hpp, n1, n2, n3⟩ := hl.get
        simp only [dep, cost, rem] at hdr hc hr1
        obtain ⟨hb0, hsh⟩ := hsh
        walk_at "vc"
        refine iteF_of (dne n1) ?_
        walk_at "vc"
        refine iteF_of (dne n2) ?_
        walk_at "vc"
        refine dget_pr (hp.mono e) l.kind (by have := kind_lt l; omega) (lnS_knm l) ?_
        walk_at "vc"
        rcases n3 with ⟨n3, rfl⟩ | ⟨n3, ey⟩
        · refine iteT_of (deq n3) ?_
          walk_at "vc"
          exact ⟨r, hr, e, hdr, ⟨_, hsh⟩, _, _, _, _, _, _, _, rfl, by omega, by omega, hr1⟩
        · rw [ey] at hc hr1
          refine iteF_of (dne n3) ?_
          walk_at "vc"
          exact ⟨r, hr, e, hdr, ⟨_, hsh⟩, _, _, _, _, _, _, _, rfl, by omega, by omega, hr1⟩
      · obtain ⟨p, p1, p2, vs1, vs2, vs3, k, e1, hpp, h1, i1, h2, i2, hr⟩ := hx
        cases e1
        simp only [dep, cost, rem] at hdr hc hr1
        obtain ⟨_, _, _, ⟨d', _, s1, s2⟩, s3⟩ := hsh
        walk_at "vc"
        by_cases c : b ≤ y
        · rw [if_pos c] at hc hr1
          rw [if_pos c] at hc
          refine iteT_of (decide_eq_true c) ?_
          walk_at "vc"
          refine ⟨p1, d, vs1, one, y, pr, d', rfl, e _ _ h1, i1.mono e, by omega, s1, hp.mono e, hy, fun p5 H2 e2 hp5 => ?_⟩
          walk_at "vc"
          refine dget_pr ((hp.mono e).mono e2) 5 (by decide) rfl ?_
          walk_at "vc"
          have := rem_le s1 y
          exact ⟨r, hr, Evl.Ex.trans e e2, by omega, ⟨_, s3⟩, _, _, _, _, _, _, _, rfl, by omega, by omega, hr1⟩
        · rw [if_neg c] at hc hr1
          rw [if_neg c] at hc
          refine iteF_of (decide_eq_false c) ?_
          walk_at "vc"
          refine ⟨p2, d, vs2, two, y, pr, d', rfl, e _ _ h2, i2.mono e, by omega, s2, hp.mono e, hy, fun p5 H2 e2 hp5 => ?_⟩
          walk_at "vc"
          refine dget_pr ((hp.mono e).mono e2) 5 (by decide) rfl ?_
          walk_at "vc"
          have := rem_le s2 y
          exact ⟨r, hr, Evl.Ex.trans e e2, by omega, ⟨_, s3⟩, _, _, _, _, _, _, _, rfl, by omega, by omega, hr1⟩
      · obtain ⟨p, p1, vs1, vs3, k, e1, hpp, h1, i1, hr⟩ := hx
        cases e1
        simp only [dep, cost, rem] at hdr hc hr1
        obtain ⟨b0, b1, hf, s1, g1, g2, s3⟩ := hsh
        have eg := gain_flat hf
        walk_at "vc"
        refine ⟨p, d, body, pr, rfl, ⟨b, p1, vs1, k, e _ _ hpp, e _ _ h1, i1.mono e⟩, by omega, s1, hp.mono e, fun p5 H2 e2 hp5 => ?_⟩
        walk_at "vc"
        have hb := rounds_bounds (b := b) (g := -(rem body 0)) (x := y) (by omega) b0
        have hn := Int.mul_nonneg hb.1 (show 0 ≤ -(rem body 0) by omega)
        have rest : ∀ m : Int, m = rounds b (-(rem body 0)) y → m * (cost pr body 0 + pr 5) = rounds b (-(rem body 0)) y * (cost pr body 0 + pr 5) ∧ m * (-(rem body 0)) = rounds b (-(rem body 0)) y * (-(rem body 0)) := fun m e => by rw [e]; exact ⟨rfl, rfl⟩
        by_cases c : y < b
        · have er : rounds b (-(rem body 0)) y = 0 := by unfold rounds; rw [if_pos c]
          rw [er] at hc hr1
          refine iteT_of (decide_eq_true c) ?_
          walk_at "vc"
          refine s_rI (.inl ⟨by decide, by decide⟩) ?_
          walk_at "vc"
          refine dget_pr ((hp.mono e).mono e2) 5 (by decide) rfl ?_
          walk_at "vc"
          refine s_rI (.inl ⟨by decide, by decide⟩) ?_
          walk_at "vc"
          exact ⟨r, hr, Evl.Ex.trans e e2, by omega, ⟨_, s3⟩, _, _, _, _, _, _, _, rfl, by omega, by omega, hr1⟩
        · have er := rounds_eq (g := -(rem body 0)) c
          refine iteF_of (decide_eq_false c) ?_
          walk_at "vc"
          refine s_rI ⟨by omega, by omega⟩ ?_
          walk_at "vc"
          rw [← er]
          refine s_rI (.inl ⟨by omega, by omega⟩) ?_
          walk_at "vc"
          refine dget_pr ((hp.mono e).mono e2) 5 (by decide) rfl ?_
          walk_at "vc"
          refine s_rI (.inl ⟨by omega, by omega⟩) ?_
          walk_at "vc"
          exact ⟨r, hr, Evl.Ex.trans e e2, by omega, ⟨_, s3⟩, _, _, _, _, _, _, _, rfl, by omega, by omega, hr1⟩
    · rintro σ H' ⟨e, _, _, t, y, v4, v5, v6, v7, v8, rfl, hy, hc, hr1⟩
      walk_at "vc"
      intro p3 hp3
      have e1 : t = cost pr rows x := by
        simp only [cost] at hc
        omega
      have e2 : y = rem rows x := hr1
      rw [e1, e2]
      exact q p3 _ (by walk_at "ex") upd_same
theorem D_spent (Z : Zf K mg) : ∀ n : Nat, Df P w K mg base "spent" (2 * n) ["items", "left", "prices"] (spSpent n)
  | 0 => df_none Z 44 (st := s_spent) rfl (by decide +kernel) (fun _ _ _ _ _ _ us hl => match us, hl with | [_, _, _], _ => rfl) (fun vs H Q E ⟨_, _, _, _, _, _, _, _, _, _, h, _⟩ => absurd h (Nat.not_lt_zero _))
  | n + 1 => by
    rw [show 2 * (n + 1) = 2 * n + 2 from rfl]
    exact spent_one Z (D_spent Z n) (round_one Z (D_spent Z n))
end
end Ov
/-! text OvT3 -/
set_option Elab.async false
set_option linter.all false
set_option maxRecDepth 100000
namespace Ov
open PySem PySem.Spec PyProof.Rows L2
open Rows
local macro_rules | `(tactic| walk_at "hp") => `(tactic| first
  | assumption
  | exact upd_same
  | (refine Evl.Ex.new (by assumption) _ _ ?_; walk_at "hp")
  | (refine (by assumption : Evl.Ex _ _) _ _ ?_; walk_at "hp"))
local macro_rules | `(tactic| walk_at "sq") => `(tactic| first
  | assumption
  | exact SqL.of (by walk_at "hp")
  | exact SqT.of (by walk_at "hp")
  | (refine Evl.ex_l (by assumption) ?_; walk_at "sq")
  | (refine Evl.ex_t (by assumption) ?_; walk_at "sq")
  | (refine Evl.ex_l (Evl.Ex.new (by assumption)) ?_; walk_at "sq")
  | (refine Evl.ex_t (Evl.Ex.new (by assumption)) ?_; walk_at "sq"))
local macro_rules | `(tactic| walk_at "ex") => `(tactic| first
  | assumption
  | exact Evl.Ex.refl _
  | (refine Evl.Ex.trans ?_ (Evl.Ex.new (by assumption)); walk_at "ex")
  | (refine Evl.Ex.trans ?_ (by assumption); walk_at "ex"))
local macro_rules | `(tactic| walk_at "s1") => `(tactic| first
  | refine ⟨_, rfl, ?_⟩
  | refine ⟨rfl, ?_⟩
  | refine ⟨_, _, rfl, rfl, ?_⟩
  | refine ⟨_, _, _, rfl, rfl, ?_⟩)
local macro_rules | `(tactic| walk_at "st") => `(tactic| repeat walk_at "s1")
local macro_rules | `(tactic| walk_at "v1") => `(tactic| first
  | ((with_reducible refine' s_var ?vch ?_); (case vch => exact rfl))
  | with_reducible refine' s_c ?_
  | with_reducible refine' s_seq ?_
  | with_reducible refine' s_asg ?_
  | with_reducible refine' s_name ?_
  | with_reducible refine' s_cons ?_
  | with_reducible refine' s_nil ?_
  | with_reducible refine' s_op ?_
  | with_reducible refine' s_rI0 ?_
  | with_reducible refine' s_ret ?_
  | with_reducible refine' s_test ?_
  | with_reducible refine' s_ifS ?_
  | with_reducible refine' s_call ?_
  | with_reducible refine' s_cb ?_
  | ((with_reducible refine' s_rEq ?vch ?_); (case vch => exact rfl))
  | ((with_reducible refine' s_rNe ?vch ?_); (case vch => exact rfl))
  | ((with_reducible refine' s_ixT ?vch ?vca ?_); (case vch => walk_at "sq"); (case vca => first | exact rfl | exact at_nat 0 rfl | exact at_nat 1 rfl | exact at_nat 2 rfl | exact at_nat 3 rfl | exact at_nat 4 rfl))
  | ((with_reducible refine' s_ixL ?vch ?vca ?_); (case vch => walk_at "sq"); (case vca => first | exact rfl | exact at_nat 0 rfl | exact at_nat 1 rfl | exact at_nat 2 rfl | exact at_nat 3 rfl | exact at_nat 4 rfl))
  | with_reducible refine iteT' ?_
  | with_reducible refine iteF' ?_
  | with_reducible refine' ex_bl ?_
  | with_reducible refine' ex_int ?_
  | with_reducible refine' ex_str ?_
  | with_reducible refine' ex_int1 ?_
  | with_reducible refine' ex_str1 ?_
  | with_reducible refine' ex_int2 ?_
  | with_reducible refine' ex_pair ?_
  | with_reducible refine' s_un ?_
  | with_reducible refine' s_B ?_
  | with_reducible refine' s_andV ?_
  | with_reducible refine' s_orV ?_
  | with_reducible refine' s_notV ?_
  | with_reducible refine' s_and ?_
  | with_reducible refine' s_or ?_
  | with_reducible refine' s_not ?_
  | with_reducible refine' s_if ?_
  | with_reducible refine' s_chain ?_
  | with_reducible refine' s_next ?_
  | with_reducible refine' s_break ?_
  | with_reducible refine' s_cont ?_
  | with_reducible refine' s_drop ?_
  | with_reducible refine' s_retN ?_
  | with_reducible refine' s_par ?_
  | ((with_reducible refine' s_aug ?vch ?_); (case vch => exact rfl))
  | with_reducible refine' s_ip ?_
  | with_reducible refine' s_gcons ?_
  | with_reducible refine' s_gnil ?_
  | ((with_reducible refine' s_gtup ?vch ?vca ?_); (case vch => walk_at "sq"); (case vca => exact rfl))
  | with_reducible refine' s_tup ?_
  | with_reducible refine' s_lst ?_
  | with_reducible refine' s_sl ?_
  | with_reducible refine' s_part ?_
  | with_reducible refine' s_nopart ?_
  | with_reducible refine' s_fld ?_
  | with_reducible refine' s_make ?_
  | with_reducible refine' s_meth ?_
  | with_reducible refine' s_prop ?_
  | with_reducible refine' s_makeK ?_
  | with_reducible refine' s_gsub ?_
  | ((with_reducible refine' s_setL ?vch ?vca ?_); (case vch => walk_at "hp"); (case vca => exact rfl))
  | with_reducible refine' s_par3 ?_
  | with_reducible refine' ex_three ?_
  | with_reducible refine' s_star ?_
  | with_reducible refine' s_dnewK ?_
  | with_reducible refine' s_dsetd ?_
  | with_reducible refine' s_methR ?_
  | with_reducible refine' s_fldaug ?_
  | with_reducible refine' s_dictzip ?_
  | with_reducible refine' s_sfld ?_
  | with_reducible refine' s_bm ?_
  | with_reducible refine' s_bm0 ?_
  | with_reducible refine' s_m1 ?_
  | with_reducible refine' s_dget ?_
  | with_reducible refine' s_lc ?_
  | with_reducible refine' s_for ?_
  | with_reducible refine' s_iList ?_
  | with_reducible refine' s_iTup ?_
  | with_reducible refine' s_iStr ?_
  | with_reducible refine' s_iRng1 ?_
  | with_reducible refine' s_iRng2 ?_
  | with_reducible refine' s_yes ?_
  | with_reducible refine' s_rU ?_
  | ((with_reducible refine' s_isiP ?vch ?_); (case vch => exact rfl))
  | ((with_reducible refine' ex_lenL ?vch ?_); (case vch => walk_at "sq"))
  | ((with_reducible refine' ex_lenT ?vch ?_); (case vch => walk_at "sq"))
  | ((with_reducible refine' ex_tupL ?vch ?_); (case vch => walk_at "sq"))
  | ((with_reducible refine' ex_lstT ?vch ?_); (case vch => walk_at "sq"))
  | ((with_reducible refine' ex_srcL ?vch ?_); (case vch => walk_at "sq"))
  | ((with_reducible refine' ex_srcT ?vch ?_); (case vch => walk_at "sq"))
  | ((with_reducible refine' s_mk ?vch ?_); (case vch => exact small_le (Nat.le_of_ble_eq_true rfl)))
  | with_reducible refine' ⟨_, _, rfl, rfl, ?_⟩
  | with_reducible refine' ⟨⟨_, rfl⟩, ?_⟩
  | with_reducible refine' ⟨rfl, ?_⟩
  | ((with_reducible refine' iteT_of ?vch ?_); (case vch => exact rfl))
  | ((with_reducible refine' iteF_of ?vch ?_); (case vch => exact rfl)))
local macro_rules | `(tactic| walk_at "vc") => `(tactic| repeat walk_at "v1")
def heightAt (hs : List Int) (n g x : Int) : Int := if x < (hs.length : Int) - n then hs.getD x.toNat 0 else hs.getD ((hs.length : Int) - n + (x - ((hs.length : Int) - n)) % n).toNat 0 + (x - ((hs.length : Int) - n)) / n * g
theorem at_ints {hs : List Int} {x : Int} (h0 : 0 ≤ x) (h1 : x < (hs.length : Int)) : atI (hs.map V.int) x = some (.int (hs.getD x.toNat 0)) := by
  obtain ⟨k, rfl⟩ : ∃ k : Nat, x = (k : Int) := ⟨x.toNat, by omega⟩
  have hl : k < hs.length := by omega
  refine atI_nat ?_
  rw [List.getElem?_map, Int.toNat_natCast, List.getD_eq_getElem?_getD]
  simp [hl]
section
variable {P : Program} {w : World} {K : PySem.W.Frag} {mg : Str → Option Value} {base : Heap}
/-! ### common_multiple, of twice the same -/
def spCm : Sp := fun vs H Q _ => ∃ n : Int, vs = [.int n, .int n] ∧ 1 ≤ n ∧ n ≤ 1000000 ∧ ∀ H', Ex H H' → Q (.int n) H'
theorem sc_common_multiple : FnScope ["one", "two", "great", "small"] ["one", "two"] (defScope s_common_multiple) := ⟨rfl, rfl, rfl, by decide +kernel, rfl, by decide +kernel, by decide +kernel⟩
theorem D_common_multiple (Z : Zf K mg) : Df P w K mg base "common_multiple" (1) ["one", "two"] spCm := by
  refine def_ok Z 9 rfl (by decide +kernel) sc_common_multiple (fun _ _ _ _ _ _ us hl => match us, hl with | [_, _], _ => rfl) (fun vs H Q E h => ?_) (fun f cdv A outer s H vs Q E hr h => ⟨_, (pss_cons (ps_par (i := 2) (j := 3) (by rfl) sc_common_multiple.nd rfl rfl (by decide) rfl rfl (pa_cons (pv 0) (pa_cons (pv 1) pa_nil)) (by rfl))
      (pss_cons (ps_while PassesOwn.never (pt_cmpR op_gt (pv 3) pe_int (nomark _)) (pss_one (ps_par (i := 2) (j := 3) (by rfl) sc_common_multiple.nd rfl rfl (by decide) rfl rfl (pa_cons (pv 3) (pa_cons (pe_op op_mod (pv 2) (pv 3)) pa_nil)) (by rfl))))
      (pss_one (ps_ret (pe_op op_mul (pe_op op_fdiv (pv 0) (pv 2)) (pv 1)))))), ?_⟩)
  · obtain ⟨n, rfl, _⟩ := h
    rfl
  · obtain ⟨n, rfl, h1, h2, q⟩ := h
    walk_at "vc"
    refine ⟨fun m σ H' => H' = H ∧ ((m = 1 ∧ σ = [some (.int n), some (.int n), some (.int n), some (.int n)]) ∨ (m = 0 ∧ σ = [some (.int n), some (.int n), some (.int n), some (.int 0)])), ⟨1, rfl, .inl ⟨rfl, rfl⟩⟩, ?_⟩
    rintro m σ H' ⟨rfl, ⟨rfl, rfl⟩ | ⟨rfl, rfl⟩⟩
    · walk_at "vc"
      refine iteT_of (decide_eq_true (by omega)) ?_
      refine ⟨fun σ H'' => H'' = H' ∧ σ = [some (.int n), some (.int n), some (.int n), some (.int 0)], fun σ' H'' ⟨a, b⟩ => ⟨0, by decide, a, .inr ⟨rfl, b⟩⟩, ?_⟩
      walk_at "vc"
      refine s_rI (by omega) ?_
      walk_at "vc"
      rw [Int.emod_self]
      trivial
    · walk_at "vc"
      refine s_rI ⟨by omega, by omega⟩ ?_
      walk_at "vc"
      rw [Int.ediv_self (by omega)]
      refine s_rI (.inl ⟨by decide, by decide⟩) ?_
      rw [Int.one_mul]
      exact q _ (Evl.Ex.refl _)
/-! ### height_at -/
def spHeight : Sp := fun vs H Q _ => ∃ (t q : Addr) (hs : List Int) (n g x : Int), vs = [.ref t, .int x] ∧ H t = some (.tup [.ref q, .int n, .int g]) ∧ H q = some (.tup (hs.map V.int)) ∧ 1 ≤ n ∧ n ≤ hs.length ∧ hs.length ≤ 100000 ∧ 0 ≤ x ∧ x ≤ 2 ^ 40 ∧ ∀ H', Ex H H' → Q (.int (heightAt hs n g x)) H'
theorem sc_height_at : FnScope ["held", "number", "heights", "period", "gain", "start", "rounds", "rest"] ["held", "number"] (defScope s_height_at) := ⟨rfl, rfl, rfl, by decide +kernel, rfl, by decide +kernel, by decide +kernel⟩
theorem D_height_at (Z : Zf K mg) : Df P w K mg base "height_at" (1) ["held", "number"] spHeight := by
  refine def_ok Z 35 rfl (by decide +kernel) sc_height_at (fun _ _ _ _ _ _ us hl => match us, hl with | [_, _], _ => rfl) (fun vs H Q E h => ?_) (fun f cdv A outer s H vs Q E hr h => ⟨_, (pss_cons (ps_asg (pv 0) (pg_tup (by rfl) (pgs_cons (pgn 2 sc_height_at.nd) (pgs_cons (pgn 3 sc_height_at.nd) (pgs_cons (pgn 4 sc_height_at.nd) pgs_nil)))))
      (pss_cons (ps_asg (pe_op op_sub (pe_callB call_lenT (by rfl) (Z.free "len") (by decide +kernel) (pa_cons (pv 2) pa_nil)) (pv 3)) (pgn 5 sc_height_at.nd))
      (pss_cons (ps_if (pt_cmpR op_lt (pv 1) (pv 5) (nomark _)) (pss_one (ps_ret (pe_ix ix_tup (pv 2) (pv 1) (fun _ _ => rfl)))) pss_nil)
      (pss_cons (ps_asg (pe_callB call_divmod (by rfl) (Z.free "divmod") (by decide +kernel) (pa_cons (pe_op op_sub (pv 1) (pv 5)) (pa_cons (pv 3) pa_nil))) (pg_tup (by rfl) (pgs_cons (pgn 6 sc_height_at.nd) (pgs_cons (pgn 7 sc_height_at.nd) pgs_nil))))
      (pss_one (ps_ret (pe_op op_add (pe_ix ix_tup (pv 2) (pe_op op_add (pv 5) (pv 7)) (fun _ _ => rfl)) (pe_op op_mul (pv 6) (pv 4))))))))), ?_⟩)
  · obtain ⟨t, q, hs, n, g, x, rfl, _⟩ := h
    rfl
  · obtain ⟨t, q, hs, n, g, x, rfl, ht, hq, n1, n2, n3, x0, x1, k⟩ := h
    unfold heightAt at k
    walk_at "vc"
    rw [List.length_map]
    by_cases c : x < (hs.length : Int) - n
    · rw [if_pos c] at k
      refine iteT_of (decide_eq_true c) ?_
      walk_at "vc"
      refine s_ixT (SqT.of hq) (at_ints x0 (by omega)) ?_
      exact k _ (Evl.Ex.refl _)
    · rw [if_neg c] at k
      refine iteF_of (decide_eq_false c) ?_
      walk_at "vc"
      refine ⟨⟨by omega, by omega⟩, fun p hp => ?_⟩
      walk_at "vc"
      have m0 := Int.emod_nonneg (x - ((hs.length : Int) - n)) (show n ≠ 0 by omega)
      have m1 := Int.emod_lt_of_pos (x - ((hs.length : Int) - n)) (show 0 < n by omega)
      have d0 : 0 ≤ (x - ((hs.length : Int) - n)) / n := Int.ediv_nonneg (by omega) (by omega)
      have d1 : (x - ((hs.length : Int) - n)) / n ≤ x - ((hs.length : Int) - n) := Int.ediv_le_self _ (by omega)
      refine s_ixT (by walk_at "sq") (at_ints (by omega) (by omega)) ?_
      walk_at "vc"
      refine s_rI (.inl ⟨by omega, by omega⟩) ?_
      walk_at "vc"
      exact k _ (by walk_at "ex")
/-! ### combined -/
def both (s : Int) (a b : List Int) : List Int := a.zipWith (fun x y => x + s * y) b
theorem both_range {s : Int} {a b : List Int} (h : a.length = b.length) : (List.range a.length).map (fun i => V.int (a.getD i 0 + s * b.getD i 0)) = (both s a b).map V.int := by
  apply List.ext_getElem
  · simp [both, h]
  · intro i h1 h2
    simp only [List.length_map, both, List.length_zipWith] at h2
    have i1 : i < a.length := by omega
    have i2 : i < b.length := by omega
    simp [both, i1, i2]
theorem height_small {hs : List Int} {n g : Int} {i : Nat} (n1 : 1 ≤ n) (n2 : n ≤ hs.length) (hi : i < hs.length) : heightAt hs n g (i : Int) = hs.getD i 0 := by
  unfold heightAt
  by_cases c : (i : Int) < (hs.length : Int) - n
  · rw [if_pos c]
    rfl
  · rw [if_neg c]
    have e1 : ((i : Int) - ((hs.length : Int) - n)) % n = (i : Int) - ((hs.length : Int) - n) := Int.emod_eq_of_lt (by omega) (by omega)
    have e2 : ((i : Int) - ((hs.length : Int) - n)) / n = 0 := Int.ediv_eq_zero_of_lt (by omega) (by omega)
    rw [e1, e2, Int.zero_mul, Int.add_zero]
    congr 1
    omega
/-- the three things that a form holds -/
def HeldAt (H : Hp) (t : Addr) (hs : List Int) (n g : Int) : Prop := ∃ q : Addr, H t = some (.tup [.ref q, .int n, .int g]) ∧ H q = some (.tup (hs.map V.int))
theorem HeldAt.mono {H H' : Hp} (e : Ex H H') {t : Addr} {hs : List Int} {n g : Int} (h : HeldAt H t hs n g) : HeldAt H' t hs n g := let ⟨q, a, b⟩ := h; ⟨q, e _ _ a, e _ _ b⟩
def spComb : Sp := fun vs H Q _ => ∃ (t1 t2 : Addr) (a b : List Int) (n g1 g2 s : Int), vs = [.ref t1, .ref t2, .int s] ∧ HeldAt H t1 a n g1 ∧ HeldAt H t2 b n g2 ∧ a.length = b.length ∧ 1 ≤ n ∧ n ≤ a.length ∧ a.length ≤ 100000 ∧ (s = 1 ∨ s = -1) ∧ ∀ p H', Ex H H' → HeldAt H' p (both s a b) n (g1 + s * g2) → Q (.ref p) H'
theorem sc_combined : FnScope ["one", "other", "sign", "period", "length", "heights", "k"] ["one", "other", "sign"] (defScope s_combined) := ⟨rfl, rfl, rfl, by decide +kernel, rfl, by decide +kernel, by decide +kernel⟩
theorem D_combined (Z : Zf K mg) : Df P w K mg base "combined" (2) ["one", "other", "sign"] spComb := by
  refine def_ok Z 37 rfl (by decide +kernel) sc_combined (fun _ _ _ _ _ _ us hl => match us, hl with | [_, _, _], _ => rfl) (fun vs H Q E h => ?_) (fun f cdv A outer s H vs Q E hr h => ⟨_, (pss_cons (ps_asg (pe_callD (D_common_multiple Z) hr (by omega) rfl (pa_cons (pe_ix ix_tup (pv 0) pe_int (fun _ _ => rfl)) (pa_cons (pe_ix ix_tup (pv 1) pe_int (fun _ _ => rfl)) pa_nil))) (pgn 3 sc_combined.nd))
      (pss_cons (ps_asg (pe_op op_add (pe_callB (cr_max rfl) (by rfl) (Z.free "max") (by decide +kernel) (pa_cons (pe_lst (pa_cons (pe_op op_sub (pe_callB call_lenT (by rfl) (Z.free "len") (by decide +kernel) (pa_cons (pe_ix ix_tup (pv 0) pe_int (fun _ _ => rfl)) pa_nil)) (pe_ix ix_tup (pv 0) pe_int (fun _ _ => rfl))) (pa_cons (pe_op op_sub (pe_callB call_lenT (by rfl) (Z.free "len") (by decide +kernel) (pa_cons (pe_ix ix_tup (pv 1) pe_int (fun _ _ => rfl)) pa_nil)) (pe_ix ix_tup (pv 1) pe_int (fun _ _ => rfl))) pa_nil))) pa_nil)) (pv 3)) (pgn 4 sc_combined.nd))
      (pss_cons (ps_asg (pe_callTy call_tupL (by rfl) (Z.free "tuple") (by decide +kernel) (pa_cons (pe_lc (own := [("k", 6)]) (g := gName 6) (tt := tYes) rfl sc_combined.nd (pi_range1 rfl (Z.free "range") (pa_cons (pv 4) pa_nil)) (blkOk_by (own := [("k", 6)]) (N := ["one", "other", "sign", "period", "length", "heights", "k"]) (sc := defScope s_combined) (by decide +kernel)) (fun _ _ _ _ _ => (pgn 6 sc_combined.nd)) (fun _ _ _ _ _ => pts_nil) (fun _ _ _ _ _ => (pe_op op_add (pe_callD (D_height_at Z) hr (by omega) rfl (pa_cons (pv 0) (pa_cons (pv 6) pa_nil))) (pe_op op_mul (pv 2) (pe_callD (D_height_at Z) hr (by omega) rfl (pa_cons (pv 1) (pa_cons (pv 6) pa_nil))))))) pa_nil)) (pgn 5 sc_combined.nd))
      (pss_one (ps_ret (pe_tup (pa_cons (pv 5) (pa_cons (pv 3) (pa_cons (pe_op op_add (pe_op op_mul (pe_op op_fdiv (pv 3) (pe_ix ix_tup (pv 0) pe_int (fun _ _ => rfl))) (pe_ix ix_tup (pv 0) pe_int (fun _ _ => rfl))) (pe_op op_mul (pv 2) (pe_op op_mul (pe_op op_fdiv (pv 3) (pe_ix ix_tup (pv 1) pe_int (fun _ _ => rfl))) (pe_ix ix_tup (pv 1) pe_int (fun _ _ => rfl))))) pa_nil))))))))), ?_⟩)
  · obtain ⟨t1, t2, a, b, n, g1, g2, s, rfl, _⟩ := h
    rfl
  · obtain ⟨t1, t2, a, b, n, g1, g2, sg, rfl, ⟨q1, ht1, hq1⟩, ⟨q2, ht2, hq2⟩, hl, n1, n2, n3, hs, k⟩ := h
    walk_at "vc"
    refine ⟨n, rfl, n1, by omega, fun H1 e1 => ?_⟩
    walk_at "vc"
    rw [List.length_map, List.length_map]
    intro p hp
    refine ⟨p, [(a.length : Int) - n, (b.length : Int) - n], rfl, by walk_at "sq", Nat.succ_pos _, fun m hm _ => ?_⟩
    have em : m = (a.length : Int) - n := by
      simp only [List.mem_cons, List.not_mem_nil, or_false] at hm
      omega
    subst em
    walk_at "vc"
    have el : (a.length : Int) - n + n = (a.length : Int) := by omega
    rw [el]
    refine ⟨by omega, by omega, ?_⟩
    refine lc_ex walk_range (j := 6) (fun i => V.int (0 + (i : Int))) (fun _ => true) (fun i v _ => v = V.int (a.getD i 0 + sg * b.getD i 0)) (fun _ _ _ _ _ h => h) (fun i H x H' _ h => h) (fun _ _ => trivial) (by rw [Int.toNat_natCast]; exact n3) (fun _ => rfl) ?_ ?_ ?_
    · intro i H2 _ _ Q1 k1
      exact k1 H2 (Evl.Ex.refl _)
    · intro i H2 hi _ e2 Q1 k1
      rw [Int.toNat_natCast] at hi
      have e12 := Evl.Ex.trans (Evl.Ex.trans e1 (Evl.Ex.new hp)) e2
      walk_at "vc"
      rw [Int.zero_add]
      refine ⟨t1, q1, a, n, g1, (i : Int), rfl, e12 _ _ ht1, e12 _ _ hq1, n1, n2, n3, by omega, by omega, fun H3 e3 => ?_⟩
      walk_at "vc"
      have e13 := Evl.Ex.trans e12 e3
      refine ⟨t2, q2, b, n, g2, (i : Int), rfl, e13 _ _ ht2, e13 _ _ hq2, n1, by omega, by omega, by omega, by omega, fun H4 e4 => ?_⟩
      refine s_rI (.inl (by rcases hs with rfl | rfl <;> decide)) ?_
      walk_at "vc"
      rw [height_small n1 n2 hi, height_small n1 (by omega) (by omega)]
      exact k1 _ _ (Evl.Ex.trans e3 e4) rfl
    · intro D ys H2 hD e2 hy hm
      have ey := Made.allVals hm
      rw [Int.toNat_natCast, both_range hl] at ey
      subst ey
      walk_at "vc"
      intro pt hpt
      walk_at "vc"
      have e12 := Evl.Ex.trans (Evl.Ex.trans e1 (Evl.Ex.new hp)) e2
      refine s_rI ⟨by omega, by omega⟩ ?_
      rw [Int.ediv_self (by omega)]
      walk_at "vc"
      refine s_rI (.inl ⟨by decide, by decide⟩) ?_
      walk_at "vc"
      refine s_rI ⟨by omega, by omega⟩ ?_
      rw [Int.ediv_self (by omega)]
      walk_at "vc"
      refine s_rI (.inl ⟨by decide, by decide⟩) ?_
      refine s_rI (.inl (by rcases hs with rfl | rfl <;> decide)) ?_
      walk_at "vc"
      intro pu hpu
      rw [Int.one_mul, Int.one_mul]
      exact k pu _ (by walk_at "ex") ⟨pt, upd_same, by walk_at "hp"⟩
/-! ### is_zero -/
def spZero : Sp := fun vs H Q _ => ∃ (t : Addr) (hs : List Int) (n : Int), vs = [.ref t] ∧ HeldAt H t hs n 0 ∧ hs.length ≤ 100000 ∧ (∀ x ∈ hs, x = 0) ∧ ∀ H', Ex H H' → Q (.bl true) H'
theorem sc_is_zero : FnScope ["held", "height"] ["held"] (defScope s_is_zero) := ⟨rfl, rfl, rfl, by decide +kernel, rfl, by decide +kernel, by decide +kernel⟩
theorem D_is_zero (Z : Zf K mg) : Df P w K mg base "is_zero" (1) ["held"] spZero := by
  refine def_ok Z 38 rfl (by decide +kernel) sc_is_zero (fun _ _ _ _ _ _ us hl => match us, hl with | [_], _ => rfl) (fun vs H Q E h => ?_) (fun f cdv A outer s H vs Q E hr h => ⟨_, (pss_one (ps_ret (pe_and (pe_cmpR op_eq (pe_ix ix_tup (pv 0) pe_int (fun _ _ => rfl)) pe_int (nomark _)) (pe_one (pe_callB (cr_all rfl) (by rfl) (Z.free "all") (by decide +kernel) (pa_cons (pe_lc (own := [("height", 1)]) (g := gName 1) (tt := tYes) rfl sc_is_zero.nd (pi_tup (pe_ix ix_tup (pv 0) pe_int (fun _ _ => rfl))) (blkOk_by (own := [("height", 1)]) (N := ["held", "height"]) (sc := defScope s_is_zero) (by decide +kernel)) (fun _ _ _ _ _ => (pgn 1 sc_is_zero.nd)) (fun _ _ _ _ _ => pts_nil) (fun _ _ _ _ _ => (pe_cmpR op_eq (pv 1) pe_int (nomark _)))) pa_nil)))))), ?_⟩)
  · obtain ⟨t, hs, n, rfl, _⟩ := h
    rfl
  · obtain ⟨t, hs, n, rfl, ⟨q, ht, hq⟩, hl, hz, k⟩ := h
    walk_at "vc"
    refine lc_ex walk_tup (j := 1) (fun i => (hs.map V.int).getD i .non) (fun _ => true) (fun i v _ => v = V.bl true) (fun _ _ _ _ _ h => h) ?_ (fun H' e => by walk_at "sq") (by rw [List.length_map]; exact hl) (fun _ => rfl) ?_ ?_ ?_
    · rintro i H2 x H' hi ⟨e, hx⟩
      exact ⟨e, by rw [List.getD_eq_getElem?_getD, hx]; rfl⟩
    · intro i H2 _ _ Q1 k1
      exact k1 H2 (Evl.Ex.refl _)
    · intro i H2 hi _ e2 Q1 k1
      rw [List.length_map] at hi
      have e1 : (hs.map V.int).getD i .non = V.int 0 := by
        rw [List.getD_eq_getElem?_getD, List.getElem?_map, List.getElem?_eq_getElem hi]
        exact congrArg V.int (hz _ (List.getElem_mem hi))
      rw [e1]
      walk_at "vc"
      exact k1 _ _ (Evl.Ex.refl _) rfl
    · intro D ys H2 hD e2 hy hm
      have ey := Made.allVals hm
      refine ⟨D, List.replicate hs.length true, rfl, SqL.of ?_, ?_⟩
      · rw [hy, ey, List.map_const', List.map_replicate]
        simp
      · have ea : (List.replicate hs.length true).all id = true := by simp
        rw [ea]
        exact k _ e2
end
end Ov
/-! text OvV1 -/
set_option Elab.async false
set_option linter.all false
set_option maxRecDepth 100000
namespace Ov
open PySem PySem.Spec PyProof.Rows L2
local macro_rules | `(tactic| walk_at "hp") => `(tactic| first
  | assumption
  | exact upd_same
  | (refine Evl.Ex.new (by assumption) _ _ ?_; walk_at "hp")
  | (refine (by assumption : Evl.Ex _ _) _ _ ?_; walk_at "hp"))
local macro_rules | `(tactic| walk_at "sq") => `(tactic| first
  | assumption
  | exact SqL.of (by walk_at "hp")
  | exact SqT.of (by walk_at "hp")
  | (refine Evl.ex_l (by assumption) ?_; walk_at "sq")
  | (refine Evl.ex_t (by assumption) ?_; walk_at "sq")
  | (refine Evl.ex_l (Evl.Ex.new (by assumption)) ?_; walk_at "sq")
  | (refine Evl.ex_t (Evl.Ex.new (by assumption)) ?_; walk_at "sq"))
local macro_rules | `(tactic| walk_at "ex") => `(tactic| first
  | assumption
  | exact Evl.Ex.refl _
  | (refine Evl.Ex.trans ?_ (Evl.Ex.new (by assumption)); walk_at "ex")
  | (refine Evl.Ex.trans ?_ (by assumption); walk_at "ex"))
local macro_rules | `(tactic| walk_at "s1") => `(tactic| first
  | refine ⟨_, rfl, ?_⟩
  | refine ⟨rfl, ?_⟩
  | refine ⟨_, _, rfl, rfl, ?_⟩
  | refine ⟨_, _, _, rfl, rfl, ?_⟩)
local macro_rules | `(tactic| walk_at "st") => `(tactic| repeat walk_at "s1")
local macro_rules | `(tactic| walk_at "v1") => `(tactic| first
  | ((with_reducible refine' s_var ?vch ?_); (case vch => exact rfl))
  | with_reducible refine' s_c ?_
  | with_reducible refine' s_seq ?_
  | with_reducible refine' s_asg ?_
  | with_reducible refine' s_name ?_
  | with_reducible refine' s_cons ?_
  | with_reducible refine' s_nil ?_
  | with_reducible refine' s_op ?_
  | with_reducible refine' s_rI0 ?_
  | with_reducible refine' s_ret ?_
  | with_reducible refine' s_test ?_
  | with_reducible refine' s_ifS ?_
  | with_reducible refine' s_call ?_
  | with_reducible refine' s_cb ?_
  | ((with_reducible refine' s_rEq ?vch ?_); (case vch => exact rfl))
  | ((with_reducible refine' s_rNe ?vch ?_); (case vch => exact rfl))
  | ((with_reducible refine' s_ixT ?vch ?vca ?_); (case vch => walk_at "sq"); (case vca => first | exact rfl | exact at_nat 0 rfl | exact at_nat 1 rfl | exact at_nat 2 rfl | exact at_nat 3 rfl | exact at_nat 4 rfl))
  | ((with_reducible refine' s_ixL ?vch ?vca ?_); (case vch => walk_at "sq"); (case vca => first | exact rfl | exact at_nat 0 rfl | exact at_nat 1 rfl | exact at_nat 2 rfl | exact at_nat 3 rfl | exact at_nat 4 rfl))
  | with_reducible refine iteT' ?_
  | with_reducible refine iteF' ?_
  | with_reducible refine' ex_bl ?_
  | with_reducible refine' ex_int ?_
  | with_reducible refine' ex_str ?_
  | with_reducible refine' ex_int1 ?_
  | with_reducible refine' ex_str1 ?_
  | with_reducible refine' ex_int2 ?_
  | with_reducible refine' ex_pair ?_
  | with_reducible refine' s_un ?_
  | with_reducible refine' s_B ?_
  | with_reducible refine' s_andV ?_
  | with_reducible refine' s_orV ?_
  | with_reducible refine' s_notV ?_
  | with_reducible refine' s_and ?_
  | with_reducible refine' s_or ?_
  | with_reducible refine' s_not ?_
  | with_reducible refine' s_if ?_
  | with_reducible refine' s_chain ?_
  | with_reducible refine' s_next ?_
  | with_reducible refine' s_break ?_
  | with_reducible refine' s_cont ?_
  | with_reducible refine' s_drop ?_
  | with_reducible refine' s_retN ?_
  | with_reducible refine' s_par ?_
  | ((with_reducible refine' s_aug ?vch ?_); (case vch => exact rfl))
  | with_reducible refine' s_ip ?_
  | with_reducible refine' s_gcons ?_
  | with_reducible refine' s_gnil ?_
  | ((with_reducible refine' s_gtup ?vch ?vca ?_); (case vch => walk_at "sq"); (case vca => exact rfl))
  | with_reducible refine' s_tup ?_
  | with_reducible refine' s_lst ?_
  | with_reducible refine' s_sl ?_
  | with_reducible refine' s_part ?_
  | with_reducible refine' s_nopart ?_
  | with_reducible refine' s_fld ?_
  | with_reducible refine' s_make ?_
  | with_reducible refine' s_meth ?_
  | with_reducible refine' s_prop ?_
  | with_reducible refine' s_makeK ?_
  | with_reducible refine' s_gsub ?_
  | ((with_reducible refine' s_setL ?vch ?vca ?_); (case vch => walk_at "hp"); (case vca => exact rfl))
  | with_reducible refine' s_par3 ?_
  | with_reducible refine' ex_three ?_
  | with_reducible refine' s_star ?_
  | with_reducible refine' s_dnewK ?_
  | with_reducible refine' s_dsetd ?_
  | with_reducible refine' s_methR ?_
  | with_reducible refine' s_fldaug ?_
  | with_reducible refine' s_dictzip ?_
  | with_reducible refine' s_sfld ?_
  | with_reducible refine' s_bm ?_
  | with_reducible refine' s_bm0 ?_
  | with_reducible refine' s_m1 ?_
  | with_reducible refine' s_dget ?_
  | with_reducible refine' s_lc ?_
  | with_reducible refine' s_for ?_
  | with_reducible refine' s_iList ?_
  | with_reducible refine' s_iTup ?_
  | with_reducible refine' s_iStr ?_
  | with_reducible refine' s_iRng1 ?_
  | with_reducible refine' s_iRng2 ?_
  | with_reducible refine' s_yes ?_
  | with_reducible refine' s_rU ?_
  | ((with_reducible refine' s_isiP ?vch ?_); (case vch => exact rfl))
  | ((with_reducible refine' ex_lenL ?vch ?_); (case vch => walk_at "sq"))
  | ((with_reducible refine' ex_lenT ?vch ?_); (case vch => walk_at "sq"))
  | ((with_reducible refine' ex_tupL ?vch ?_); (case vch => walk_at "sq"))
  | ((with_reducible refine' ex_lstT ?vch ?_); (case vch => walk_at "sq"))
  | ((with_reducible refine' ex_srcL ?vch ?_); (case vch => walk_at "sq"))
  | ((with_reducible refine' ex_srcT ?vch ?_); (case vch => walk_at "sq"))
  | ((with_reducible refine' s_mk ?vch ?_); (case vch => exact small_le (Nat.le_of_ble_eq_true rfl)))
  | with_reducible refine' ⟨_, _, rfl, rfl, ?_⟩
  | with_reducible refine' ⟨⟨_, rfl⟩, ?_⟩
  | with_reducible refine' ⟨rfl, ?_⟩
  | ((with_reducible refine' iteT_of ?vch ?_); (case vch => exact rfl))
  | ((with_reducible refine' iteF_of ?vch ?_); (case vch => exact rfl)))
local macro_rules | `(tactic| walk_at "vc") => `(tactic| repeat walk_at "v1")
section
variable {P : Program} {w : World} {K : PySem.W.Frag} {mg : Str → Option Value} {base : Heap}
/-! ### is_integer, is_number, is_between -/
def spIsInt : Sp := fun vs H Q _ => ∃ i : Int, vs = [.int i] ∧ Q (.bl true) H
theorem sc_is_integer : FnScope ["value"] ["value"] (defScope s_is_integer) := ⟨rfl, rfl, rfl, by decide +kernel, rfl, by decide +kernel, by decide +kernel⟩
theorem D_is_integer (Z : Zf K mg) : Df P w K mg base "is_integer" 1 ["value"] spIsInt := by
  refine def_ok Z 0 rfl (by decide +kernel) sc_is_integer (fun _ _ _ _ _ _ us hl => match us, hl with | [_], _ => rfl) (fun vs H Q E h => ?_) (fun f cdv A outer s H vs Q E hr h => ⟨_, (pss_one (ps_ret (pe_and (pe_callB call_isiP (by rfl) (Z.free "isinstance") (by decide +kernel) (pa_cons (pv 0) (pa_cons (pe_ty "int" rfl (Z.free "int") (by decide +kernel)) pa_nil))) (pe_one (pe_not (pe_callB call_isiP (by rfl) (Z.free "isinstance") (by decide +kernel) (pa_cons (pv 0) (pa_cons (pe_ty "bool" rfl (Z.free "bool") (by decide +kernel)) pa_nil)))))))), ?_⟩)
  · obtain ⟨i, rfl, _⟩ := h
    rfl
  · obtain ⟨i, rfl, q⟩ := h
    walk_at "st"
    exact q
def spIsNum : Sp := fun vs H Q _ => ∃ i : Int, vs = [.int i] ∧ Q (.bl (decide (0 ≤ i))) H
theorem sc_is_number : FnScope ["value"] ["value"] (defScope s_is_number) := ⟨rfl, rfl, rfl, by decide +kernel, rfl, by decide +kernel, by decide +kernel⟩
theorem D_is_number (Z : Zf K mg) : Df P w K mg base "is_number" 2 ["value"] spIsNum := by
  refine def_ok Z 1 rfl (by decide +kernel) sc_is_number (fun _ _ _ _ _ _ us hl => match us, hl with | [_], _ => rfl) (fun vs H Q E h => ?_) (fun f cdv A outer s H vs Q E hr h => ⟨_, (pss_one (ps_ret (pe_and (pe_callD (D_is_integer Z) hr (by omega) rfl (pa_cons (pv 0) pa_nil)) (pe_one (pe_cmpR op_ge (pv 0) pe_int (nomark _)))))), ?_⟩)
  · obtain ⟨i, rfl, _⟩ := h
    rfl
  · obtain ⟨i, rfl, q⟩ := h
    walk_at "st"
    exact q
def spIsBetween : Sp := fun vs H Q _ => ∃ i a b : Int, vs = [.int i, .int a, .int b] ∧ Q (.bl (decide (a ≤ i) && decide (i ≤ b))) H
theorem sc_is_between : FnScope ["value", "least", "most"] ["value", "least", "most"] (defScope s_is_between) := ⟨rfl, rfl, rfl, by decide +kernel, rfl, by decide +kernel, by decide +kernel⟩
theorem D_is_between (Z : Zf K mg) : Df P w K mg base "is_between" 2 ["value", "least", "most"] spIsBetween := by
  refine def_ok Z 2 rfl (by decide +kernel) sc_is_between (fun _ _ _ _ _ _ us hl => match us, hl with | [_, _, _], _ => rfl) (fun vs H Q E h => ?_) (fun f cdv A outer s H vs Q E hr h => ⟨_, (pss_one (ps_ret (pe_and (pe_callD (D_is_integer Z) hr (by omega) rfl (pa_cons (pv 0) pa_nil)) (pe_one (pe_chain op_le op_le (pv 1) (pv 0) (pv 2)))))), ?_⟩)
  · obtain ⟨i, a, b, rfl, _⟩ := h
    rfl
  · obtain ⟨i, a, b, rfl, q⟩ := h
    walk_at "st"
    by_cases c : a ≤ i
    · rw [decide_eq_true c] at q ⊢
      walk_at "st"
      exact q
    · rw [decide_eq_false c] at q ⊢
      walk_at "st"
      exact q
end
end Ov
/-! text OvRules -/
set_option Elab.async false
set_option linter.all false
set_option maxRecDepth 100000
/-! Rules that the hand layer lacks: own + and -, own == and != with any answer, extend by a tuple, a text times a number. -/
namespace Ov
open PySem PySem.Spec PyProof.Rows L2
section
variable {X : Cx} {k : Nat} {f : Addr} {fd : FuncData} {ps : List Str} {sp : Sp} {C : Addr}
/-- a def's run one call deeper -/
theorem run_in1 {pins : List (Addr × Obj)} {σ : L2.St} {H : Hp} {s : Shared} {Q : VK} {us : List Value} {vs : List V} (F : FnOk X.prog X.w X.K X.mg X.base CX0 k f fd ps sp) (hr : Room (k + 1) X.A) (hb : Binds X.K fd ps [])
    (I : Inv X pins σ H s) (r : Vals vs us) (h : sp vs H Q E0) {E : Value → Shared → Prop} : wpAny (model X.prog X.w) X.A.in1 (call (.ref f) us) (EP X pins σ Q) E s := by
  have hl : (us ++ []).length = ps.length := by rw [List.append_nil, ← r.length]; exact F.len _ _ _ _ h
  have hbt := hb s us I.kIn hl
  rw [List.append_nil] at hbt
  refine wpAny_call (codeAny_mono (F.run X.A.in1 X.stack s H ⟨us, []⟩ us vs Q E0 hr.in1 I.env0.in1 hbt r h) fun r s' hq => ?_)
  cases r with
  | error e => exact False.elim hq
  | ok fl =>
    cases fl with
    | ret u => exact I.after hq
    | next => exact False.elim hq
    | brk => exact False.elim hq
    | cont => exact False.elim hq
theorem back_of {pins : List (Addr × Obj)} {σ : L2.St} {Q : VK} {u : Value} {s' : Shared} (h : EP X pins σ Q u s') : PySem.W.CmpBack (EP X pins σ Q) u s' := by
  obtain ⟨v, H', I', rv, q⟩ := id h
  cases v with
  | non => cases (show u = Value.none from rv); exact h
  | bl b => cases (show u = Value.bool b from rv); exact h
  | int i => obtain ⟨t, e⟩ := (show ∃ t, u = Value.int i t from rv); cases e; exact h
  | str i => obtain ⟨t, e⟩ := (show ∃ t, u = Value.str i t from rv); cases e; exact h
  | byt i => obtain ⟨t, e⟩ := (show ∃ t, u = Value.bytes i t from rv); cases e; exact h
  | flt i => obtain ⟨t, e⟩ := (show ∃ t, u = Value.float i t from rv); cases e; exact h
  | ref a => cases (show u = Value.ref a from rv); exact h
  | ty n => cases (show u = Value.type n from rv); exact h
/-- what an own operator of two instances asks -/
def rOwn2 (C : Addr) (sp : Sp) : R2 := fun x y H Q => ∃ a b dx dy fs gs, x = V.ref a ∧ y = V.ref b ∧ H a = some (.ins C dx fs) ∧ H b = some (.ins C dy gs) ∧ sp [.ref a, .ref b] H Q E0
theorem op_bin2 {op : Operator} (F : FnOk X.prog X.w X.K X.mg X.base CX0 k f fd ps sp) (hr : Room k X.A) (hb : Binds X.K fd ps []) (hc : PySem.W.selfFirst X.K C = true) (hs : PySem.W.findIn X.K (.ref C) (PySem.dunder op.info.2) = some (some (.ref f)))
    (hf : PySem.W.isFn X.K (.ref f) = true) : OpR X (binaryOp op) (rOwn2 C sp) := by
  intro pins s σ H x y v u Q I rx ry h
  obtain ⟨a, b, dx, dy, fs, gs, rfl, rfl, ha, hb', q⟩ := h
  cases rx
  cases ry
  obtain ⟨mA, J, _⟩ := ins_get I.hok ha
  obtain ⟨mB, J', _⟩ := ins_get I.hok hb'
  obtain ⟨od, J, _⟩ := J.look
  obtain ⟨od', J', _⟩ := J'.look
  obtain ⟨m, hF⟩ := I.fr
  refine PySem.W.binop_K hF I.ok.mod.kin J J'.type hc hs hf ?_
  exact wpAny_mono (run_fn (us := [.ref a, .ref b]) (vs := [.ref a, .ref b]) F hr hb .nil pass0 I (.cons rfl (.cons rfl .nil)) (by simpa using q)) (fun _ _ z => back_of z) fun _ _ z => z
theorem op_eq2 (F : FnOk X.prog X.w X.K X.mg X.base CX0 k f fd ps sp) (hr : Room k X.A) (hb : Binds X.K fd ps []) (hs : PySem.W.findIn X.K (.ref C) "__eq__" = some (some (.ref f))) (hf : PySem.W.isFn X.K (.ref f) = true) : OpR X (compareOp .Eq) (rOwn2 C sp) := by
  intro pins s σ H x y v u Q I rx ry h
  obtain ⟨a, b, dx, dy, fs, gs, rfl, rfl, ha, hb', q⟩ := h
  cases rx
  cases ry
  obtain ⟨mA, J, _⟩ := ins_get I.hok ha
  obtain ⟨mB, J', _⟩ := ins_get I.hok hb'
  obtain ⟨od, J, _⟩ := J.look
  obtain ⟨od', J', _⟩ := J'.look
  obtain ⟨m, hF⟩ := I.fr
  refine PySem.W.cmp_K (op := .Eq) (tb := .ref C) hr.units0 hF I.ok.mod.kin J J'.type (by simp [PySem.W.notFirst]) hs hf ?_
  exact wpAny_mono (run_fn (us := [.ref a, .ref b]) (vs := [.ref a, .ref b]) F hr hb .nil pass0 I (.cons rfl (.cons rfl .nil)) (by simpa using q)) (fun _ _ z => back_of z) fun _ _ z => z
/-- object.__ne__ over an own __eq__ -/
theorem ne_entry {A : Around} {E : Value → Shared → Prop} {s : Shared} {x y : Addr} {ox : Obj} {od : Option Obj} {Q : Fin → Shared → Prop} (hu : A.units < cLine) (Xk : X.K.In s.heap) (I : PySem.W.InstAt s.heap x ox C od)
    (hs : PySem.W.findIn X.K (.ref C) "__eq__" = some (some (.ref f))) (hf : PySem.W.isFn X.K (.ref f) = true)
    (h : wpAny (model X.prog X.w) A (call (.ref f) [.ref x, .ref y]) (fun v s' => ∃ b, v = .bool b ∧ Q (.done (.ret (.bool (!b)))) s') E s) : wpAny (model X.prog X.w) A (Builtin.«object.__ne__» ⟨[.ref x, .ref y], []⟩) Q E s := by
  obtain ⟨hp, g, d, t, os⟩ := s
  have one := PySem.W.ifBound_K (M := model X.prog X.w) (A := A) (E := E) (Q := fun r s' => ∃ b, r = some (.bool b) ∧ Q (.done (.ret (.bool (!b)))) s') Xk I hs hf (wpAny_mono h (fun r s' hr => by
    obtain ⟨b, rfl, hq⟩ := hr
    exact ⟨b, rfl, hq⟩) fun _ _ e => e)
  unfold Builtin.«object.__ne__»
  repeat (first
    | with_reducible refine wpAny_cRoomFor hu ?_
    | (refine wpAny_bind (m := callSpecialIfBound? (.ref x) (Str.ofString "__eq__") [.ref y]) (wpAny_mono one (fun r s' hr => ?_) fun _ _ e => e))
    | wp_step)
  obtain ⟨b, rfl, hq⟩ := hr
  repeat (first | exact hq | exact wpAny_pure hq | exact wpAny_truthy_bool hq | (refine wpAny_bind (m := truthy (.bool _)) (wpAny_truthy_bool ?_)) | wp_step)
theorem ne_try {A : Around} {E : Value → Shared → Prop} {s : Shared} {x y : Addr} {ox : Obj} {od : Option Obj} {Q : Option Value → Shared → Prop} (hu : A.units + 1 < cLine) (Xk : X.K.In s.heap) (I : PySem.W.InstAt s.heap x ox C od)
    (hn : PySem.W.findIn X.K (.ref C) "__ne__" = some (some (.builtin "object.__ne__"))) (hs : PySem.W.findIn X.K (.ref C) "__eq__" = some (some (.ref f))) (hf : PySem.W.isFn X.K (.ref f) = true) (hm : PySem.W.mroIn X.K C (.type "object") = some true)
    (h : wpAny (model X.prog X.w) A.in1 (call (.ref f) [.ref x, .ref y]) (fun v s' => ∃ b, v = .bool b ∧ Q (some (.bool (!b))) s') E s) : wpAny (model X.prog X.w) A (tryCompare (.ref x) "__ne__" (.ref y)) Q E s := by
  have hq0 : ∀ b s', Q (some (.bool (!b))) s' → wpAny (model X.prog X.w) A (match some (Value.bool (!b)) with
      | some .notImplemented | none => pure none
      | some v => pure (some v)) Q E s' := fun b s' q => wpAny_pure q
  have fin : wpAny (model X.prog X.w) A (call (.builtin "object.__ne__") ([.ref x] ++ [.ref y]) >>= fun v => pure (some v)) (fun r s' => ∃ b, r = some (.bool (!b)) ∧ Q (some (.bool (!b))) s') E s := by
    refine wpAny_bind (wpAny_call (codeAny_call_builtin PySem.F.cmp_object.ne.plain PySem.F.cmpEntry_ne (PySem.W.check_slot PySem.F.cmpKind_ne PySem.F.cmpSplit_ne (I.type.andThen (PySem.W.looks_mroIn Xk hm)) (PySem.F.cmpArgs_ne _ _) ?_)))
    refine ne_entry (A := A.in1) hu Xk I hs hf (wpAny_mono h (fun v s' hv => ?_) fun _ _ e => e)
    obtain ⟨b, rfl, hq⟩ := hv
    exact ⟨b, rfl, wpAny_pure ⟨b, rfl, hq⟩⟩
  have eb := PySem.F.cmp_object.ne.bind (.ref x)
  unfold tryCompare
  refine wpAny_bind (wpAny_mono (Q := fun r s' => ∃ b, r = some (.bool (!b)) ∧ Q (some (.bool (!b))) s') ?_ (fun r s' hr => ?_) fun _ _ e => e)
  · simp only [callSpecialIfBound?, bindSpecialIfBound?]
    refine wpAny_holding (wpAny_bind (wpAny_bind (wpAny_bind (I.type.here ((PySem.W.looks_findIn Xk hn).here ?_)))))
    simp only [eb]
    refine wpAny_bind (wpAny_askSetting (wpAny_ite ?_))
    split
    · exact wpAny_bind (wpAny_pure (wpAny_pure fin))
    · exact wpAny_tryCatch (wpAny_bind (wpAny_pure (wpAny_pure fin)))
  · obtain ⟨b, rfl, hq⟩ := hr
    exact wpAny_pure hq
theorem ne_own {h₀ : Heap} {Lc : Addr} {m : Str → Option Value} {A : Around} {E : Value → Shared → Prop} {s : Shared} {x y : Addr} {ox : Obj} {od : Option Obj} {Q : Value → Shared → Prop} (hu : A.units + 1 < cLine) (F : PyProof.Rows.Fr h₀ Lc s.heap m) (X₀ : X.K.In h₀) (I : PySem.W.InstAt s.heap x ox C od)
    (hty : PySem.W.Looks (model X.prog X.w) s.heap (typeOf (.ref y)) (.ref C)) (hn : PySem.W.findIn X.K (.ref C) "__ne__" = some (some (.builtin "object.__ne__"))) (hs : PySem.W.findIn X.K (.ref C) "__eq__" = some (some (.ref f))) (hf : PySem.W.isFn X.K (.ref f) = true)
    (hm : PySem.W.mroIn X.K C (.type "object") = some true) (h : wpAny (model X.prog X.w) A.in1 (call (.ref f) [.ref x, .ref y]) (fun v s' => ∃ b, v = .bool b ∧ Q (.bool (!b)) s') E s) : wpAny (model X.prog X.w) A (richCompare .NotEq (.ref x) (.ref y)) Q E s := by
  have Xk := X₀.keeps F.keep
  have one := ne_try (Q := fun r s' => ∃ v, r = some v ∧ Q v s') hu Xk I hn hs hf hm (wpAny_mono h (fun v s' hv => by
    obtain ⟨b, rfl, hq⟩ := hv
    exact ⟨b, rfl, _, rfl, hq⟩) fun _ _ e => e)
  unfold richCompare
  simp only [oneThing_ref]
  refine wpAny_holding (wpAny_bind (wpAny_cRoomFor (Nat.lt_of_succ_lt hu) ?_))
  refine wpAny_bind (I.type.here (wpAny_bind (hty.here ?_)))
  rw [show (Value.ref C != Value.ref C) = false from by simp]
  simp only [Bool.false_eq_true, if_false]
  refine wpAny_bind (wpAny_pure ?_)
  simp only [Bool.false_eq_true, if_false]
  refine wpAny_bind (wpAny_mono one (fun r s' z => ?_) fun _ _ e => e)
  obtain ⟨v, rfl, hq⟩ := z
  exact wpAny_pure hq
theorem op_ne2 (F : FnOk X.prog X.w X.K X.mg X.base CX0 k f fd ps sp) (hr : Room (k + 1) X.A) (hb : Binds X.K fd ps []) (hn : PySem.W.findIn X.K (.ref C) "__ne__" = some (some (.builtin "object.__ne__"))) (hs : PySem.W.findIn X.K (.ref C) "__eq__" = some (some (.ref f))) (hf : PySem.W.isFn X.K (.ref f) = true)
    (hm : PySem.W.mroIn X.K C (.type "object") = some true) :
    OpR X (compareOp .NotEq) (fun x y H Q => ∃ a b dx dy fs gs, x = V.ref a ∧ y = V.ref b ∧ H a = some (.ins C dx fs) ∧ H b = some (.ins C dy gs) ∧ sp [.ref a, .ref b] H (fun v H' => ∃ c, v = .bl c ∧ Q (.bl (!c)) H') E0) := by
  intro pins s σ H x y v u Q I rx ry h
  obtain ⟨a, b, dx, dy, fs, gs, rfl, rfl, ha, hb', q⟩ := h
  cases rx
  cases ry
  obtain ⟨mA, J, _⟩ := ins_get I.hok ha
  obtain ⟨mB, J', _⟩ := ins_get I.hok hb'
  obtain ⟨od, J, _⟩ := J.look
  obtain ⟨od', J', _⟩ := J'.look
  obtain ⟨m, hF⟩ := I.fr
  refine ne_own (hu_of hr) hF I.ok.mod.kin J J'.type hn hs hf hm ?_
  refine wpAny_mono (run_in1 (us := [.ref a, .ref b]) (vs := [.ref a, .ref b]) F hr hb I (.cons rfl (.cons rfl .nil)) q) (fun w' s' z => ?_) fun _ _ z => z
  obtain ⟨z, H', I', rz, c, ez, qq⟩ := z
  subst ez
  cases rz
  exact ⟨c, rfl, .bl (!c), H', I', rfl, qq⟩
/-- xs.extend(a tuple) -/
theorem ext_tup (l : Addr) (items : Array Value) (n : Nat) (b : Addr) (items2 : Array Value) (hs0 : ¬(!items.isEmpty && Builtin.List.listTooLong (items.size + items2.size)) = true) (hs1 : items.size ≤ sizeLine) (hs2 : items.size + items2.size ≤ sizeLine + 1) :
    Meets (Builtin.«list.extend» ⟨[.ref l, .ref b], []⟩) (fun _ R s => s.heap.get? l = some { cls := .type "list", dict := none, data := .seq items n, slots := #[] } ∧ IsTup s.heap b items2 ∧ R (.ok (.ret Value.none)) { s with heap := s.heap.update l (Obj.mapSeq fun x => x ++ items2), toks := s.toks }) :=
  .of_wp fun prog w A R s h => by
    obtain ⟨hp, g, d, tk, os⟩ := s
    obtain ⟨hl, ⟨⟨c, dc, dt, sl⟩, hb, hc, n2, hd⟩, h⟩ := h
    cases hc
    cases hd
    have f1 := AutoSeq1.idx_int
    have f2 := AutoSeq1.sub_tuple_tuple
    have f3 := AutoSeq1.sub_list_list
    have f4 := AutoSeq1.sub_tuple_list
    have f5 := AutoSeq1.sub_list_tuple
    have hz' : (items ++ items2).size ≤ sizeLine + 1 := by rw [Array.size_append]; exact hs2
    wp_walk using (wpAny_updateSeq hl rfl (hz := hs1) (_hz' := hz')), AutoSeq1.wpAny_loadPart' hl, AutoSeq1.wpAny_loadPart' hb
    exact ⟨_, rfl, h⟩
def rExtT (K : PySem.W.Frag) : V → List V → Hp → VK → Prop := fun x vs H Q => ∃ l b xs zs, x = .ref l ∧ vs = [.ref b] ∧ H l = some (.lst xs) ∧ SqT K H b zs ∧ xs.length + zs.length ≤ sizeLine ∧ Q .non (upd H l (.lst (xs ++ zs)))
theorem mt_extT : MtR X "list.extend" (rExtT X.K) := by
  intro pins s σ H x vs v us Q I rx rv h
  obtain ⟨l, b, xs, zs, rfl, rfl, hH, hB, hz, q⟩ := h
  cases rx
  obtain ⟨u, rfl, ru⟩ := vals1 rv
  cases ru
  obtain ⟨z, its, n, r, hl, e⟩ := I.lstM hH
  obtain ⟨its2, r2, ht, hl2⟩ := I.tuple hB
  have l1 := r.length
  have l2 := r2.length
  have hsz : its.toArray.size + its2.toArray.size ≤ sizeLine := by rw [List.size_toArray, List.size_toArray]; omega
  refine call_meets F.slot_list_extend ⟨_, e, rfl⟩ F.entry_list_extend (F.args_list_extend_2 _ _)
    (ext_tup l its.toArray n b its2.toArray (PyProof.Rows.extend_door hsz) (by rw [List.size_toArray]; omega) (by omega)) ⟨e, ht, ?_⟩
  refine ⟨.non, _, I.lset (its' := its ++ its2) hH e (by simp) (r.append r2) ?_, rfl, q⟩
  rw [List.length_append]
  omega
/-- text * number -/
theorem op_mulS : OpR X (binaryOp .Mult) (fun x y H Q => ∃ (z : Str) (n : Int), x = .str z ∧ y = .int n ∧ MulOk z n ∧ Q (.str (Txt.mul z n)) H) := by
  intro pins s σ H x y v u Q I rx ry h
  obtain ⟨z, n, rfl, rfl, ok, q⟩ := h
  obtain ⟨t, rfl⟩ := rx
  obtain ⟨t', rfl⟩ := ry
  exact SB.mul ok fun t'' tk => ⟨.str (Txt.mul z n), H, I.tok _, ⟨_, rfl⟩, q⟩
end
end Ov
/-! text OvT4 -/
set_option Elab.async false
set_option linter.all false
set_option maxRecDepth 100000
namespace Ov
open PySem PySem.Spec PyProof.Rows L2
open Rows
local macro_rules | `(tactic| walk_at "hp") => `(tactic| first
  | assumption
  | exact upd_same
  | (refine Evl.Ex.new (by assumption) _ _ ?_; walk_at "hp")
  | (refine (by assumption : Evl.Ex _ _) _ _ ?_; walk_at "hp"))
local macro_rules | `(tactic| walk_at "sq") => `(tactic| first
  | assumption
  | exact SqL.of (by walk_at "hp")
  | exact SqT.of (by walk_at "hp")
  | (refine Evl.ex_l (by assumption) ?_; walk_at "sq")
  | (refine Evl.ex_t (by assumption) ?_; walk_at "sq")
  | (refine Evl.ex_l (Evl.Ex.new (by assumption)) ?_; walk_at "sq")
  | (refine Evl.ex_t (Evl.Ex.new (by assumption)) ?_; walk_at "sq"))
local macro_rules | `(tactic| walk_at "ex") => `(tactic| first
  | assumption
  | exact Evl.Ex.refl _
  | (refine Evl.Ex.trans ?_ (Evl.Ex.new (by assumption)); walk_at "ex")
  | (refine Evl.Ex.trans ?_ (by assumption); walk_at "ex"))
local macro_rules | `(tactic| walk_at "s1") => `(tactic| first
  | refine ⟨_, rfl, ?_⟩
  | refine ⟨rfl, ?_⟩
  | refine ⟨_, _, rfl, rfl, ?_⟩
  | refine ⟨_, _, _, rfl, rfl, ?_⟩)
local macro_rules | `(tactic| walk_at "st") => `(tactic| repeat walk_at "s1")
local macro_rules | `(tactic| walk_at "v1") => `(tactic| first
  | ((with_reducible refine' s_var ?vch ?_); (case vch => exact rfl))
  | with_reducible refine' s_c ?_
  | with_reducible refine' s_seq ?_
  | with_reducible refine' s_asg ?_
  | with_reducible refine' s_name ?_
  | with_reducible refine' s_cons ?_
  | with_reducible refine' s_nil ?_
  | with_reducible refine' s_op ?_
  | with_reducible refine' s_rI0 ?_
  | with_reducible refine' s_ret ?_
  | with_reducible refine' s_test ?_
  | with_reducible refine' s_ifS ?_
  | with_reducible refine' s_call ?_
  | with_reducible refine' s_cb ?_
  | ((with_reducible refine' s_rEq ?vch ?_); (case vch => exact rfl))
  | ((with_reducible refine' s_rNe ?vch ?_); (case vch => exact rfl))
  | ((with_reducible refine' s_ixT ?vch ?vca ?_); (case vch => walk_at "sq"); (case vca => first | exact rfl | exact at_nat 0 rfl | exact at_nat 1 rfl | exact at_nat 2 rfl | exact at_nat 3 rfl | exact at_nat 4 rfl))
  | ((with_reducible refine' s_ixL ?vch ?vca ?_); (case vch => walk_at "sq"); (case vca => first | exact rfl | exact at_nat 0 rfl | exact at_nat 1 rfl | exact at_nat 2 rfl | exact at_nat 3 rfl | exact at_nat 4 rfl))
  | with_reducible refine iteT' ?_
  | with_reducible refine iteF' ?_
  | with_reducible refine' ex_bl ?_
  | with_reducible refine' ex_int ?_
  | with_reducible refine' ex_str ?_
  | with_reducible refine' ex_int1 ?_
  | with_reducible refine' ex_str1 ?_
  | with_reducible refine' ex_int2 ?_
  | with_reducible refine' ex_pair ?_
  | with_reducible refine' s_un ?_
  | with_reducible refine' s_B ?_
  | with_reducible refine' s_andV ?_
  | with_reducible refine' s_orV ?_
  | with_reducible refine' s_notV ?_
  | with_reducible refine' s_and ?_
  | with_reducible refine' s_or ?_
  | with_reducible refine' s_not ?_
  | with_reducible refine' s_if ?_
  | with_reducible refine' s_chain ?_
  | with_reducible refine' s_next ?_
  | with_reducible refine' s_break ?_
  | with_reducible refine' s_cont ?_
  | with_reducible refine' s_drop ?_
  | with_reducible refine' s_retN ?_
  | with_reducible refine' s_par ?_
  | ((with_reducible refine' s_aug ?vch ?_); (case vch => exact rfl))
  | with_reducible refine' s_ip ?_
  | with_reducible refine' s_gcons ?_
  | with_reducible refine' s_gnil ?_
  | ((with_reducible refine' s_gtup ?vch ?vca ?_); (case vch => walk_at "sq"); (case vca => exact rfl))
  | with_reducible refine' s_tup ?_
  | with_reducible refine' s_lst ?_
  | with_reducible refine' s_sl ?_
  | with_reducible refine' s_part ?_
  | with_reducible refine' s_nopart ?_
  | with_reducible refine' s_fld ?_
  | with_reducible refine' s_make ?_
  | with_reducible refine' s_meth ?_
  | with_reducible refine' s_prop ?_
  | with_reducible refine' s_makeK ?_
  | with_reducible refine' s_gsub ?_
  | ((with_reducible refine' s_setL ?vch ?vca ?_); (case vch => walk_at "hp"); (case vca => exact rfl))
  | with_reducible refine' s_par3 ?_
  | with_reducible refine' ex_three ?_
  | with_reducible refine' s_star ?_
  | with_reducible refine' s_dnewK ?_
  | with_reducible refine' s_dsetd ?_
  | with_reducible refine' s_methR ?_
  | with_reducible refine' s_fldaug ?_
  | with_reducible refine' s_dictzip ?_
  | with_reducible refine' s_sfld ?_
  | with_reducible refine' s_bm ?_
  | with_reducible refine' s_bm0 ?_
  | with_reducible refine' s_m1 ?_
  | with_reducible refine' s_dget ?_
  | with_reducible refine' s_lc ?_
  | with_reducible refine' s_for ?_
  | with_reducible refine' s_iList ?_
  | with_reducible refine' s_iTup ?_
  | with_reducible refine' s_iStr ?_
  | with_reducible refine' s_iRng1 ?_
  | with_reducible refine' s_iRng2 ?_
  | with_reducible refine' s_yes ?_
  | with_reducible refine' s_rU ?_
  | ((with_reducible refine' s_isiP ?vch ?_); (case vch => exact rfl))
  | ((with_reducible refine' ex_lenL ?vch ?_); (case vch => walk_at "sq"))
  | ((with_reducible refine' ex_lenT ?vch ?_); (case vch => walk_at "sq"))
  | ((with_reducible refine' ex_tupL ?vch ?_); (case vch => walk_at "sq"))
  | ((with_reducible refine' ex_lstT ?vch ?_); (case vch => walk_at "sq"))
  | ((with_reducible refine' ex_srcL ?vch ?_); (case vch => walk_at "sq"))
  | ((with_reducible refine' ex_srcT ?vch ?_); (case vch => walk_at "sq"))
  | ((with_reducible refine' s_mk ?vch ?_); (case vch => exact small_le (Nat.le_of_ble_eq_true rfl)))
  | with_reducible refine' ⟨_, _, rfl, rfl, ?_⟩
  | with_reducible refine' ⟨⟨_, rfl⟩, ?_⟩
  | with_reducible refine' ⟨rfl, ?_⟩
  | ((with_reducible refine' iteT_of ?vch ?_); (case vch => exact rfl))
  | ((with_reducible refine' iteF_of ?vch ?_); (case vch => exact rfl)))
local macro_rules | `(tactic| walk_at "vc") => `(tactic| repeat walk_at "v1")
theorem FormAt.held {K : PySem.W.Frag} {H : Hp} {p : Addr} {hs : List Int} {n g : Int} (h : FormAt K H p hs n g) : ∃ dx t, H p = some (.ins (He.ga K "Form") dx [("held", .ref t)]) ∧ HeldAt H t hs n g := let ⟨dx, t, q, a, b, c⟩ := h; ⟨dx, t, a, q, b, c⟩
section
variable {P : Program} {w : World} {K : PySem.W.Frag} {mg : Str → Option Value} {base : Heap}
/-! ### check_form, Form -/
def spChkF (K : PySem.W.Frag) : Sp := fun vs H Q _ => ∃ (p dx : Addr) (fs : List (Str × V)), vs = [.ref p] ∧ H p = some (.ins (He.ga K "Form") dx fs) ∧ ∀ H', Ex H H' → Q .non H'
theorem sc_check_form : FnScope ["value"] ["value"] (defScope s_check_form) := ⟨rfl, rfl, rfl, by decide +kernel, rfl, by decide +kernel, by decide +kernel⟩
theorem D_check_form (Z : Zf K mg) : Df P w K mg base "check_form" (1) ["value"] (spChkF K) := by
  refine def_ok Z 36 rfl (by decide +kernel) sc_check_form (fun _ _ _ _ _ _ us hl => match us, hl with | [_], _ => rfl) (fun vs H Q E h => ?_) (fun f cdv A outer s H vs Q E hr h => ⟨_, (pss_one (ps_if (pt_not (pt_val (pe_callB (C8.call_isC (Z.ins "Form").1) (by rfl) (Z.free "isinstance") (by decide +kernel) (pa_cons (pv 0) (pa_cons (pe_gref rfl (Z.glo "Form")) pa_nil))))) (pss_one ps_never) pss_nil)), ?_⟩)
  · obtain ⟨p, dx, fs, rfl, _⟩ := h
    rfl
  · obtain ⟨p, dx, fs, rfl, hp, k⟩ := h
    walk_at "vc"
    refine ⟨p, dx, fs, rfl, hp, ?_⟩
    walk_at "vc"
    exact k _ (Evl.Ex.refl _)
def spFInit (K : PySem.W.Frag) : Sp := fun vs H Q _ => ∃ (x dx q : Addr) (n g : Int), vs = [.ref x, .ref q, .int n, .int g] ∧ H x = some (.ins (He.ga K "Form") dx []) ∧ ∀ t H', Ex (hid [x] H) (hid [x] H') → H' x = some (.ins (He.ga K "Form") dx [("held", .ref t)]) → H t = none → H' t = some (.tup [.ref q, .int n, .int g]) → Q .non H'
theorem sc_Formu_initu : FnScope ["self", "heights", "length", "gain"] ["self", "heights", "length", "gain"] (defScope s_Formu_initu) := ⟨rfl, rfl, rfl, by decide +kernel, rfl, by decide +kernel, by decide +kernel⟩
theorem D_Formu_initu (Z : Zf K mg) : Mf P w K mg base "Form" "__init__" (1) ["self", "heights", "length", "gain"] (spFInit K) := by
  refine meth_ok Z 39 rfl sc_Formu_initu (fun _ _ _ _ _ _ us hl => match us, hl with | [_, _, _, _], _ => rfl) (fun vs H Q E h => ?_) (fun f cdv A outer s H vs Q E hr h => ⟨_, (pss_one (ps_fld (pv 0) (pe_tup (pa_cons (pv 1) (pa_cons (pv 2) (pa_cons (pv 3) pa_nil)))) rfl)), ?_⟩)
  · obtain ⟨x, dx, q, n, g, rfl, _⟩ := h
    rfl
  · obtain ⟨x, dx, q, n, g, rfl, hx, k⟩ := h
    walk_at "vc"
    intro t ht
    have ne : x ≠ t := ne_of_none hx ht
    walk_at "vc"
    refine ex_sfld (show upd H t _ x = _ from (upd_ne ne).trans hx) (Z.cls "Form") (Z.noat "Form" "held") (by show 0 < 1000; decide) ?_
    refine k t _ ?_ upd_same ht ?_
    · rw [hid_upd (by simp)]
      exact hid_mono (Evl.Ex.new ht)
    · rw [upd_ne (Ne.symm ne)]
      exact upd_same
/-- a form is made: what a caller gets -/
theorem made_form {H : Hp} {x dx q : Addr} {hs : List Int} {n g : Int} {Q : VK} (nx : H x = none) (nd : H dx = none) (nex : dx ≠ x) (hq : H q = some (.tup (hs.map V.int))) (k : ∀ H', Ex H H' → FormAt K H' x hs n g → Q (.ref x) H') :
    spFInit K [.ref x, .ref q, .int n, .int g] (upd (upd H dx (.own x)) x (.ins (He.ga K "Form") dx [])) (fun v H2 => v = .non ∧ Q (.ref x) H2) E0 := by
  refine ⟨x, dx, q, n, g, rfl, upd_same, fun t H' e h1 h2 h3 => ⟨rfl, ?_⟩⟩
  have e1 : Ex H (hid [x] (upd (upd H dx (.own x)) x (.ins (He.ga K "Form") dx []))) := by
    rw [hid_upd (by simp)]
    exact fun b o hb => hid_get (Evl.Ex.new nd _ _ hb) (by simp; exact ne_of_none hb nx)
  have e2 := Evl.Ex.trans e1 (Evl.Ex.trans e ex_hid)
  exact k H' e2 ⟨dx, t, q, h1, h3, e2 _ _ hq⟩
def spFCall (K : PySem.W.Frag) : Sp := fun vs H Q _ => ∃ (p : Addr) (hs : List Int) (n g x : Int), vs = [.ref p, .int x] ∧ FormAt K H p hs n g ∧ 1 ≤ n ∧ n ≤ hs.length ∧ hs.length ≤ 100000 ∧ 0 ≤ x ∧ x ≤ 2 ^ 40 ∧ ∀ H', Ex H H' → Q (.int (heightAt hs n g x)) H'
theorem sc_Formu_callu : FnScope ["self", "number"] ["self", "number"] (defScope s_Formu_callu) := ⟨rfl, rfl, rfl, by decide +kernel, rfl, by decide +kernel, by decide +kernel⟩
theorem D_Formu_callu (Z : Zf K mg) : Mf P w K mg base "Form" "__call__" (3) ["self", "number"] (spFCall K) := by
  refine meth_ok Z 40 rfl sc_Formu_callu (fun _ _ _ _ _ _ us hl => match us, hl with | [_, _], _ => rfl) (fun vs H Q E h => ?_) (fun f cdv A outer s H vs Q E hr h => ⟨_, (pss_cons (ps_if (pt_not (pt_val (pe_callD (D_is_number Z) hr (by omega) rfl (pa_cons (pv 1) pa_nil)))) (pss_one ps_never) pss_nil)
      (pss_one (ps_ret (pe_callD (D_height_at Z) hr (by omega) rfl (pa_cons (pe_fld (pv 0) rfl) (pa_cons (pv 1) pa_nil)))))), ?_⟩)
  · obtain ⟨p, hs, n, g, x, rfl, _⟩ := h
    rfl
  · obtain ⟨p, hs, n, g, x, rfl, hf, n1, n2, n3, x0, x1, k⟩ := h
    obtain ⟨dx, t, hp, q, ht, hq⟩ := hf.held
    walk_at "vc"
    refine ⟨x, rfl, ?_⟩
    walk_at "vc"
    refine iteF_of (by rw [decide_eq_true x0]; rfl) ?_
    walk_at "vc"
    refine ex_fld hp (Z.cls "Form") (Z.noat "Form" "held") rfl ?_
    walk_at "vc"
    exact ⟨t, q, hs, n, g, x, rfl, ht, hq, n1, n2, n3, x0, x1, k⟩
def spFOp (K : PySem.W.Frag) (s : Int) : Sp := fun vs H Q _ => ∃ (p1 p2 : Addr) (a b : List Int) (n g1 g2 : Int), vs = [.ref p1, .ref p2] ∧ FormAt K H p1 a n g1 ∧ FormAt K H p2 b n g2 ∧ a.length = b.length ∧ 1 ≤ n ∧ n ≤ a.length ∧ a.length ≤ 100000 ∧ ∀ p H', Ex H H' → FormAt K H' p (both s a b) n (g1 + s * g2) → Q (.ref p) H'
theorem sc_Formu_addu : FnScope ["self", "other", "heights", "length", "gain"] ["self", "other"] (defScope s_Formu_addu) := ⟨rfl, rfl, rfl, by decide +kernel, rfl, by decide +kernel, by decide +kernel⟩
theorem D_Formu_addu (Z : Zf K mg) : Mf P w K mg base "Form" "__add__" (3) ["self", "other"] (spFOp K 1) := by
  refine meth_ok Z 41 rfl sc_Formu_addu (fun _ _ _ _ _ _ us hl => match us, hl with | [_, _], _ => rfl) (fun vs H Q E h => ?_) (fun f cdv A outer s H vs Q E hr h => ⟨_, (pss_cons (ps_expr (pe_callD (D_check_form Z) hr (by omega) rfl (pa_cons (pv 1) pa_nil)))
      (pss_cons (ps_asg (pe_callD (D_combined Z) hr (by omega) rfl (pa_cons (pe_fld (pv 0) rfl) (pa_cons (pe_fld (pv 1) rfl) (pa_cons pe_int pa_nil)))) (pg_tup (by rfl) (pgs_cons (pgn 2 sc_Formu_addu.nd) (pgs_cons (pgn 3 sc_Formu_addu.nd) (pgs_cons (pgn 4 sc_Formu_addu.nd) pgs_nil)))))
      (pss_one (ps_ret (pe_makeD (D_Formu_initu Z) (Z.mkr "Form") (Z.glo "Form") hr (by omega) rfl (pa_cons (pv 2) (pa_cons (pv 3) (pa_cons (pv 4) pa_nil)))))))), ?_⟩)
  · obtain ⟨p1, p2, a, b, n, g1, g2, rfl, _⟩ := h
    rfl
  · obtain ⟨p1, p2, a, b, n, g1, g2, rfl, h1, h2, hl, n1, n2, n3, k⟩ := h
    obtain ⟨dx, t, hp, ht⟩ := h1.held
    obtain ⟨dx2, t2, hp2, ht2⟩ := h2.held
    walk_at "vc"
    refine ⟨p2, dx2, _, rfl, hp2, fun H1 e1 => ?_⟩
    walk_at "vc"
    refine ex_fld (e1 _ _ hp) (Z.cls "Form") (Z.noat "Form" "held") rfl ?_
    walk_at "vc"
    refine ex_fld (e1 _ _ hp2) (Z.cls "Form") (Z.noat "Form" "held") rfl ?_
    walk_at "vc"
    refine ⟨t, t2, a, b, n, g1, g2, 1, rfl, ht.mono e1, ht2.mono e1, hl, n1, n2, n3, .inl rfl, fun p H2 e2 ⟨q, hh, hq⟩ => ?_⟩
    walk_at "vc"
    intro x dx3 nx nd nex
    exact made_form nx nd nex hq fun H3 e3 hF => k x H3 (Evl.Ex.trans e1 (Evl.Ex.trans e2 e3)) hF
theorem sc_Formu_subu : FnScope ["self", "other", "heights", "length", "gain"] ["self", "other"] (defScope s_Formu_subu) := ⟨rfl, rfl, rfl, by decide +kernel, rfl, by decide +kernel, by decide +kernel⟩
theorem D_Formu_subu (Z : Zf K mg) : Mf P w K mg base "Form" "__sub__" (3) ["self", "other"] (spFOp K (-1)) := by
  refine meth_ok Z 42 rfl sc_Formu_subu (fun _ _ _ _ _ _ us hl => match us, hl with | [_, _], _ => rfl) (fun vs H Q E h => ?_) (fun f cdv A outer s H vs Q E hr h => ⟨_, (pss_cons (ps_expr (pe_callD (D_check_form Z) hr (by omega) rfl (pa_cons (pv 1) pa_nil)))
      (pss_cons (ps_asg (pe_callD (D_combined Z) hr (by omega) rfl (pa_cons (pe_fld (pv 0) rfl) (pa_cons (pe_fld (pv 1) rfl) (pa_cons (pe_un un_neg pe_int) pa_nil)))) (pg_tup (by rfl) (pgs_cons (pgn 2 sc_Formu_subu.nd) (pgs_cons (pgn 3 sc_Formu_subu.nd) (pgs_cons (pgn 4 sc_Formu_subu.nd) pgs_nil)))))
      (pss_one (ps_ret (pe_makeD (D_Formu_initu Z) (Z.mkr "Form") (Z.glo "Form") hr (by omega) rfl (pa_cons (pv 2) (pa_cons (pv 3) (pa_cons (pv 4) pa_nil)))))))), ?_⟩)
  · obtain ⟨p1, p2, a, b, n, g1, g2, rfl, _⟩ := h
    rfl
  · obtain ⟨p1, p2, a, b, n, g1, g2, rfl, h1, h2, hl, n1, n2, n3, k⟩ := h
    obtain ⟨dx, t, hp, ht⟩ := h1.held
    obtain ⟨dx2, t2, hp2, ht2⟩ := h2.held
    walk_at "vc"
    refine ⟨p2, dx2, _, rfl, hp2, fun H1 e1 => ?_⟩
    walk_at "vc"
    refine ex_fld (e1 _ _ hp) (Z.cls "Form") (Z.noat "Form" "held") rfl ?_
    walk_at "vc"
    refine ex_fld (e1 _ _ hp2) (Z.cls "Form") (Z.noat "Form" "held") rfl ?_
    walk_at "vc"
    refine ⟨t, t2, a, b, n, g1, g2, -1, rfl, ht.mono e1, ht2.mono e1, hl, n1, n2, n3, .inr rfl, fun p H2 e2 ⟨q, hh, hq⟩ => ?_⟩
    walk_at "vc"
    intro x dx3 nx nd nex
    exact made_form nx nd nex hq fun H3 e3 hF => k x H3 (Evl.Ex.trans e1 (Evl.Ex.trans e2 e3)) hF
/-- two equal forms -/
def spFEq (K : PySem.W.Frag) : Sp := fun vs H Q _ => ∃ (p1 p2 : Addr) (a : List Int) (n g : Int), vs = [.ref p1, .ref p2] ∧ FormAt K H p1 a n g ∧ FormAt K H p2 a n g ∧ 1 ≤ n ∧ n ≤ a.length ∧ a.length ≤ 100000 ∧ ∀ H', Ex H H' → Q (.bl true) H'
theorem both_self (a : List Int) : ∀ x ∈ both (-1) a a, x = 0 := by
  intro x hx
  unfold both at hx
  rw [List.zipWith_self] at hx
  obtain ⟨y, _, e⟩ := List.mem_map.mp hx
  omega
theorem sc_Formu_equ : FnScope ["self", "other"] ["self", "other"] (defScope s_Formu_equ) := ⟨rfl, rfl, rfl, by decide +kernel, rfl, by decide +kernel, by decide +kernel⟩
theorem D_Formu_equ (Z : Zf K mg) : Mf P w K mg base "Form" "__eq__" (3) ["self", "other"] (spFEq K) := by
  refine meth_ok Z 43 rfl sc_Formu_equ (fun _ _ _ _ _ _ us hl => match us, hl with | [_, _], _ => rfl) (fun vs H Q E h => ?_) (fun f cdv A outer s H vs Q E hr h => ⟨_, (pss_one (ps_ret (pe_and (pe_callB (C8.call_isC (Z.ins "Form").1) (by rfl) (Z.free "isinstance") (by decide +kernel) (pa_cons (pv 1) (pa_cons (pe_gref rfl (Z.glo "Form")) pa_nil))) (pe_one (pe_callD (D_is_zero Z) hr (by omega) rfl (pa_cons (pe_callD (D_combined Z) hr (by omega) rfl (pa_cons (pe_fld (pv 0) rfl) (pa_cons (pe_fld (pv 1) rfl) (pa_cons (pe_un un_neg pe_int) pa_nil)))) pa_nil)))))), ?_⟩)
  · obtain ⟨p1, p2, a, n, g, rfl, _⟩ := h
    rfl
  · obtain ⟨p1, p2, a, n, g, rfl, h1, h2, n1, n2, n3, k⟩ := h
    obtain ⟨dx, t, hp, ht⟩ := h1.held
    obtain ⟨dx2, t2, hp2, ht2⟩ := h2.held
    walk_at "vc"
    refine ⟨p2, dx2, _, rfl, hp2, ?_⟩
    walk_at "vc"
    refine ex_fld hp (Z.cls "Form") (Z.noat "Form" "held") rfl ?_
    walk_at "vc"
    refine ex_fld hp2 (Z.cls "Form") (Z.noat "Form" "held") rfl ?_
    walk_at "vc"
    refine ⟨t, t2, a, a, n, g, g, -1, rfl, ht, ht2, rfl, n1, n2, n3, .inr rfl, fun p H2 e2 hh => ?_⟩
    walk_at "vc"
    have eg : g + -1 * g = 0 := by omega
    rw [eg] at hh
    refine ⟨p, _, n, rfl, hh, by simp [both]; exact n3, both_self a, fun H3 e3 => ?_⟩
    exact k H3 (Evl.Ex.trans e2 e3)
end
/-! ### as operators -/
section
variable {X : Cx} {k k' : Nat} {ps : List Str} {sp : Sp}
theorem op_addF (Z : Zf X.K X.mg) (D : Mf X.prog X.w X.K X.mg X.base "Form" "__add__" k ps sp) (hr : Room k' X.A) (hk : k ≤ k') : OpR X (binaryOp .Add) (rOwn2 (He.ga X.K "Form") sp) := by
  obtain ⟨fd, F, b⟩ := D.ex
  exact op_bin2 F (hr.mono hk) b (Z.ins "Form").2.1 (Z.meth "Form" "__add__").at_ (Z.meth "Form" "__add__").fn
theorem op_subF (Z : Zf X.K X.mg) (D : Mf X.prog X.w X.K X.mg X.base "Form" "__sub__" k ps sp) (hr : Room k' X.A) (hk : k ≤ k') : OpR X (binaryOp .Sub) (rOwn2 (He.ga X.K "Form") sp) := by
  obtain ⟨fd, F, b⟩ := D.ex
  exact op_bin2 F (hr.mono hk) b (Z.ins "Form").2.1 (Z.meth "Form" "__sub__").at_ (Z.meth "Form" "__sub__").fn
theorem op_eqF (Z : Zf X.K X.mg) (D : Mf X.prog X.w X.K X.mg X.base "Form" "__eq__" k ps sp) (hr : Room k' X.A) (hk : k ≤ k') : OpR X (compareOp .Eq) (rOwn2 (He.ga X.K "Form") sp) := by
  obtain ⟨fd, F, b⟩ := D.ex
  exact op_eq2 F (hr.mono hk) b (Z.meth "Form" "__eq__").at_ (Z.meth "Form" "__eq__").fn
theorem op_neF (Z : Zf X.K X.mg) (D : Mf X.prog X.w X.K X.mg X.base "Form" "__eq__" k ps sp) (hr : Room k' X.A) (hk : k + 1 ≤ k') : OpR X (compareOp .NotEq) (fun x y H Q => ∃ a b dx dy fs gs, x = V.ref a ∧ y = V.ref b ∧ H a = some (.ins (He.ga X.K "Form") dx fs) ∧ H b = some (.ins (He.ga X.K "Form") dy gs) ∧ sp [.ref a, .ref b] H (fun v H' => ∃ c, v = .bl c ∧ Q (.bl (!c)) H') E0) := by
  obtain ⟨fd, F, b⟩ := D.ex
  exact op_ne2 F (hr.mono hk) b Z.neF (Z.meth "Form" "__eq__").at_ (Z.meth "Form" "__eq__").fn (Z.ins "Form").1.hm
end
end Ov
/-! text OvT5 -/
set_option Elab.async false
set_option linter.all false
set_option maxRecDepth 100000
namespace Ov
open PySem PySem.Spec PyProof.Rows L2
open Rows
local macro_rules | `(tactic| walk_at "hp") => `(tactic| first
  | assumption
  | exact upd_same
  | (refine Evl.Ex.new (by assumption) _ _ ?_; walk_at "hp")
  | (refine (by assumption : Evl.Ex _ _) _ _ ?_; walk_at "hp"))
local macro_rules | `(tactic| walk_at "sq") => `(tactic| first
  | assumption
  | exact SqL.of (by walk_at "hp")
  | exact SqT.of (by walk_at "hp")
  | (refine Evl.ex_l (by assumption) ?_; walk_at "sq")
  | (refine Evl.ex_t (by assumption) ?_; walk_at "sq")
  | (refine Evl.ex_l (Evl.Ex.new (by assumption)) ?_; walk_at "sq")
  | (refine Evl.ex_t (Evl.Ex.new (by assumption)) ?_; walk_at "sq"))
local macro_rules | `(tactic| walk_at "ex") => `(tactic| first
  | assumption
  | exact Evl.Ex.refl _
  | (refine Evl.Ex.trans ?_ (Evl.Ex.new (by assumption)); walk_at "ex")
  | (refine Evl.Ex.trans ?_ (by assumption); walk_at "ex"))
local macro_rules | `(tactic| walk_at "s1") => `(tactic| first
  | refine ⟨_, rfl, ?_⟩
  | refine ⟨rfl, ?_⟩
  | refine ⟨_, _, rfl, rfl, ?_⟩
  | refine ⟨_, _, _, rfl, rfl, ?_⟩)
local macro_rules | `(tactic| walk_at "st") => `(tactic| repeat walk_at "s1")
local macro_rules | `(tactic| walk_at "v1") => `(tactic| first
  | ((with_reducible refine' s_var ?vch ?_); (case vch => exact rfl))
  | with_reducible refine' s_c ?_
  | with_reducible refine' s_seq ?_
  | with_reducible refine' s_asg ?_
  | with_reducible refine' s_name ?_
  | with_reducible refine' s_cons ?_
  | with_reducible refine' s_nil ?_
  | with_reducible refine' s_op ?_
  | with_reducible refine' s_rI0 ?_
  | with_reducible refine' s_ret ?_
  | with_reducible refine' s_test ?_
  | with_reducible refine' s_ifS ?_
  | with_reducible refine' s_call ?_
  | with_reducible refine' s_cb ?_
  | ((with_reducible refine' s_rEq ?vch ?_); (case vch => exact rfl))
  | ((with_reducible refine' s_rNe ?vch ?_); (case vch => exact rfl))
  | ((with_reducible refine' s_ixT ?vch ?vca ?_); (case vch => walk_at "sq"); (case vca => first | exact rfl | exact at_nat 0 rfl | exact at_nat 1 rfl | exact at_nat 2 rfl | exact at_nat 3 rfl | exact at_nat 4 rfl))
  | ((with_reducible refine' s_ixL ?vch ?vca ?_); (case vch => walk_at "sq"); (case vca => first | exact rfl | exact at_nat 0 rfl | exact at_nat 1 rfl | exact at_nat 2 rfl | exact at_nat 3 rfl | exact at_nat 4 rfl))
  | with_reducible refine iteT' ?_
  | with_reducible refine iteF' ?_
  | with_reducible refine' ex_bl ?_
  | with_reducible refine' ex_int ?_
  | with_reducible refine' ex_str ?_
  | with_reducible refine' ex_int1 ?_
  | with_reducible refine' ex_str1 ?_
  | with_reducible refine' ex_int2 ?_
  | with_reducible refine' ex_pair ?_
  | with_reducible refine' s_un ?_
  | with_reducible refine' s_B ?_
  | with_reducible refine' s_andV ?_
  | with_reducible refine' s_orV ?_
  | with_reducible refine' s_notV ?_
  | with_reducible refine' s_and ?_
  | with_reducible refine' s_or ?_
  | with_reducible refine' s_not ?_
  | with_reducible refine' s_if ?_
  | with_reducible refine' s_chain ?_
  | with_reducible refine' s_next ?_
  | with_reducible refine' s_break ?_
  | with_reducible refine' s_cont ?_
  | with_reducible refine' s_drop ?_
  | with_reducible refine' s_retN ?_
  | with_reducible refine' s_par ?_
  | ((with_reducible refine' s_aug ?vch ?_); (case vch => exact rfl))
  | with_reducible refine' s_ip ?_
  | with_reducible refine' s_gcons ?_
  | with_reducible refine' s_gnil ?_
  | ((with_reducible refine' s_gtup ?vch ?vca ?_); (case vch => walk_at "sq"); (case vca => exact rfl))
  | with_reducible refine' s_tup ?_
  | with_reducible refine' s_lst ?_
  | with_reducible refine' s_sl ?_
  | with_reducible refine' s_part ?_
  | with_reducible refine' s_nopart ?_
  | with_reducible refine' s_fld ?_
  | with_reducible refine' s_make ?_
  | with_reducible refine' s_meth ?_
  | with_reducible refine' s_prop ?_
  | with_reducible refine' s_makeK ?_
  | with_reducible refine' s_gsub ?_
  | ((with_reducible refine' s_setL ?vch ?vca ?_); (case vch => walk_at "hp"); (case vca => exact rfl))
  | with_reducible refine' s_par3 ?_
  | with_reducible refine' ex_three ?_
  | with_reducible refine' s_star ?_
  | with_reducible refine' s_dnewK ?_
  | with_reducible refine' s_dsetd ?_
  | with_reducible refine' s_methR ?_
  | with_reducible refine' s_fldaug ?_
  | with_reducible refine' s_dictzip ?_
  | with_reducible refine' s_sfld ?_
  | with_reducible refine' s_bm ?_
  | with_reducible refine' s_bm0 ?_
  | with_reducible refine' s_m1 ?_
  | with_reducible refine' s_dget ?_
  | with_reducible refine' s_lc ?_
  | with_reducible refine' s_for ?_
  | with_reducible refine' s_iList ?_
  | with_reducible refine' s_iTup ?_
  | with_reducible refine' s_iStr ?_
  | with_reducible refine' s_iRng1 ?_
  | with_reducible refine' s_iRng2 ?_
  | with_reducible refine' s_yes ?_
  | with_reducible refine' s_rU ?_
  | ((with_reducible refine' s_isiP ?vch ?_); (case vch => exact rfl))
  | ((with_reducible refine' ex_lenL ?vch ?_); (case vch => walk_at "sq"))
  | ((with_reducible refine' ex_lenT ?vch ?_); (case vch => walk_at "sq"))
  | ((with_reducible refine' ex_tupL ?vch ?_); (case vch => walk_at "sq"))
  | ((with_reducible refine' ex_lstT ?vch ?_); (case vch => walk_at "sq"))
  | ((with_reducible refine' ex_srcL ?vch ?_); (case vch => walk_at "sq"))
  | ((with_reducible refine' ex_srcT ?vch ?_); (case vch => walk_at "sq"))
  | ((with_reducible refine' s_mk ?vch ?_); (case vch => exact small_le (Nat.le_of_ble_eq_true rfl)))
  | with_reducible refine' ⟨_, _, rfl, rfl, ?_⟩
  | with_reducible refine' ⟨⟨_, rfl⟩, ?_⟩
  | with_reducible refine' ⟨rfl, ?_⟩
  | ((with_reducible refine' iteT_of ?vch ?_); (case vch => exact rfl))
  | ((with_reducible refine' iteF_of ?vch ?_); (case vch => exact rfl)))
local macro_rules | `(tactic| walk_at "vc") => `(tactic| repeat walk_at "v1")
theorem getD_ints {hs : List Int} {i : Nat} (h : i < hs.length) : (hs.map V.int).getD i .non = V.int (hs.getD i 0) := by
  rw [List.getD_eq_getElem?_getD, List.getD_eq_getElem?_getD, List.getElem?_map, List.getElem?_eq_getElem h]
  rfl
theorem getD_nonneg {hs : List Int} (h : ∀ x ∈ hs, 0 ≤ x) (i : Nat) : 0 ≤ hs.getD i 0 := by
  rw [List.getD_eq_getElem?_getD]
  by_cases c : i < hs.length
  · rw [List.getElem?_eq_getElem c]
    exact h _ (List.getElem_mem c)
  · rw [List.getElem?_eq_none_iff.mpr (by omega)]
    exact Int.le_refl 0
section
variable {P : Program} {w : World} {K : PySem.W.Frag} {mg : Str → Option Value} {base : Heap}
/-! ### last_below, of what is nowhere below 0 -/
def spLast : Sp := fun vs H Q _ => ∃ (t : Addr) (hs : List Int) (n g : Int), vs = [.ref t] ∧ HeldAt H t hs n g ∧ 1 ≤ n ∧ n < hs.length ∧ hs.length ≤ 100000 ∧ (∀ x ∈ hs, 0 ≤ x) ∧ 0 ≤ g ∧ ∀ H', Ex H H' → Q (.int (-1)) H'
theorem sc_last_below : FnScope ["held", "heights", "period", "gain", "start", "last", "k", "height"] ["held"] (defScope s_last_below) := ⟨rfl, rfl, rfl, by decide +kernel, rfl, by decide +kernel, by decide +kernel⟩
theorem D_last_below (Z : Zf K mg) : Df P w K mg base "last_below" (1) ["held"] spLast := by
  refine def_ok Z 48 rfl (by decide +kernel) sc_last_below (fun _ _ _ _ _ _ us hl => match us, hl with | [_], _ => rfl) (fun vs H Q E h => ?_) (fun f cdv A outer s H vs Q E hr h => ⟨_, (pss_cons (ps_asg (pv 0) (pg_tup (by rfl) (pgs_cons (pgn 1 sc_last_below.nd) (pgs_cons (pgn 2 sc_last_below.nd) (pgs_cons (pgn 3 sc_last_below.nd) pgs_nil)))))
      (pss_cons (ps_asg (pe_op op_sub (pe_callB call_lenT (by rfl) (Z.free "len") (by decide +kernel) (pa_cons (pv 1) pa_nil)) (pv 2)) (pgn 4 sc_last_below.nd))
      (C8.pss_cut (ps_if (PW.pt (pw_or (pt_cmpR op_lt (pv 3) pe_int (nomark _)) (pw_or1 (PW.pt (pw_and (pt_cmpR op_eq (pv 3) pe_int (nomark _)) (pw_and1 (pt_val (pe_callB (cr_any rfl) (by rfl) (Z.free "any") (by decide +kernel) (pa_cons (pe_lc (own := [("height", 7)]) (g := gName 7) (tt := tYes) rfl sc_last_below.nd (pi_tup (pe_slice sl_tup (pv 1) (po_some (pv 4)) po_none)) (blkOk_by (own := [("height", 7)]) (N := ["held", "heights", "period", "gain", "start", "last", "k", "height"]) (sc := defScope s_last_below) (by decide +kernel)) (fun _ _ _ _ _ => (pgn 7 sc_last_below.nd)) (fun _ _ _ _ _ => pts_nil) (fun _ _ _ _ _ => (pe_cmpR op_lt (pv 7) pe_int (nomark _)))) pa_nil))))))))) (pss_one (ps_ret pe_non)) pss_nil)
      (pss_cons (ps_asg (pe_callB (cr_max rfl) (by rfl) (Z.free "max") (by decide +kernel) (pa_cons (pe_op op_cat (pe_lst (pa_cons (pe_un un_neg pe_int) pa_nil)) (pe_lc (own := [("k", 6)]) (g := gName 6)  rfl sc_last_below.nd (pi_range1 rfl (Z.free "range") (pa_cons (pv 4) pa_nil)) (blkOk_by (own := [("k", 6)]) (N := ["held", "heights", "period", "gain", "start", "last", "k", "height"]) (sc := defScope s_last_below) (by decide +kernel)) (fun _ _ _ _ _ => (pgn 6 sc_last_below.nd)) (fun _ _ _ _ _ => (pts_one (pt_cmpR op_lt (pe_ix (ixTK (K := K) rfl) (pv 1) (pv 6) (fun _ _ => rfl)) pe_int (nomark _)))) (fun _ _ _ _ _ => (pv 6)))) pa_nil)) (pgn 5 sc_last_below.nd))
      (pss_cons (ps_for PassesOwn.never rfl (pi_range2 rfl (Z.free "range") (pa_cons (pv 4) (pa_cons (pe_callB call_lenT (by rfl) (Z.free "len") (by decide +kernel) (pa_cons (pv 1) pa_nil)) pa_nil))) (pgn 6 sc_last_below.nd)
      (pss_one (ps_if (pt_cmpR op_lt (pe_ix ix_tup (pv 1) (pv 6) (fun _ _ => rfl)) pe_int (nomark _)) (pss_one (ps_asg (pe_callB (cr_max rfl) (by rfl) (Z.free "max") (by decide +kernel) (pa_cons (pe_lst (pa_cons (pv 5) (pa_cons (pe_op op_add (pv 6) (pe_op op_mul (pe_op op_fdiv (pe_op op_sub (pe_un un_neg pe_int) (pe_ix ix_tup (pv 1) (pv 6) (fun _ _ => rfl))) (pv 3)) (pv 2))) pa_nil))) pa_nil)) (pgn 5 sc_last_below.nd))) pss_nil)))
      (pss_one (ps_ret (pv 5)))))))), ?_⟩)
  · obtain ⟨t, hs, n, g, rfl, _⟩ := h
    rfl
  · obtain ⟨t, hs, n, g, rfl, ⟨q, ht, hq⟩, n1, n2, n3, h0, g0, k⟩ := h
    walk_at "vc"
    rw [List.length_map]
    refine ⟨fun σ' H' => σ' = [some (.ref t), some (.ref q), some (.int n), some (.int g), some (.int ((hs.length : Int) - n)), none, none, none] ∧ Ex H H', ?_, ?_⟩
    · walk_at "vc"
      refine iteF_of (decide_eq_false (by omega)) ?_
      walk_at "vc"
      by_cases c : g = 0
      · refine iteT_of (decide_eq_true (by rw [c])) ?_
        walk_at "vc"
        refine ⟨q, hs.map V.int, rfl, by walk_at "sq", ?_, fun p hp => ?_⟩
        · rintro ⟨z1, _⟩
          rw [List.length_map] at z1
          have z2 : HT.sIx hs.length 0 (some ((hs.length : Int) - n)) = min ((hs.length : Int) - n).toNat hs.length := by
            show (if (hs.length : Int) - n < 0 then _ else _) = _
            rw [if_neg (by omega)]
          omega
        · refine ⟨p, rfl, ⟨_, SqT.of upd_same⟩, ?_⟩
          have hcut : ∀ i, i < (cutV (hs.map V.int) (some ((hs.length : Int) - n)) none).length → ∃ z, (cutV (hs.map V.int) (some ((hs.length : Int) - n)) none).getD i .non = V.int z ∧ 0 ≤ z := fun i hi => by
            rw [List.getD_eq_getElem?_getD, List.getElem?_eq_getElem hi]
            have hm : (cutV (hs.map V.int) (some ((hs.length : Int) - n)) none)[i] ∈ hs.map V.int := List.mem_of_mem_drop (List.mem_of_mem_take (List.getElem_mem hi))
            obtain ⟨z, hz, e⟩ := List.mem_map.mp hm
            exact ⟨z, e.symm, h0 z hz⟩
          have hlen : (cutV (hs.map V.int) (some ((hs.length : Int) - n)) none).length ≤ hs.length := by
            unfold cutV
            rw [List.length_take, List.length_drop, List.length_map]
            omega
          refine lc_ex walk_tup (j := 7) (fun i => (cutV (hs.map V.int) (some ((hs.length : Int) - n)) none).getD i .non) (fun _ => true) (fun i v _ => v = V.bl false) (fun _ _ _ _ _ h => h) ?_ (fun H' e => by walk_at "sq") (Nat.le_trans hlen n3) (fun _ => rfl) ?_ ?_ ?_
          · rintro i H2 x H' hi ⟨e, hx⟩
            exact ⟨e, by rw [List.getD_eq_getElem?_getD, hx]; rfl⟩
          · intro i H2 _ _ Q1 k1
            exact k1 H2 (Evl.Ex.refl _)
          · intro i H2 hi _ e2 Q1 k1
            obtain ⟨z, e1, z0⟩ := hcut i hi
            rw [e1]
            walk_at "vc"
            rw [decide_eq_false (by omega)]
            exact k1 _ _ (Evl.Ex.refl _) rfl
          · intro D ys H2 hD e2 hy hm
            have ey := Made.allVals hm
            refine ⟨D, List.replicate ys.length false, rfl, SqL.of ?_, ?_⟩
            · rw [hy, ey, List.map_const', List.map_replicate]
              simp
            · have ea : (List.replicate ys.length false).any id = false := by simp
              rw [ea]
              walk_at "vc"
              exact Evl.Ex.trans (Evl.Ex.new hp) e2
      · refine iteF_of (decide_eq_false (fun z => c (V.int.inj z))) ?_
        walk_at "vc"
        exact Evl.Ex.refl _
    · rintro σ' H' ⟨rfl, e⟩
      walk_at "vc"
      intro p1 hp1
      walk_at "vc"
      refine ⟨by omega, by omega, ?_⟩
      refine lc_ex walk_range (j := 6) (fun i => V.int (0 + (i : Int))) (fun _ => false) (fun i v _ => v = V.int 0) (fun _ _ _ _ _ h => h) (fun i H x H' _ h => h) (fun _ _ => trivial) (by omega) (fun _ => rfl) ?_ (fun _ _ _ h => nomatch h) ?_
      · intro i H2 hi e2 Q1 k1
        walk_at "vc"
        refine s_ixT (by walk_at "sq") (at_ints (hs := hs) (by omega) (by omega)) ?_
        walk_at "vc"
        rw [decide_eq_false (by have := getD_nonneg h0 (0 + (i : Int)).toNat; omega)]
        exact k1 _ (Evl.Ex.refl _)
      · intro D ys H2 hD e2 hy hm
        have ey := Made.vals hm
        have ey' : ys = [] := by rw [ey]; simp
        subst ey'
        refine ⟨p1, D, _, [], rfl, rfl, e2 _ _ upd_same, hy, small_le (Nat.le_of_ble_eq_true rfl), fun p2 hp2 => ?_⟩
        refine ⟨p2, [-1], rfl, SqL.of upd_same, Nat.succ_pos _, fun m hm _ => ?_⟩
        have em : m = -1 := by simpa using hm
        subst em
        walk_at "vc"
        rw [List.length_map]
        refine ⟨by omega, ?_⟩
        have e3 := Evl.Ex.trans e (Evl.Ex.trans (Evl.Ex.new hp1) (Evl.Ex.trans e2 (Evl.Ex.new hp2 (o := .lst [.int (-1)]))))
        refine for_go walk_range (fun i σ H' => Ex H H' ∧ ∃ v, σ = [some (.ref t), some (.ref q), some (.int n), some (.int g), some (.int ((hs.length : Int) - n)), some (.int (-1)), v, none]) ⟨e3, _, rfl⟩ (fun _ _ _ _ _ => trivial) ?_ ?_
        · rintro i x σ H3 H4 hi ⟨e4, v, rfl⟩ ⟨eH, rfl⟩
          rw [eH]
          walk_at "vc"
          refine s_ixT (by walk_at "sq") (at_ints (hs := hs) (by omega) (by omega)) ?_
          walk_at "vc"
          refine iteF_of (decide_eq_false (by have := getD_nonneg h0 ((hs.length : Int) - n + (i : Int)).toNat; omega)) ?_
          walk_at "vc"
          exact ⟨e4, _, rfl⟩
        · rintro σ H3 ⟨e4, v, rfl⟩
          walk_at "vc"
          exact k _ e4
/-! ### never_more: the first nowhere above the second -/
def spNever (K : PySem.W.Frag) (r : V) : Sp := fun vs H Q _ => ∃ (p1 p2 : Addr) (a b : List Int) (n g1 g2 : Int), vs = [.ref p1, .ref p2] ∧ FormAt K H p1 a n g1 ∧ FormAt K H p2 b n g2 ∧ a.length = b.length ∧ 1 ≤ n ∧ n < a.length ∧ a.length ≤ 100000 ∧ (∀ x ∈ both (-1) b a, 0 ≤ x) ∧ g1 ≤ g2 ∧ ∀ H', Ex H H' → Q r H'
theorem both_len {s : Int} {a b : List Int} (h : a.length = b.length) : (both s a b).length = a.length := by
  unfold both
  rw [List.length_zipWith, h, Nat.min_self]
theorem sc_never_more : FnScope ["form", "other"] ["form", "other"] (defScope s_never_more) := ⟨rfl, rfl, rfl, by decide +kernel, rfl, by decide +kernel, by decide +kernel⟩
theorem D_never_more (Z : Zf K mg) : Df P w K mg base "never_more" (3) ["form", "other"] (spNever K (.bl true)) := by
  refine def_ok Z 49 rfl (by decide +kernel) sc_never_more (fun _ _ _ _ _ _ us hl => match us, hl with | [_, _], _ => rfl) (fun vs H Q E h => ?_) (fun f cdv A outer s H vs Q E hr h => ⟨_, (pss_cons (ps_expr (pe_callD (D_check_form Z) hr (by omega) rfl (pa_cons (pv 0) pa_nil)))
      (pss_cons (ps_expr (pe_callD (D_check_form Z) hr (by omega) rfl (pa_cons (pv 1) pa_nil)))
      (pss_one (ps_ret (pe_cmpR op_eq (pe_callD (D_last_below Z) hr (by omega) rfl (pa_cons (pe_callD (D_combined Z) hr (by omega) rfl (pa_cons (pe_fld (pv 1) rfl) (pa_cons (pe_fld (pv 0) rfl) (pa_cons (pe_un un_neg pe_int) pa_nil)))) pa_nil)) (pe_un un_neg pe_int) (nomark _)))))), ?_⟩)
  · obtain ⟨p1, p2, a, b, n, g1, g2, rfl, _⟩ := h
    rfl
  · obtain ⟨p1, p2, a, b, n, g1, g2, rfl, h1, h2, hl, n1, n2, n3, hb, hg, k⟩ := h
    obtain ⟨dx, t, hp, ht⟩ := h1.held
    obtain ⟨dx2, t2, hp2, ht2⟩ := h2.held
    walk_at "vc"
    refine ⟨p1, dx, _, rfl, hp, fun H1 e1 => ?_⟩
    walk_at "vc"
    refine ⟨p2, dx2, _, rfl, e1 _ _ hp2, fun H2 e2 => ?_⟩
    have e12 := Evl.Ex.trans e1 e2
    walk_at "vc"
    refine ex_fld (e12 _ _ hp2) (Z.cls "Form") (Z.noat "Form" "held") rfl ?_
    walk_at "vc"
    refine ex_fld (e12 _ _ hp) (Z.cls "Form") (Z.noat "Form" "held") rfl ?_
    walk_at "vc"
    refine ⟨t2, t, b, a, n, g2, g1, -1, rfl, ht2.mono e12, ht.mono e12, hl.symm, n1, by omega, by omega, .inr rfl, fun p H3 e3 hh => ?_⟩
    walk_at "vc"
    refine ⟨p, _, n, _, rfl, hh, n1, by rw [both_len hl.symm]; omega, by rw [both_len hl.symm]; omega, hb, by omega, fun H4 e4 => ?_⟩
    walk_at "vc"
    exact k _ (Evl.Ex.trans e12 (Evl.Ex.trans e3 e4))
theorem sc_never_more_from : FnScope ["form", "other", "last"] ["form", "other"] (defScope s_never_more_from) := ⟨rfl, rfl, rfl, by decide +kernel, rfl, by decide +kernel, by decide +kernel⟩
theorem D_never_more_from (Z : Zf K mg) : Df P w K mg base "never_more_from" (3) ["form", "other"] (spNever K (.int 0)) := by
  refine def_ok Z 50 rfl (by decide +kernel) sc_never_more_from (fun _ _ _ _ _ _ us hl => match us, hl with | [_, _], _ => rfl) (fun vs H Q E h => ?_) (fun f cdv A outer s H vs Q E hr h => ⟨_, (pss_cons (ps_expr (pe_callD (D_check_form Z) hr (by omega) rfl (pa_cons (pv 0) pa_nil)))
      (pss_cons (ps_expr (pe_callD (D_check_form Z) hr (by omega) rfl (pa_cons (pv 1) pa_nil)))
      (pss_cons (ps_asg (pe_callD (D_last_below Z) hr (by omega) rfl (pa_cons (pe_callD (D_combined Z) hr (by omega) rfl (pa_cons (pe_fld (pv 1) rfl) (pa_cons (pe_fld (pv 0) rfl) (pa_cons (pe_un un_neg pe_int) pa_nil)))) pa_nil)) (pgn 2 sc_never_more_from.nd))
      (pss_one (ps_ret (pe_ifExp (pt_cmpR op_isN (pv 2) pe_non (nomark _)) pe_non (pe_op op_add (pv 2) pe_int))))))), ?_⟩)
  · obtain ⟨p1, p2, a, b, n, g1, g2, rfl, _⟩ := h
    rfl
  · obtain ⟨p1, p2, a, b, n, g1, g2, rfl, h1, h2, hl, n1, n2, n3, hb, hg, k⟩ := h
    obtain ⟨dx, t, hp, ht⟩ := h1.held
    obtain ⟨dx2, t2, hp2, ht2⟩ := h2.held
    walk_at "vc"
    refine ⟨p1, dx, _, rfl, hp, fun H1 e1 => ?_⟩
    walk_at "vc"
    refine ⟨p2, dx2, _, rfl, e1 _ _ hp2, fun H2 e2 => ?_⟩
    have e12 := Evl.Ex.trans e1 e2
    walk_at "vc"
    refine ex_fld (e12 _ _ hp2) (Z.cls "Form") (Z.noat "Form" "held") rfl ?_
    walk_at "vc"
    refine ex_fld (e12 _ _ hp) (Z.cls "Form") (Z.noat "Form" "held") rfl ?_
    walk_at "vc"
    refine ⟨t2, t, b, a, n, g2, g1, -1, rfl, ht2.mono e12, ht.mono e12, hl.symm, n1, by omega, by omega, .inr rfl, fun p H3 e3 hh => ?_⟩
    walk_at "vc"
    refine ⟨p, _, n, _, rfl, hh, n1, by rw [both_len hl.symm]; omega, by rw [both_len hl.symm]; omega, hb, by omega, fun H4 e4 => ?_⟩
    walk_at "vc"
    exact k _ (Evl.Ex.trans e12 (Evl.Ex.trans e3 e4))
end
end Ov
/-! text OvZip -/
set_option Elab.async false
set_option linter.all false
set_option maxRecDepth 100000
/-! dict(zip(a tuple of texts, a tuple)): what the hand layer lacks. -/
namespace Ov
open PySem PySem.Spec PyProof.Rows L2
section
variable {prog : Program} {w : World} {A : Around} {E : Value → Shared → Prop} {s : Shared} {z TI TO T i1 i2 l1 l2 : Addr} {f : Bool} {oT : Obj} {k1 k2 : Nat} {xs ys : Array Value} {x y : Value}
/-- the next pair of a zip of two tuples, the pair given out before being kept -/
theorem zh_item {Q : Value → Shared → Prop} (D : ZipApart z TI TO i1 i2 l1 l2) (hz : IsZipHeld s.heap z TI TO T f) (hT : s.heap.get? T = some oT) (hTI : IsPair s.heap TI (.ref i1) (.ref i2)) (h1 : s.heap.IsTupleIter i1 l1 k1) (h2 : s.heap.IsTupleIter i2 l2 k2)
    (hl1 : s.heap.IsTuple l1 xs) (hl2 : s.heap.IsTuple l2 ys) (hx : xs[k1]? = some x) (hy : ys[k2]? = some y)
    (hQ : ∀ h', IsZipHeld h' z TI TO T true → h'.IsTupleIter i1 l1 (k1 + 1) → h'.IsTupleIter i2 l2 (k2 + 1) → IsPair h' s.heap.objs.size x y → (∀ c o, c ≠ z → c ≠ i1 → c ≠ i2 → s.heap.get? c = some o → h'.get? c = some o) → Q (.ref s.heap.objs.size) { s with heap := h' }) :
    wpAny (model prog w) A (Builtin.«zip.__next__» ⟨[.ref z], []⟩) (fun fin s' => ∃ v, fin = .done (.ret v) ∧ Q v s') E s := by
  show wpAny _ _ (field (Value.ref z) 2 >>= _) _ _ _
  refine wpAny_bind (wpAny_field hz (by rfl) (x := .bool false) (by rfl) ?_)
  show wpAny _ _ (field (Value.ref z) 3 >>= _) _ _ _
  refine wpAny_bind (wpAny_field hz (by rfl) (x := .ref TI) (by rfl) ?_)
  refine wpAny_bind (wpAny_seqItems hTI (by rfl) ?_)
  show wpAny _ _ (Builtin.SmallTypes.ownedTupleIsFree (Value.ref z) >>= _) _ _ _
  refine wpAny_bind (wpAny_tupleHeld_zip hz hT fun g1 z1 b1 => ?_)
  simp only [if_false, Bool.false_eq_true]
  refine wpAny_bind ?_
  rw [← Array.forIn_toList]
  simp only [List.forIn_nil, List.forIn_cons]
  refine wpAny_bind (wpAny_bind (wpAny_holding ?_))
  show wpAny _ _ (Builtin.SmallTypes.nextOf (Value.ref i1) >>= _) _ _ _
  refine wpAny_bind (RZ.nextOf_tuple_item (s := { s with heap := g1 }) (h1.extBut b1.extBut D.i1z) (hl1.extBut b1.extBut D.l1z) hx fun g2 j1 b2 => wpAny_pure ?_)
  refine wpAny_pure (wpAny_bind (wpAny_bind (wpAny_holding ?_)))
  show wpAny _ _ (Builtin.SmallTypes.nextOf (Value.ref i2) >>= _) _ _ _
  refine wpAny_bind (RZ.nextOf_tuple_item (s := { s with heap := g2 }) ((h2.extBut b1.extBut D.i2z).extBut b2.extBut D.i12.symm) ((hl2.extBut b1.extBut D.l2z).extBut b2.extBut D.l2i1) hy fun g3 j2 b3 => wpAny_pure ?_)
  refine wpAny_pure (wpAny_pure ?_)
  show wpAny _ _ (newTuple [x, y] >>= fun _ => _) _ _ _
  refine wpAny_bind (wpAny_newTuple (wpAny_pure ⟨_, rfl, ?_⟩))
  have sz : g3.objs.size = s.heap.objs.size := by rw [b3.1, b2.1, b1.1]
  have z3 : IsZipHeld g3 z TI TO T true := b3.extBut _ _ D.i2z.symm (b2.extBut _ _ D.i1z.symm z1)
  have kk : ∀ c o, c ≠ z → c ≠ i1 → c ≠ i2 → s.heap.get? c = some o → g3.get? c = some o := fun c o d1 d2 d3 e => b3.extBut c o d3 (b2.extBut c o d2 (b1.extBut c o d1 e))
  have j3 : g3.IsTupleIter i1 l1 (k1 + 1) := j1.extBut b3.extBut D.i12
  show Q (.ref g3.objs.size) _
  have pr : IsPair (g3.push { cls := .type "tuple", data := .seq #[x, y] }) g3.objs.size x y := Heap.get?_push_size _ (by rfl)
  rw [sz] at pr ⊢
  exact hQ _ (Heap.get?_push_of_some _ z3) (j3.at fun o e => Heap.get?_push_of_some _ e) (j2.at fun o e => Heap.get?_push_of_some _ e) pr fun c o d1 d2 d3 e => Heap.get?_push_of_some _ (kk c o d1 d2 d3 e)
/-- the end of such a zip -/
theorem zh_end {Q : Fin → Shared → Prop} (hh : A.handled = none) (D : ZipApart z TI TO i1 i2 l1 l2) (hz : IsZipHeld s.heap z TI TO T f) (hT : s.heap.get? T = some oT) (hTI : IsPair s.heap TI (.ref i1) (.ref i2)) (h1 : s.heap.IsTupleIter i1 l1 k1)
    (hl1 : s.heap.IsTuple l1 xs) (hx : xs[k1]? = none) (hE : ∀ h' e, (∀ c o, c ≠ z → c ≠ i1 → s.heap.get? c = some o → h'.get? c = some o) → (∃ o, h'.get? e = some o ∧ o.cls = .type "StopIteration") → E (.ref e) { s with heap := h' }) :
    wpAny (model prog w) A (Builtin.«zip.__next__» ⟨[.ref z], []⟩) Q E s := by
  show wpAny _ _ (field (Value.ref z) 2 >>= _) _ _ _
  refine wpAny_bind (wpAny_field hz (by rfl) (x := .bool false) (by rfl) ?_)
  show wpAny _ _ (field (Value.ref z) 3 >>= _) _ _ _
  refine wpAny_bind (wpAny_field hz (by rfl) (x := .ref TI) (by rfl) ?_)
  refine wpAny_bind (wpAny_seqItems hTI (by rfl) ?_)
  show wpAny _ _ (Builtin.SmallTypes.ownedTupleIsFree (Value.ref z) >>= _) _ _ _
  refine wpAny_bind (wpAny_tupleHeld_zip hz hT fun g1 z1 b1 => ?_)
  simp only [if_false, Bool.false_eq_true]
  refine wpAny_bind ?_
  rw [← Array.forIn_toList]
  simp only [List.forIn_nil, List.forIn_cons]
  refine wpAny_bind (wpAny_bind (wpAny_holding ?_))
  show wpAny _ _ (Builtin.SmallTypes.nextOf (Value.ref i1) >>= _) _ _ _
  exact wpAny_bind (RZ.nextOf_tuple_end (s := { s with heap := g1 }) hh (h1.extBut b1.extBut D.i1z) (hl1.extBut b1.extBut D.l1z) hx fun g2 e b2 he => hE g2 e (fun c o d1 d2 q => b2 c o d2 (b1.extBut c o d1 q)) he)
theorem zn_item {Q : Option Value → Shared → Prop} (D : ZipApart z TI TO i1 i2 l1 l2) (hz : IsZipHeld s.heap z TI TO T f) (hT : s.heap.get? T = some oT) (hTI : IsPair s.heap TI (.ref i1) (.ref i2)) (h1 : s.heap.IsTupleIter i1 l1 k1) (h2 : s.heap.IsTupleIter i2 l2 k2)
    (hl1 : s.heap.IsTuple l1 xs) (hl2 : s.heap.IsTuple l2 ys) (hx : xs[k1]? = some x) (hy : ys[k2]? = some y)
    (hQ : ∀ h', IsZipHeld h' z TI TO T true → h'.IsTupleIter i1 l1 (k1 + 1) → h'.IsTupleIter i2 l2 (k2 + 1) → IsPair h' s.heap.objs.size x y → (∀ c o, c ≠ z → c ≠ i1 → c ≠ i2 → s.heap.get? c = some o → h'.get? c = some o) → Q (some (.ref s.heap.objs.size)) { s with heap := h' }) :
    wpAny (model prog w) A (pyNext (.ref z)) Q E s := by
  have ty : s.TypeIs (.ref z) "zip" := ⟨_, hz, rfl⟩
  unfold pyNext
  exact wpAny_bind (wpAny_attempt (wpAny_callSpecial?_slot (name := Str.ofString "__next__") ty F.slot_zip_next (wpAny_call_entry F.slot_zip_next ty F.entry_zip_next (zh_item D hz hT hTI h1 h2 hl1 hl2 hx hy fun h' a1 a3 a4 a5 a6 => wpAny_pure (hQ h' a1 a3 a4 a5 a6)) (F.args_zip_next_1 _))))
theorem zn_end {Q : Option Value → Shared → Prop} (hh : A.handled = none) (D : ZipApart z TI TO i1 i2 l1 l2) (hz : IsZipHeld s.heap z TI TO T f) (hT : s.heap.get? T = some oT) (hTI : IsPair s.heap TI (.ref i1) (.ref i2)) (h1 : s.heap.IsTupleIter i1 l1 k1)
    (hl1 : s.heap.IsTuple l1 xs) (hx : xs[k1]? = none) (hQ : ∀ h', (∀ c o, c ≠ z → c ≠ i1 → s.heap.get? c = some o → h'.get? c = some o) → Q none { s with heap := h' }) : wpAny (model prog w) A (pyNext (.ref z)) Q E s := by
  have ty : s.TypeIs (.ref z) "zip" := ⟨_, hz, rfl⟩
  unfold pyNext
  refine wpAny_bind (wpAny_attempt (wpAny_callSpecial?_slot (name := Str.ofString "__next__") ty F.slot_zip_next (wpAny_call_entry F.slot_zip_next ty F.entry_zip_next (zh_end hh D hz hT hTI h1 hl1 hx fun h' e hk he => ?_) (F.args_zip_next_1 _))))
  obtain ⟨o, ho, hc⟩ := he
  exact wpAny_bind (wpAny_isInstance (T := "StopIteration") (b := true) ⟨o, ho, hc⟩ isSubtype_stop (wpAny_pure (hQ _ hk)))
/-- such a zip as dict's argument -/
theorem zipT_arg (z TI TO i1 i2 l1 l2 : Addr) (D : ZipApart z TI TO i1 i2 l1 l2) (xs ys : Array Value) (hl : xs.size = ys.size) : PairArg prog w "zip" z [z, TI, TO, i1, i2, l1, l2] [z, TO, i1, i2] xs.size (fun i k v => xs[i]? = some k ∧ ys[i]? = some v)
    (fun h => IsZip h z TI TO .none ∧ IsPair h TI (.ref i1) (.ref i2) ∧ (∃ a b, IsPair h TO a b) ∧ h.IsTupleIter i1 l1 0 ∧ h.IsTupleIter i2 l2 0 ∧ h.IsTuple l1 xs ∧ h.IsTuple l2 ys) where
  type := fun s ok => ⟨_, ok.1, by rfl⟩
  notDict := by decide +kernel
  keep := fun h h' ok hk => by
    obtain ⟨q1, q2, ⟨a, b, q3⟩, q4, q5, q6, q7⟩ := ok
    exact ⟨hk _ _ q1, hk _ _ q2, ⟨a, b, hk _ _ q3⟩, q4.at fun o => hk _ o, q5.at fun o => hk _ o, q6.at fun o => hk _ o, q7.at fun o => hk _ o⟩
  there := fun h ok b hb => by
    obtain ⟨q1, q2, ⟨a, c, q3⟩, ⟨o4, q4, _⟩, ⟨o5, q5, _⟩, ⟨o6, q6, _⟩, ⟨o7, q7, _⟩⟩ := ok
    have e : b = z ∨ b = TI ∨ b = TO ∨ b = i1 ∨ b = i2 ∨ b = l1 ∨ b = l2 := by simpa using hb
    rcases e with e | e | e | e | e | e | e
    · exact ⟨_, e ▸ q1⟩
    · exact ⟨_, e ▸ q2⟩
    · exact ⟨_, e ▸ q3⟩
    · exact ⟨_, e ▸ q4⟩
    · exact ⟨_, e ▸ q5⟩
    · exact ⟨_, e ▸ q6⟩
    · exact ⟨_, e ▸ q7⟩
  sub := fun b hb => by
    have e : b = z ∨ b = TO ∨ b = i1 ∨ b = i2 := by simpa using hb
    rcases e with e | e | e | e <;> rw [e] <;> simp
  noKeys := fun A s Q E hA ok h => getAttrOr_miss_zip ok.1 (by rfl) (by rfl) (by rfl) zip_no_keys (by decide +kernel) hA h
  iter := fun A s d Q E hA ok hd hdf h => by
    obtain ⟨q1, q2, ⟨a, b, q3⟩, q4, q5, q6, q7⟩ := ok
    have ne : z ≠ d ∧ TI ≠ d ∧ TO ≠ d ∧ i1 ≠ d ∧ i2 ≠ d ∧ l1 ≠ d ∧ l2 ≠ d := by refine ⟨?_, ?_, ?_, ?_, ?_, ?_, ?_⟩ <;> (intro e; apply hdf; rw [← e]; simp)
    obtain ⟨n1, n2, n3, n4, n5, n6, n7⟩ := ne
    refine wpAny_pyIter_zip q1 (h z [z, TO, i1, i2] (fun i h => IsPair h TI (.ref i1) (.ref i2) ∧ h.IsTupleIter i1 l1 i ∧ h.IsTupleIter i2 l2 i ∧ h.IsTuple l1 xs ∧ h.IsTuple l2 ys ∧
      ((IsZip h z TI TO .none ∧ ∃ a b, IsPair h TO a b) ∨ ∃ T f oT, IsZipHeld h z TI TO T f ∧ h.get? T = some oT ∧ T ≠ z ∧ T ≠ i1 ∧ T ≠ i2 ∧ T ≠ d)) s.heap s.toks ?_ ⟨q2, q4, q5, q6, q7, .inl ⟨q1, a, b, q3⟩⟩ (fun _ _ e => e) fun b hb => .inl hb)
    refine ⟨?_, ?_, ?_, ?_⟩
    · intro hm
      have e : d = z ∨ d = TO ∨ d = i1 ∨ d = i2 := by simpa using hm
      rcases e with e | e | e | e
      · exact n1 e.symm
      · exact n3 e.symm
      · exact n4 e.symm
      · exact n5 e.symm
    · rintro i g g' ⟨t1, t2, t3, t4, t5, t6⟩ hk
      refine ⟨hk _ _ n2 t1, t2.at fun o => hk _ o n4, t3.at fun o => hk _ o n5, t4.at fun o => hk _ o n6, t5.at fun o => hk _ o n7, ?_⟩
      rcases t6 with ⟨u1, a, b, u2⟩ | ⟨T, f, oT, u1, u2, u3, u4, u5, u6⟩
      · exact .inl ⟨hk _ _ n1 u1, a, b, hk _ _ n3 u2⟩
      · exact .inr ⟨T, f, oT, hk _ _ n1 u1, hk _ _ u6 u2, u3, u4, u5, u6⟩
    · rintro i s1 Q1 E1 hi ⟨t1, t2, t3, t4, t5, t6⟩ hds hQ
      have ex := Array.getElem?_eq_getElem hi
      have ey := Array.getElem?_eq_getElem (hl ▸ hi)
      have lt : ∀ {c o}, s1.heap.get? c = some o → s1.heap.objs.size ≠ c := fun e => Nat.ne_of_gt (Heap.lt_size e)
      have m1 : s1.heap.objs.size ≠ i1 := let ⟨_, e, _⟩ := t2; lt e
      have m2 : s1.heap.objs.size ≠ i2 := let ⟨_, e, _⟩ := t3; lt e
      have out : ∀ {c}, c ∉ [z, TO, i1, i2] → c ≠ z ∧ c ≠ TO ∧ c ≠ i1 ∧ c ≠ i2 := fun hc => by simpa using hc
      rcases t6 with ⟨u1, a, b, u2⟩ | ⟨T, f, oT, u1, u2, u3, u4, u5, u6⟩
      · refine RZ.pyNext_zipT_item D u1 t1 u2 t2 t3 t4 t5 ex ey fun h' a1 a2 a3 a4 a5 a6 hk => ?_
        exact hQ s1.heap.objs.size _ _ h' s1.toks ⟨ex, ey⟩ (.inl ⟨_, a5, rfl, _, rfl⟩) ⟨hk _ _ D.TIz D.TITO D.TIi1 D.TIi2 t1, a3, a4, t4.at fun o => hk _ o D.l1z D.l1TO D.l1i1 D.l1i2, t5.at fun o => hk _ o D.l2z D.l2TO D.l2i1 D.l2i2, .inr ⟨s1.heap.objs.size, false, _, a1, a5, lt u1, m1, m2, Nat.ne_of_gt hds⟩⟩
          fun c o hc => hk c o (out hc).1 (out hc).2.1 (out hc).2.2.1 (out hc).2.2.2
      · refine zn_item D u1 u2 t1 t2 t3 t4 t5 ex ey fun h' a1 a3 a4 a5 hk => ?_
        exact hQ s1.heap.objs.size _ _ h' s1.toks ⟨ex, ey⟩ (.inl ⟨_, a5, rfl, _, rfl⟩) ⟨hk _ _ D.TIz D.TIi1 D.TIi2 t1, a3, a4, t4.at fun o => hk _ o D.l1z D.l1i1 D.l1i2, t5.at fun o => hk _ o D.l2z D.l2i1 D.l2i2, .inr ⟨T, true, oT, a1, hk _ _ u3 u4 u5 u2, u3, u4, u5, u6⟩⟩
          fun c o hc => hk c o (out hc).1 (out hc).2.2.1 (out hc).2.2.2
    · rintro s1 Q1 E1 ⟨t1, t2, t3, t4, t5, t6⟩ hQ
      have en : xs[xs.size]? = none := Array.getElem?_eq_none (Nat.le_refl _)
      have out : ∀ {c}, c ∉ [z, TO, i1, i2] → c ≠ z ∧ c ≠ TO ∧ c ≠ i1 ∧ c ≠ i2 := fun hc => by simpa using hc
      rcases t6 with ⟨u1, a, b, u2⟩ | ⟨T, f, oT, u1, u2, u3, u4, u5, u6⟩
      · exact RZ.pyNext_zipT_end hA D u1 t1 u2 t2 t3 t4 t5 (.inl en) fun h' hk => hQ h' s1.toks fun c o hc => hk c o (out hc).1 (out hc).2.1 (out hc).2.2.1 (out hc).2.2.2
      · exact zn_end hA D u1 u2 t1 t2 t4 en fun h' hk => hQ h' s1.toks fun c o hc => hk c o (out hc).1 (out hc).2.2.1
end
/-- dict(zip(e, e2)) of two tuples, the first of texts -/
def tDictZip (K : PySem.W.Frag) (ta : TA) : TE := fun σ H Q => ta σ H fun vs H1 => ∃ (a b : Addr) (ks : List Str) (ys : List V), vs = [.ref a, .ref b] ∧ SqT K H1 a (ks.map V.str) ∧ SqT K H1 b ys ∧ ks.length = ys.length ∧ ∀ p, H1 p = none → Q (.ref p) (upd H1 p (.dK (mergeK [] ((ks.map fun k => (Sum.inr k : Key)).zip ys))))
theorem kv_zip : ∀ {ks : List Str} {ys : List V} {us : List Value}, Vals ys us → KV ((ks.map fun k => (Sum.inr k : Key)).zip ys) ((ks.map fun k => (Sum.inr k : Key)).zip us)
  | [], _, _, _ => .nil
  | _ :: _, _, _, .nil => .nil
  | _ :: _, _, _, .cons r t => .cons ⟨rfl, r⟩ (kv_zip t)
theorem pe_dictzip {X : Cx} {e e2 : Expr} {ta : TA} {p p2 q pos : Pos} (hg : Gl X "dict") (hm : X.mg "dict" = none) (hg2 : Gl X "zip") (hm2 : X.mg "zip" = none) (ha : PA X [e, e2] ta) (hc : X.calm = true := by rfl)
    (hs : starEach [e, e2] X.env = (false, eval e X.env) :: starEach [e2] X.env := by rfl) (hpl : (backTo q (starEach [e2] X.env)).any (·.1) = false := by rfl)
    (na : starEach [.Call (.Name "zip" p2) [e, e2] [] q] X.env = (false, eval (.Call (.Name "zip" p2) [e, e2] [] q) X.env) :: starEach [] X.env := by rfl) :
    PE X (.Call (.Name "dict" p) [.Call (.Name "zip" p2) [e, e2] [] q] [] pos) (tDictZip X.K ta) := by
  refine ⟨fun pins s σ H Q I h => ?_⟩
  refine Call_ (ld_blt I hg hm PyProof.Rows.boot_dict (PyProof.Rows.callWith_type1 (PyProof.Rows.args_cons ?_ na) na (by rfl)))
  refine Call_ (ld_blt I hg2 hm2 PyProof.Rows.boot_zip (PyProof.Rows.callWith_type1 (thn (ha.run q pins s σ H _ I h) fun us s1 ⟨vs, H1, I1, r1, q1⟩ => ?_) hs hpl))
  obtain ⟨a, b, ks, ys, rfl, hqa, hqb, hl, q1⟩ := q1
  cases r1 with
  | cons ra rr =>
  cases rr with
  | cons rb rr =>
  cases rr; cases ra; cases rb
  obtain ⟨its, rv, p1, sz1⟩ := I1.tuple hqa
  obtain ⟨its2, rv2, p2, _⟩ := I1.tuple hqb
  obtain ⟨o1, ho1, _⟩ := id p1
  obtain ⟨o2, ho2, _⟩ := id p2
  have len1 := rv.length
  have len2 := rv2.length
  rw [List.length_map] at len1 sz1
  refine RZ.call_zipT (show s1.heap.IsTuple a its.toArray from p1) (show s1.heap.IsTuple b its2.toArray from p2) fun h' hz hTI hTO h1 h2 hsz hk => PyProof.Rows.args_nil ?_
  have I2 : Inv X pins σ H1 { s1 with heap := h' } := I1.kept (t' := s1.toks) hk
  have arg := zipT_arg (prog := X.prog) (w := X.w) (s1.heap.objs.size + 4) (s1.heap.objs.size + 2) (s1.heap.objs.size + 3) s1.heap.objs.size (s1.heap.objs.size + 1) a b (PySem.W.ktu_apart s1.heap.objs.size a b (Heap.lt_size ho1) (Heap.lt_size ho2)) its.toArray its2.toArray (by simp only [List.size_toArray]; omega)
  have keys : ∀ {ks : List Str} {us : List Value}, Vals (ks.map V.str) us → ∀ i u, us[i]? = some u → ∃ k, (ks.map fun k => (Sum.inr k : Key))[i]? = some k ∧ (mixKind X.prog X.w).is k u = true := fun {ks} {us} r i u hu => by
    have li : i < us.length := (List.getElem?_eq_some_iff.mp hu).1
    have lk : i < ks.length := by have := r.length; rw [List.length_map] at this; omega
    obtain ⟨u', hu', ru⟩ := r.get (i := i) (x := V.str ks[i]) (by rw [List.getElem?_map, List.getElem?_eq_getElem lk]; rfl)
    rw [hu] at hu'
    cases hu'
    exact ⟨.inr ks[i], by rw [List.getElem?_map, List.getElem?_eq_getElem lk]; rfl, kV_is (P := X.prog) (w := X.w) (k := .inr ks[i]) ru⟩
  refine PySem.call_dict_pairs (knd := mixKind X.prog X.w) (kvs := (ks.map fun k => (Sum.inr k : Key)).zip its2) arg (I2.ok.hd hc) ⟨hz, hTI, ⟨_, _, hTO⟩, h1, h2, ?_, ?_⟩ ⟨?_, ?_⟩ (by simp only [List.size_toArray]; omega) fun g tk hd' hk2 => ?_
  · exact ⟨o1, hk _ _ ho1, (show s1.heap.IsTuple a its.toArray from p1).at (fun o e => e) |> fun q => by obtain ⟨o, e, r⟩ := q; rw [ho1] at e; cases e; exact r⟩
  · exact ⟨o2, hk _ _ ho2, (show s1.heap.IsTuple b its2.toArray from p2).at (fun o e => e) |> fun q => by obtain ⟨o, e, r⟩ := q; rw [ho2] at e; cases e; exact r⟩
  · rw [List.length_zip, List.length_map, List.size_toArray]; omega
  · rintro i key v ⟨ek, ev⟩
    rw [List.getElem?_toArray] at ek ev
    obtain ⟨k, e1, e2⟩ := keys rv i key ek
    exact ⟨k, by rw [List.getElem?_zip_eq_some]; exact ⟨e1, ev⟩, e2⟩
  · have big : ∀ c, c ∈ [s1.heap.objs.size + 4, s1.heap.objs.size + 3, s1.heap.objs.size, s1.heap.objs.size + 1] → s1.heap.objs.size ≤ c := fun c hc => by
      have e : c = s1.heap.objs.size + 4 ∨ c = s1.heap.objs.size + 3 ∨ c = s1.heap.objs.size ∨ c = s1.heap.objs.size + 1 := by simpa using hc
      omega
    have k3 : ∀ c o, s1.heap.get? c = some o → g.get? c = some o := fun c o e => hk2 c o (fun m => absurd (Heap.lt_size e) (Nat.not_lt.mpr (big c m))) (hk c o e)
    have ge : s1.heap.objs.size ≤ h'.objs.size := by omega
    have hm : (h'.objs.size == sysModules) = false := beq_eq_false_iff_ne.mpr (Nat.ne_of_gt I2.big)
    have hlen : (mergeK [] ((ks.map fun k => (Sum.inr k : Key)).zip ys)).length ≤ sizeLine := by
      refine Nat.le_trans (length_mergeK _ []) ?_
      rw [List.length_nil, Nat.zero_add, List.length_zip, List.length_map]
      omega
    exact ⟨.ref h'.objs.size, upd H1 h'.objs.size (.dK (mergeK [] ((ks.map fun k => (Sum.inr k : Key)).zip ys))), I1.laid (t' := tk) k3 ge (show ObjOk X.prog X.w _ _ _ (.dK _) from ⟨hlen, hm, _, KV.merge (kv_zip rv2) .nil, hd'⟩), rfl, q1 _ (I1.hok.fresh ge)⟩
theorem s_dictzip {K : PySem.W.Frag} {t : TA} {σ : L2.St} {H : Hp} {Q : VK} (q : t σ H fun vs H1 => ∃ (a b : Addr) (ks : List Str) (ys : List V), vs = [.ref a, .ref b] ∧ SqT K H1 a (ks.map V.str) ∧ SqT K H1 b ys ∧ ks.length = ys.length ∧ ∀ p, H1 p = none → Q (.ref p) (upd H1 p (.dK (mergeK [] ((ks.map fun k => (Sum.inr k : Key)).zip ys))))) : tDictZip K t σ H Q := q
end Ov
/-! text OvDef -/
set_option Elab.async false
set_option linter.all false
set_option maxRecDepth 100000
/-! More kinds of defs: properties, keyword-only parameters, defaults; what Costs and Program hold. -/
namespace Ov
open PySem PySem.Spec PyProof.Rows L2
open Rows
section
variable {P : Program} {w : World} {K : PySem.W.Frag} {mg : Str → Option Value} {base : Heap}
/-- a property of a class of the module -/
structure Pf (P : Program) (w : World) (K : PySem.W.Frag) (mg : Str → Option Value) (base : Heap) (C m : Str) (k : Nat) (ps : List Str) (sp : Sp) : Prop where
  ex : ∃ fd, FnOk P w K mg base CX0 k (getterOf K (He.ma K (He.ga K C) m)) fd ps sp ∧ Binds K fd ps []
/-- an __init__ whose parameters go by name: all are written, in their order -/
structure MfK (P : Program) (w : World) (K : PySem.W.Frag) (mg : Str → Option Value) (base : Heap) (C m : Str) (k : Nat) (ps ks : List Str) (sp : Sp) : Prop where
  ex : ∃ fd, FnOk P w K mg base CX0 k (He.ma K (He.ga K C) m) fd ps sp ∧ KBn K fd ps 1 ks (fun us ws => us ++ ws) (fun vs zs => vs ++ zs)
theorem prop_ok {N ps : List Str} {k : Nat} {sp : Sp} (Z : Zf K mg) (i : Nat) {C m q : Str} {st : Stmt} (h : fns[i]? = some ⟨.prop C m, m, q, defArgs st, defBody st, defScope st, [], []⟩) (S : FnScope N ps (defScope st))
    (bind : ∀ (kV doc pm : Value) (an : Option Addr) (cdv ct : Value) (us : List Value), us.length = ps.length → bindArgs (PySem.W.fnOf m q (defArgs st) (defBody st) (defScope st) .none kV doc pm an cdv ct) ⟨us, []⟩ = pure (ps.zip us))
    (len : ∀ vs H Q E, sp vs H Q E → vs.length = ps.length)
    (hbody : ∀ (f : Addr) (cdv : Value) (A : Around) (outer : List Env) (s : Shared) (H : Hp) (vs : List V) (Q : VK) (E : XK), Room k (A.deeper (envOfC q (defScope st) s.heap.objs.size f cdv)) → sp vs H Q E →
      ∃ t, PSs (cxOf CX0 P w K mg base N q (defScope st) f cdv A outer s H E).nox (defBody st) t ∧ t { nx := fun _ H' => Q .non H', rt := Q } (start N vs) H) : Pf P w K mg base C m (k + 1) ps sp := by
  obtain ⟨fd, F⟩ := Z.def_ i h
  refine ⟨fd, F.ok S len fun cdv A outer s H vs Q E hr hs => ?_, F.bindsN bind⟩
  obtain ⟨t, h1, h2⟩ := hbody _ cdv A outer s H vs Q E hr hs
  exact ⟨t, h1.nox, h2⟩
theorem meth_okK {N ps ks : List Str} {k : Nat} {sp : Sp} (Z : Zf K mg) (i : Nat) {C m q : Str} {st : Stmt} {kw : List (Str × He.Dv)} (h : fns[i]? = some ⟨.meth C m, m, q, defArgs st, defBody st, defScope st, [], kw⟩) (S : FnScope N ps (defScope st))
    (bind : ∀ f fd, FunD K m q (defArgs st) (defBody st) (defScope st) [] (kw.map fun q => (q.1, q.2.v K)) f fd → KBn K fd ps 1 ks (fun us ws => us ++ ws) (fun vs zs => vs ++ zs))
    (len : ∀ vs H Q E, sp vs H Q E → vs.length = ps.length)
    (hbody : ∀ (f : Addr) (cdv : Value) (A : Around) (outer : List Env) (s : Shared) (H : Hp) (vs : List V) (Q : VK) (E : XK), Room k (A.deeper (envOfC q (defScope st) s.heap.objs.size f cdv)) → sp vs H Q E →
      ∃ t, PSs (cxOf CX0 P w K mg base N q (defScope st) f cdv A outer s H E).nox (defBody st) t ∧ t { nx := fun _ H' => Q .non H', rt := Q } (start N vs) H) : MfK P w K mg base C m (k + 1) ps ks sp := by
  obtain ⟨fd, F⟩ := Z.def_ i h
  refine ⟨fd, F.ok S len fun cdv A outer s H vs Q E hr hs => ?_, bind _ fd F⟩
  obtain ⟨t, h1, h2⟩ := hbody _ cdv A outer s H vs Q E hr hs
  exact ⟨t, h1.nox, h2⟩
theorem def_okD {N ps : List Str} {k : Nat} {sp : Sp} (Z : Zf K mg) (i : Nat) {x : Str} {st : Stmt} {dv : List He.Dv} (h : fns[i]? = some ⟨.glo x, x, x, defArgs st, defBody st, defScope st, dv, []⟩) (hx : decide (x ∈ gloNames) = true) (S : FnScope N ps (defScope st))
    (bind : ∀ f fd, FunD K x x (defArgs st) (defBody st) (defScope st) (dv.map (He.Dv.v K)) [] f fd → Binds K fd ps [])
    (len : ∀ vs H Q E, sp vs H Q E → vs.length = ps.length)
    (hbody : ∀ (f : Addr) (cdv : Value) (A : Around) (outer : List Env) (s : Shared) (H : Hp) (vs : List V) (Q : VK) (E : XK), Room k (A.deeper (envOfC x (defScope st) s.heap.objs.size f cdv)) → sp vs H Q E →
      ∃ t, PSs (cxOf CX0 P w K mg base N x (defScope st) f cdv A outer s H E).nox (defBody st) t ∧ t { nx := fun _ H' => Q .non H', rt := Q } (start N vs) H) : Df P w K mg base x (k + 1) ps sp := by
  obtain ⟨fd, F⟩ := Z.def_ i h
  refine ⟨He.ga K x, fd, F.ok S len fun cdv A outer s H vs Q E hr hs => ?_, Z.glo x hx, F.kp, bind _ fd F⟩
  obtain ⟨t, h1, h2⟩ := hbody (He.ga K x) cdv A outer s H vs Q E hr hs
  exact ⟨t, h1.nox, h2⟩
end
section
variable {X : Cx} {k k' : Nat} {ps ks : List Str} {sp : Sp} {x C m : Str} {p pos : Pos} {e : Expr} {ta : TE} {tk : TA} {kws : List Keyword}
theorem pe_propD (D : Pf X.prog X.w X.K X.mg X.base C m k ps sp) (c : Cls X.K (He.ga X.K C)) (hp : PropOf X.K (He.ga X.K C) m (He.ma X.K (He.ga X.K C) m) (getterOf X.K (He.ma X.K (He.ga X.K C) m))) (hr : Room k' X.A) (hk : k + 1 ≤ k') (he : PE X e ta)
    (hab : attributeBase e m X.env (eval e X.env) = eval e X.env := by rfl) : PE X (.Attribute e m pos) (tProp (He.ga X.K C) sp [] E0 ta) := by
  obtain ⟨fd, F, b⟩ := D.ex
  exact pe_prop he c hp F (hr.mono hk) b .nil pass0 hab
theorem pe_makeKD (D : MfK X.prog X.w X.K X.mg X.base C "__init__" k ps ks sp) (M : Mk X.K (He.ga X.K C) (He.ma X.K (He.ga X.K C) "__init__")) (hm : X.mg C = some (.ref (He.ga X.K C))) (hr : Room k' X.A) (hk : k + 1 ≤ k') (hg : Gl X C) (hkw : PK X kws tk)
    (hall : (backToKw pos (keywordEach kws X.env)).all (·.1.isSome) = true := by rfl) (hks : (backToKw pos (keywordEach kws X.env)).filterMap (·.1) = ks := by rfl) (hdb : (C == ("__debug__" : Str)) = false := by decide)
    (hpl : ((backTo pos (starEach [] X.env)).any (·.1) || (backToKw pos (keywordEach kws X.env)).any (·.1.isNone)) = false := by rfl) :
    PE X (.Call (.Name C p) [] kws pos) (tMakeK (He.ga X.K C) 0 ks.length sp (fun vs zs => vs ++ zs) E0 tNil tk) := by
  obtain ⟨fd, F, b⟩ := D.ex
  exact pe_makeK0 M F (hr.mono hk) hg hm b pass0 hkw hall hks hdb hpl
end
section
variable {X : Cx} {k k' : Nat} {ps ks : List Str} {sp : Sp} {x C m : Str} {p pos : Pos} {e : Expr} {ta : TE} {tk : TA} {kws : List Keyword}
theorem units65 (hr : Room k X.A) : X.A.units + 65 < cLine := by have := hr.un; omega
theorem units64 (hr : Room k X.A) : X.A.units + 64 < cLine := by have := hr.un; omega
/-- a method with a star parameter -/
theorem pe_methS {pl : Sem Bool} {o : Expr} {es : List Expr} {t : TA} {apos : Pos} (F : FnR X.prog X.w X.K X.mg X.base CX0 k (He.ma X.K (He.ga X.K C) m) sp) (c : Cls X.K (He.ga X.K C)) (hm : Meth X.K (He.ga X.K C) m (He.ma X.K (He.ga X.K C) m)) (hr : Room k' X.A) (hk : k ≤ k') (ho : PE X o ta) (ha : PA X (e :: es) t)
    (hst : starEach (e :: es) X.env = (false, eval e X.env) :: starEach es X.env := by rfl) (hpl : (backTo pos (starEach es X.env)).any (·.1) = false := by rfl)
    (ht : eval (.Call (.Attribute o m apos) (e :: es) [] pos) X.env = (do
      let ov ← eval o X.env
      standAt apos.atName
      let (f, first) ← holding [ov] (getMethod ov m pl)
      callWith pos f first (backTo pos (starEach (e :: es) X.env)) (backToKw pos (keywordEach [] X.env))) := by rfl) :
    PE X (.Call (.Attribute o m apos) (e :: es) [] pos) (tMethR (He.ga X.K C) m sp E0 ta t) := pe_methR ho c hm F (hr.mono hk) pass0 ha hst hpl ht
end
/-! ### what stands in the heap -/
def CostsAt (K : PySem.W.Frag) (H : Hp) (p : Addr) (pr : Nat → Int) : Prop := ∃ dx t : Addr, H p = some (.ins (He.ga K "Costs") dx [("prices", .ref t)]) ∧ H t = some (.tup ([pr 0, pr 1, pr 2, pr 3, pr 4, pr 5].map V.int))
theorem CostsAt.mono {K : PySem.W.Frag} {H H' : Hp} (e : Ex H H') {p : Addr} {pr : Nat → Int} (h : CostsAt K H p pr) : CostsAt K H' p pr := let ⟨dx, t, a, b⟩ := h; ⟨dx, t, e _ _ a, e _ _ b⟩
/-- a program: its text, its body read, and what else was read -/
def ProgAt (K : PySem.W.Frag) (H : Hp) (p : Addr) (text : Str) (r : Rows) : Prop := ∃ (dx t b : Addr) (x y z : V) (ys : List V), H p = some (.ins (He.ga K "Program") dx [("written", .str text), ("parts", .ref t)]) ∧ H t = some (.tup [x, .ref b, y, z]) ∧ H b = some (.tup ys) ∧ ItemsAt H r ys
theorem ProgAt.mono {K : PySem.W.Frag} {H H' : Hp} (e : Ex H H') {p : Addr} {text : Str} {r : Rows} (h : ProgAt K H p text r) : ProgAt K H' p text r := let ⟨dx, t, b, x, y, z, ys, h1, h2, h3, h4⟩ := h; ⟨dx, t, b, x, y, z, ys, e _ _ h1, e _ _ h2, e _ _ h3, h4.mono e⟩
section
variable {σ : L2.St} {H : Hp} {Q : VK}
theorem s_star {K : PySem.W.Frag} {te : TE} {t : TA} {QA : List V → Hp → Prop} (q : te σ H fun x H1 => ∃ p xs, x = V.ref p ∧ (SqT K H1 p xs ∨ SqL K H1 p xs) ∧ t σ H1 fun ys H2 => QA (xs ++ ys) H2) : StX.tStar K te t σ H QA := q
theorem s_dnewK (q : ∀ p, H p = none → Q (.ref p) (upd H p (.dK []))) : tDNewK σ H Q := q
theorem s_dsetd {td ty tx : TE} (q : td σ H fun x H1 => ∃ a, x = .ref a ∧ IsD H1 a ∧ ty σ H1 fun y H2 => tx σ H2 fun z H3 => ∃ (kvs : List (Key × V)) (k : Key), H3 a = some (.dK kvs) ∧ y = kV k ∧ kvs.length < sizeLine ∧
  (∀ v, valV kvs k = some v → Q v H3) ∧ (valV kvs k = none → Q z (upd H3 a (.dK (putK kvs k z))))) : tDSetd td ty tx σ H Q := q
theorem ty_list {K : PySem.W.Frag} {p : Addr} {xs : List V} (h : SqL K H p xs) : tyV K "list" (.ref p) H := .inl ⟨rfl, xs, h⟩
theorem s_par3 {i j l : Nat} {ta : TA} {D : Ends} (q : ta σ H fun vs H1 => ∃ u v w, vs = [u, v, w] ∧ D.nx (((σ.set i (some u)).set j (some v)).set l (some w)) H1) : tPar3 i j l ta D σ H := q
theorem ex_three {x y z : V} {Pq : V → V → V → Prop} (h : Pq x y z) : ∃ u v w, [x, y, z] = [u, v, w] ∧ Pq u v w := ⟨x, y, z, rfl, h⟩
theorem s_methR {C : Addr} {m : Str} {sp : Sp} {E : XK} {ta : TE} {t : TA} (q : ta σ H fun x H1 => ∃ a dx fs, x = .ref a ∧ H1 a = some (.ins C dx fs) ∧ fs.lookup m = none ∧ t σ H1 fun vs H2 => sp (x :: vs) H2 Q E) : tMethR C m sp E ta t σ H Q := q
theorem s_fldaug {K : PySem.W.Frag} {ta tv : TE} {rd : V → V → Hp → VK → Prop} {f : Str} {D : Ends} (q : ta σ H fun x H1 => ∃ a C dx fs v, x = .ref a ∧ H1 a = some (.ins C dx fs) ∧ Cls K C ∧ NoAttr K C f ∧ fs.lookup f = some v ∧
  tv σ H1 fun y H2 => rd v y H2 fun z H3 => ∃ dx' fs', H3 a = some (.ins C dx' fs') ∧ fs'.length < 1000 ∧ D.nx σ (upd H3 a (.ins C dx' (putF f z fs')))) : sFldAug K ta tv rd f D σ H := q
theorem ex_faug {K : PySem.W.Frag} {a C dx : Addr} {fs : List (Str × V)} {f : Str} {v : V} {Pq : Addr → Addr → V → Prop} (h : H a = some (.ins C dx fs)) (c1 : Cls K C) (n1 : NoAttr K C f) (l : fs.lookup f = some v) (q : Pq a C v) :
    ∃ a' C' dx' fs' v', V.ref a = .ref a' ∧ H a' = some (.ins C' dx' fs') ∧ Cls K C' ∧ NoAttr K C' f ∧ fs'.lookup f = some v' ∧ Pq a' C' v' := ⟨a, C, dx, fs, v, rfl, h, c1, n1, l, q⟩
theorem s_makeK {C : Addr} {n m : Nat} {sp : Sp} {gV : List V → List V → List V} {E : XK} {t tk : TA} (q : t σ H fun vs H1 => tk σ H1 fun zs H2 => vs.length = n ∧ zs.length = m ∧ ∀ x dx, H2 x = none → H2 dx = none → dx ≠ x →
    sp (gV (.ref x :: vs) zs) (upd (upd H2 dx (.own x)) x (.ins C dx [])) (fun v H3 => v = .non ∧ Q (.ref x) H3) E) : tMakeK C n m sp gV E t tk σ H Q := q
end
end Ov
/-! text OvT6 -/
set_option Elab.async false
set_option linter.all false
set_option maxRecDepth 100000
namespace Ov
open PySem PySem.Spec PyProof.Rows L2
open Rows
local macro_rules | `(tactic| walk_at "hp") => `(tactic| first
  | assumption
  | exact upd_same
  | (refine Evl.Ex.new (by assumption) _ _ ?_; walk_at "hp")
  | (refine (by assumption : Evl.Ex _ _) _ _ ?_; walk_at "hp"))
local macro_rules | `(tactic| walk_at "sq") => `(tactic| first
  | assumption
  | exact SqL.of (by walk_at "hp")
  | exact SqT.of (by walk_at "hp")
  | (refine Evl.ex_l (by assumption) ?_; walk_at "sq")
  | (refine Evl.ex_t (by assumption) ?_; walk_at "sq")
  | (refine Evl.ex_l (Evl.Ex.new (by assumption)) ?_; walk_at "sq")
  | (refine Evl.ex_t (Evl.Ex.new (by assumption)) ?_; walk_at "sq"))
local macro_rules | `(tactic| walk_at "ex") => `(tactic| first
  | assumption
  | exact Evl.Ex.refl _
  | (refine Evl.Ex.trans ?_ (Evl.Ex.new (by assumption)); walk_at "ex")
  | (refine Evl.Ex.trans ?_ (by assumption); walk_at "ex"))
local macro_rules | `(tactic| walk_at "s1") => `(tactic| first
  | refine ⟨_, rfl, ?_⟩
  | refine ⟨rfl, ?_⟩
  | refine ⟨_, _, rfl, rfl, ?_⟩
  | refine ⟨_, _, _, rfl, rfl, ?_⟩)
local macro_rules | `(tactic| walk_at "st") => `(tactic| repeat walk_at "s1")
local macro_rules | `(tactic| walk_at "v1") => `(tactic| first
  | ((with_reducible refine' s_var ?vch ?_); (case vch => exact rfl))
  | with_reducible refine' s_c ?_
  | with_reducible refine' s_seq ?_
  | with_reducible refine' s_asg ?_
  | with_reducible refine' s_name ?_
  | with_reducible refine' s_cons ?_
  | with_reducible refine' s_nil ?_
  | with_reducible refine' s_op ?_
  | with_reducible refine' s_rI0 ?_
  | with_reducible refine' s_ret ?_
  | with_reducible refine' s_test ?_
  | with_reducible refine' s_ifS ?_
  | with_reducible refine' s_call ?_
  | with_reducible refine' s_cb ?_
  | ((with_reducible refine' s_rEq ?vch ?_); (case vch => exact rfl))
  | ((with_reducible refine' s_rNe ?vch ?_); (case vch => exact rfl))
  | ((with_reducible refine' s_ixT ?vch ?vca ?_); (case vch => walk_at "sq"); (case vca => first | exact rfl | exact at_nat 0 rfl | exact at_nat 1 rfl | exact at_nat 2 rfl | exact at_nat 3 rfl | exact at_nat 4 rfl))
  | ((with_reducible refine' s_ixL ?vch ?vca ?_); (case vch => walk_at "sq"); (case vca => first | exact rfl | exact at_nat 0 rfl | exact at_nat 1 rfl | exact at_nat 2 rfl | exact at_nat 3 rfl | exact at_nat 4 rfl))
  | with_reducible refine iteT' ?_
  | with_reducible refine iteF' ?_
  | with_reducible refine' ex_bl ?_
  | with_reducible refine' ex_int ?_
  | with_reducible refine' ex_str ?_
  | with_reducible refine' ex_int1 ?_
  | with_reducible refine' ex_str1 ?_
  | with_reducible refine' ex_int2 ?_
  | with_reducible refine' ex_pair ?_
  | with_reducible refine' s_un ?_
  | with_reducible refine' s_B ?_
  | with_reducible refine' s_andV ?_
  | with_reducible refine' s_orV ?_
  | with_reducible refine' s_notV ?_
  | with_reducible refine' s_and ?_
  | with_reducible refine' s_or ?_
  | with_reducible refine' s_not ?_
  | with_reducible refine' s_if ?_
  | with_reducible refine' s_chain ?_
  | with_reducible refine' s_next ?_
  | with_reducible refine' s_break ?_
  | with_reducible refine' s_cont ?_
  | with_reducible refine' s_drop ?_
  | with_reducible refine' s_retN ?_
  | with_reducible refine' s_par ?_
  | ((with_reducible refine' s_aug ?vch ?_); (case vch => exact rfl))
  | with_reducible refine' s_ip ?_
  | with_reducible refine' s_gcons ?_
  | with_reducible refine' s_gnil ?_
  | ((with_reducible refine' s_gtup ?vch ?vca ?_); (case vch => walk_at "sq"); (case vca => exact rfl))
  | with_reducible refine' s_tup ?_
  | with_reducible refine' s_lst ?_
  | with_reducible refine' s_sl ?_
  | with_reducible refine' s_part ?_
  | with_reducible refine' s_nopart ?_
  | with_reducible refine' s_fld ?_
  | with_reducible refine' s_make ?_
  | with_reducible refine' s_meth ?_
  | with_reducible refine' s_prop ?_
  | with_reducible refine' s_makeK ?_
  | with_reducible refine' s_gsub ?_
  | ((with_reducible refine' s_setL ?vch ?vca ?_); (case vch => walk_at "hp"); (case vca => exact rfl))
  | with_reducible refine' s_par3 ?_
  | with_reducible refine' ex_three ?_
  | with_reducible refine' s_star ?_
  | with_reducible refine' s_dnewK ?_
  | with_reducible refine' s_dsetd ?_
  | with_reducible refine' s_methR ?_
  | with_reducible refine' s_fldaug ?_
  | with_reducible refine' s_dictzip ?_
  | with_reducible refine' s_sfld ?_
  | with_reducible refine' s_bm ?_
  | with_reducible refine' s_bm0 ?_
  | with_reducible refine' s_m1 ?_
  | with_reducible refine' s_dget ?_
  | with_reducible refine' s_lc ?_
  | with_reducible refine' s_for ?_
  | with_reducible refine' s_iList ?_
  | with_reducible refine' s_iTup ?_
  | with_reducible refine' s_iStr ?_
  | with_reducible refine' s_iRng1 ?_
  | with_reducible refine' s_iRng2 ?_
  | with_reducible refine' s_yes ?_
  | with_reducible refine' s_rU ?_
  | ((with_reducible refine' s_isiP ?vch ?_); (case vch => exact rfl))
  | ((with_reducible refine' ex_lenL ?vch ?_); (case vch => walk_at "sq"))
  | ((with_reducible refine' ex_lenT ?vch ?_); (case vch => walk_at "sq"))
  | ((with_reducible refine' ex_tupL ?vch ?_); (case vch => walk_at "sq"))
  | ((with_reducible refine' ex_lstT ?vch ?_); (case vch => walk_at "sq"))
  | ((with_reducible refine' ex_srcL ?vch ?_); (case vch => walk_at "sq"))
  | ((with_reducible refine' ex_srcT ?vch ?_); (case vch => walk_at "sq"))
  | ((with_reducible refine' s_mk ?vch ?_); (case vch => exact small_le (Nat.le_of_ble_eq_true rfl)))
  | with_reducible refine' ⟨_, _, rfl, rfl, ?_⟩
  | with_reducible refine' ⟨⟨_, rfl⟩, ?_⟩
  | with_reducible refine' ⟨rfl, ?_⟩
  | ((with_reducible refine' iteT_of ?vch ?_); (case vch => exact rfl))
  | ((with_reducible refine' iteF_of ?vch ?_); (case vch => exact rfl)))
local macro_rules | `(tactic| walk_at "vc") => `(tactic| repeat walk_at "v1")
section
variable {P : Program} {w : World} {K : PySem.W.Frag} {mg : Str → Option Value} {base : Heap}
/-! ### Costs -/
def kwNames : List Str := ["works", "loads", "stores", "copies", "steps", "tests"]
theorem kw_binds {f : Addr} {fd : FuncData} (F : FunD K "__init__" "Costs.__init__" (defArgs s_Costsu_initu) (defBody s_Costsu_initu) (defScope s_Costsu_initu) [] (d_Costsu_initu.kwd.map fun q => (q.1, q.2.v K)) f fd) :
    KBn K fd ["self", "works", "loads", "stores", "copies", "steps", "tests"] 1 kwNames (fun us ws => us ++ ws) (fun vs zs => vs ++ zs) := by
  obtain ⟨mv, b⟩ := FunD.kbinds0 (ps := ["self", "works", "loads", "stores", "copies", "steps", "tests"]) F 1 kwNames [] (fun us _ ws => us ++ ws) (by simp [d_Costsu_initu]) (fun q h => nomatch h) (fun r _ t => r.append t) (fun D doc pm an cdv ct us mv ws l1 l2 l3 => match us, l1, ws, l3 with
    | [_], _, [_, _, _, _, _, _], _ => by rfl)
  exact b
def spCInit (K : PySem.W.Frag) : Sp := fun vs H Q _ => ∃ (x dx : Addr) (a b c d e f : Int), vs = [.ref x, .int a, .int b, .int c, .int d, .int e, .int f] ∧ H x = some (.ins (He.ga K "Costs") dx []) ∧ (∀ n ∈ [a, b, c, d, e, f], 0 ≤ n ∧ n ≤ 1000) ∧
  ∀ t H', Ex (hid [x] H) (hid [x] H') → H' x = some (.ins (He.ga K "Costs") dx [("prices", .ref t)]) → H' t = some (.tup ([a, b, c, d, e, f].map V.int)) → Q .non H'
theorem sc_Costsu_initu : FnScope ["self", "works", "loads", "stores", "copies", "steps", "tests", "cost"] ["self", "works", "loads", "stores", "copies", "steps", "tests"] (defScope s_Costsu_initu) := ⟨rfl, rfl, rfl, by decide +kernel, rfl, by decide +kernel, by decide +kernel⟩
theorem D_Costsu_initu (Z : Zf K mg) : MfK P w K mg base "Costs" "__init__" (3) ["self", "works", "loads", "stores", "copies", "steps", "tests"] kwNames (spCInit K) := by
  refine meth_okK Z 33 rfl sc_Costsu_initu (by intro f fd F; exact kw_binds F) (fun vs H Q E h => ?_) (fun f cdv A outer s H vs Q E hr h => ⟨_, (pss_cons (ps_for PassesOwn.never rfl (pi_tup (pe_tup (pa_cons (pv 1) (pa_cons (pv 2) (pa_cons (pv 3) (pa_cons (pv 4) (pa_cons (pv 5) (pa_cons (pv 6) pa_nil)))))))) (pgn 7 sc_Costsu_initu.nd)
      (pss_one (ps_if (pt_not (pt_val (pe_callD (D_is_between Z) hr (by omega) rfl (pa_cons (pv 7) (pa_cons pe_int (pa_cons (pe_gint rfl (Z.int "MOST_COST" 1000)) pa_nil)))))) (pss_one ps_never) pss_nil)))
      (pss_one (ps_fld (pv 0) (pe_tup (pa_cons (pv 1) (pa_cons (pv 2) (pa_cons (pv 3) (pa_cons (pv 4) (pa_cons (pv 5) (pa_cons (pv 6) pa_nil))))))) rfl))), ?_⟩)
  · obtain ⟨x, dx, a, b, c, d, e, f, rfl, _⟩ := h
    rfl
  · obtain ⟨x, dx, a, b, c, d, e, f, rfl, hx, hb, k⟩ := h
    walk_at "vc"
    intro p1 hp1
    have ne1 : x ≠ p1 := ne_of_none hx hp1
    walk_at "vc"
    refine for_go walk_tup (fun i σ H' => Ex (upd H p1 (.tup ([a, b, c, d, e, f].map V.int))) H' ∧ ∃ v, σ = [some (.ref x), some (.int a), some (.int b), some (.int c), some (.int d), some (.int e), some (.int f), v]) ⟨Evl.Ex.refl _, _, rfl⟩ (fun i σ H' _ h => Evl.ex_t h.1 (SqT.of upd_same)) ?_ ?_
    · rintro i y σ H1 H2 hi ⟨e1, v, rfl⟩ ⟨eH, hy⟩
      rw [eH]
      obtain ⟨n, hn, rfl⟩ : ∃ n, n ∈ [a, b, c, d, e, f] ∧ y = V.int n := by
        have hm := List.mem_of_getElem? hy
        obtain ⟨n, h1, h2⟩ := List.mem_map.mp (show y ∈ [a, b, c, d, e, f].map V.int from hm)
        exact ⟨n, h1, h2.symm⟩
      have hb' := hb n hn
      walk_at "vc"
      refine ⟨n, 0, 1000, rfl, ?_⟩
      rw [decide_eq_true hb'.1, decide_eq_true hb'.2]
      walk_at "vc"
      exact ⟨e1, _, rfl⟩
    · rintro σ H1 ⟨e1, v, rfl⟩
      have hx1 : H1 x = some (.ins (He.ga K "Costs") dx []) := e1 _ _ ((upd_ne ne1).trans hx)
      walk_at "vc"
      intro t ht
      have ne : x ≠ t := ne_of_none hx1 ht
      walk_at "vc"
      refine ex_sfld (show upd H1 t _ x = _ from (upd_ne ne).trans hx1) (Z.cls "Costs") (Z.noat "Costs" "prices") (by show 0 < 1000; decide) ?_
      refine k t _ ?_ upd_same ?_
      · rw [hid_upd (by simp)]
        exact hid_mono (Evl.Ex.trans (Evl.Ex.new hp1) (Evl.Ex.trans e1 (Evl.Ex.new ht)))
      · rw [upd_ne ne.symm]
        exact upd_same
/-! ### prices_of -/
def spPrices (K : PySem.W.Frag) : Sp := fun vs H Q _ => ∃ (p : Addr) (pr : Nat → Int), vs = [.ref p] ∧ CostsAt K H p pr ∧ ∀ d H', Ex H H' → PrAt H' d pr → Q (.ref d) H'
theorem sc_prices_of : FnScope ["costs"] ["costs"] (defScope s_prices_of) := ⟨rfl, rfl, rfl, by decide +kernel, rfl, by decide +kernel, by decide +kernel⟩
theorem D_prices_of (Z : Zf K mg) : Df P w K mg base "prices_of" (1) ["costs"] (spPrices K) := by
  refine def_ok Z 34 rfl (by decide +kernel) sc_prices_of (fun _ _ _ _ _ _ us hl => match us, hl with | [_], _ => rfl) (fun vs H Q E h => ?_) (fun f cdv A outer s H vs Q E hr h => ⟨_, (pss_one (ps_ret (pe_dictzip rfl (Z.free "dict") rfl (Z.free "zip") (pa_cons (pe_tup (pa_cons pe_str (pa_cons pe_str (pa_cons pe_str (pa_cons pe_str (pa_cons pe_str (pa_cons pe_str pa_nil))))))) (pa_cons (pe_fld (pv 0) rfl) pa_nil))))), ?_⟩)
  · obtain ⟨p, pr, rfl, _⟩ := h
    rfl
  · obtain ⟨p, pr, rfl, ⟨dx, t, hp, ht⟩, k⟩ := h
    walk_at "vc"
    intro p1 hp1
    walk_at "vc"
    refine ex_fld (Evl.Ex.new hp1 _ _ hp) (Z.cls "Costs") (Z.noat "Costs" "prices") rfl ?_
    walk_at "vc"
    refine ⟨p1, t, ["work", "load", "store", "copy", "step", "test"], [pr 0, pr 1, pr 2, pr 3, pr 4, pr 5].map V.int, rfl, SqT.of upd_same, SqT.of (Evl.Ex.new hp1 _ _ ht), rfl, fun d hd => ?_⟩
    refine k d _ (Evl.Ex.trans (Evl.Ex.new hp1) (Evl.Ex.new hd)) ⟨_, upd_same, fun j hj => ?_⟩
    match j, hj with
    | 0, _ => rfl
    | 1, _ => rfl
    | 2, _ => rfl
    | 3, _ => rfl
    | 4, _ => rfl
    | 5, _ => rfl
/-! ### body -/
def spBody (K : PySem.W.Frag) : Sp := fun vs H Q _ => ∃ (p dx t : Addr) (xs : List V) (x y : V) (fs : List (Str × V)), vs = [.ref p] ∧ H p = some (.ins (He.ga K "Program") dx fs) ∧ fs.lookup ("parts" : Str) = some (.ref t) ∧ H t = some (.tup (x :: y :: xs)) ∧ Q y H
theorem sc_Program_body : FnScope ["self"] ["self"] (defScope s_Program_body) := ⟨rfl, rfl, rfl, by decide +kernel, rfl, by decide +kernel, by decide +kernel⟩
theorem D_Program_body (Z : Zf K mg) : Pf P w K mg base "Program" "body" (1) ["self"] (spBody K) := by
  refine prop_ok Z 30 rfl sc_Program_body (fun _ _ _ _ _ _ us hl => match us, hl with | [_], _ => rfl) (fun vs H Q E h => ?_) (fun f cdv A outer s H vs Q E hr h => ⟨_, (pss_one (ps_ret (pe_ix ix_tup (pe_fld (pv 0) rfl) pe_int (fun _ _ => rfl)))), ?_⟩)
  · obtain ⟨p, dx, t, xs, x, y, fs, rfl, _⟩ := h
    rfl
  · obtain ⟨p, dx, t, xs, x, y, fs, rfl, hp, hf, ht, k⟩ := h
    walk_at "vc"
    refine ex_fld hp (Z.cls "Program") (Z.noat "Program" "parts") hf ?_
    walk_at "vc"
    exact k
/-! ### time_of -/
theorem time_of_binds {f : Addr} {fd : FuncData} (F : FunD K "time_of" "time_of" (defArgs s_time_of) (defBody s_time_of) (defScope s_time_of) ([He.Dv.non].map (He.Dv.v K)) [] f fd) : Binds K fd ["program", "costs"] [] := by
  obtain ⟨ds, r, b⟩ := FunD.binds1 (ps := ["program", "costs"]) F 2 1 (by simp) (by rfl) (fun T kV doc pm an cdv ct us its l1 l2 => match us, l1, its, l2 with
    | [_, _], _, [_], _ => ⟨_, rfl, rfl⟩)
  cases r
  exact b
def spTime (K : PySem.W.Frag) : Sp := fun vs H Q _ => ∃ (p c : Addr) (text : Str) (r : Rows) (pr : Nat → Int), vs = [.ref p, .ref c] ∧ ProgAt K H p text r ∧ Shape r 3 ∧ steps r ≤ 1000 ∧ CostsAt K H c pr ∧ ∀ q H', Ex H H' → FormAt K H' q (heights pr r) (per r) (rise pr r) → Q (.ref q) H'
theorem steps_small {r : Rows} (hs : Shape r 3) (h : steps r ≤ 1000) : 0 ≤ many r ∧ many r ≤ 1020 := by
  have := per_bounds hs
  have := steps_nonneg hs
  unfold many
  omega
theorem sc_time_of : FnScope ["program", "costs", "prices", "body", "item", "gain", "length", "many", "count"] ["program", "costs"] (defScope s_time_of) := ⟨rfl, rfl, rfl, by decide +kernel, rfl, by decide +kernel, by decide +kernel⟩
theorem D_time_of (Z : Zf K mg) : Df P w K mg base "time_of" (14) ["program", "costs"] (spTime K) := by
  refine def_okD Z 47 rfl (by decide +kernel) sc_time_of (by intro f fd F; exact time_of_binds F) (fun vs H Q E h => ?_) (fun f cdv A outer s H vs Q E hr h => ⟨_, (pss_cons (ps_if (pt_not (pt_val (pe_callB (C8.call_isC (Z.ins "Program").1) (by rfl) (Z.free "isinstance") (by decide +kernel) (pa_cons (pv 0) (pa_cons (pe_gref rfl (Z.glo "Program")) pa_nil))))) (pss_one ps_never) pss_nil)
      (pss_cons (ps_if (PW.pt (pw_and (pt_cmpR op_notN (pv 1) pe_non (nomark _)) (pw_and1 (pt_not (pt_val (pe_callB (C8.call_isC (Z.ins "Costs").1) (by rfl) (Z.free "isinstance") (by decide +kernel) (pa_cons (pv 1) (pa_cons (pe_gref rfl (Z.glo "Costs")) pa_nil)))))))) (pss_one ps_never) pss_nil)
      (pss_cons (ps_asg (pe_tup (pa_cons (pe_callD (D_prices_of Z) hr (by omega) rfl (pa_cons (pe_ifExp (pt_cmpR op_isN (pv 1) pe_non (nomark _)) (pe_nev) (pv 1)) pa_nil)) (pa_cons (pe_propD (D_Program_body Z) (Z.cls "Program") (Z.prop "Program" "body") hr (by omega) (pv 0)) pa_nil))) (pg_tup (by rfl) (pgs_cons (pgn 2 sc_time_of.nd) (pgs_cons (pgn 3 sc_time_of.nd) pgs_nil))))
      (C8.pss_cut (ps_asg (pe_callD (D_long_while Z 5) hr (by omega) rfl (pa_cons (pv 3) pa_nil)) (pgn 4 sc_time_of.nd))
      (C8.pss_cut (ps_asg (pe_ifExp (pt_cmpR op_isN (pv 4) pe_non (nomark _)) (pe_tup (pa_cons pe_int (pa_cons pe_int pa_nil))) (pe_callD (round_one Z (D_spent Z 5)) hr (by omega) rfl (pa_cons (pv 4) (pa_cons (pv 2) pa_nil)))) (pg_tup (by rfl) (pgs_cons (pgn 5 sc_time_of.nd) (pgs_cons (pgn 6 sc_time_of.nd) pgs_nil))))
      (pss_cons (ps_asg (pe_op op_add (pe_op op_add (pe_callD (D_steps_in Z 5) hr (by omega) rfl (pa_cons (pv 3) pa_nil)) (pe_gint rfl (Z.int "MOST_BOUND" 12))) (pv 6)) (pgn 7 sc_time_of.nd))
      (pss_one (ps_ret (pe_makeD (D_Formu_initu Z) (Z.mkr "Form") (Z.glo "Form") hr (by omega) rfl (pa_cons (pe_callTy call_tupL (by rfl) (Z.free "tuple") (by decide +kernel) (pa_cons (pe_lc (own := [("count", 8)]) (g := gName 8) (tt := tYes) rfl sc_time_of.nd (pi_range1 rfl (Z.free "range") (pa_cons (pv 7) pa_nil)) (blkOk_by (own := [("count", 8)]) (N := ["program", "costs", "prices", "body", "item", "gain", "length", "many", "count"]) (sc := defScope s_time_of) (by decide +kernel)) (fun _ _ _ _ _ => (pgn 8 sc_time_of.nd)) (fun _ _ _ _ _ => pts_nil) (fun _ _ _ _ _ => (pe_ix (ixTK (K := K) rfl) (pe_callD (D_spent Z 5) hr (by omega) rfl (pa_cons (pv 3) (pa_cons (pv 8) (pa_cons (pv 2) pa_nil)))) pe_int (fun _ _ => rfl)))) pa_nil)) (pa_cons (pv 6) (pa_cons (pv 5) pa_nil)))))))))))), ?_⟩)
  · obtain ⟨p, c, text, r, pr, rfl, _⟩ := h
    rfl
  · obtain ⟨p, c, text, r, pr, rfl, ⟨dx, t, b, x, y, z, ys, hp, ht, hb, hi⟩, hs, h1000, hc, k⟩ := h
    obtain ⟨dxc, tc, hc1, hc2⟩ := id hc
    walk_at "vc"
    refine ⟨p, dx, _, rfl, hp, ?_⟩
    walk_at "vc"
    refine ⟨c, dxc, _, rfl, hc1, ?_⟩
    walk_at "vc"
    refine ⟨c, pr, rfl, hc, fun d H1 e1 hpr => ?_⟩
    walk_at "vc"
    refine ⟨p, dx, _, rfl, e1 _ _ hp, p, dx, t, [y, z], x, .ref b, _, rfl, e1 _ _ hp, rfl, e1 _ _ ht, ?_⟩
    walk_at "vc"
    intro p2 hp2
    walk_at "vc"
    have hd5 : dep r < 5 := by have := dep_shape hs; omega
    have e2 : Ex H (upd H1 p2 (.tup [.ref d, .ref b])) := Evl.Ex.trans e1 (Evl.Ex.new hp2)
    have hpr2 := hpr.mono (Evl.Ex.new hp2 (o := .tup [.ref d, .ref b]))
    refine ⟨fun σ' H' => Ex H H' ∧ PrAt H' d pr ∧ ∃ v, σ' = [some (.ref p), some (.ref c), some (.ref d), some (.ref b), some v, none, none, none, none] ∧ ((long r = none ∧ v = .non) ∨ ∃ u q, long r = some u ∧ v = .ref q ∧ WhlAt H' q u), ?_, ?_⟩
    · walk_at "vc"
      refine ⟨b, ys, r, rfl, e2 _ _ hb, hi.mono e2, hd5, fun H3 e3 hn => ?_, fun H3 q u e3 hu hw => ?_⟩
      · walk_at "vc"
        exact ⟨Evl.Ex.trans e2 e3, hpr2.mono e3, _, rfl, .inl ⟨hn, rfl⟩⟩
      · walk_at "vc"
        exact ⟨Evl.Ex.trans e2 e3, hpr2.mono e3, _, rfl, .inr ⟨u, q, hu, rfl, hw⟩⟩
    · rintro σ' H3 ⟨e3, hpr3, v, rfl, hv⟩
      refine ⟨fun σ' H' => Ex H H' ∧ PrAt H' d pr ∧ ∃ v, σ' = [some (.ref p), some (.ref c), some (.ref d), some (.ref b), some v, some (.int (rise pr r)), some (.int (per r)), none, none], ?_, ?_⟩
      · rcases hv with ⟨hn, rfl⟩ | ⟨u, q, hu, rfl, hw⟩
        · walk_at "vc"
          intro p4 hp4
          walk_at "vc"
          have a1 : rise pr r = 0 := by unfold rise; rw [hn]
          have a2 : per r = 1 := by unfold per; rw [hn]
          rw [a1, a2]
          exact ⟨Evl.Ex.trans e3 (Evl.Ex.new hp4), hpr3.mono (Evl.Ex.new hp4), _, rfl⟩
        · obtain ⟨f1, f2, _, _⟩ := long_flat hs hu
          walk_at "vc"
          refine ⟨q, d, u, pr, rfl, hw, by have := dep_flat f1; omega, f2, hpr3, fun p4 H4 e4 h4 => ?_⟩
          walk_at "vc"
          have a1 : rise pr r = cost pr u 0 + pr 5 := by unfold rise; rw [hu]
          have a2 : per r = -(rem u 0) := by unfold per; rw [hu]
          rw [a1, a2]
          exact ⟨Evl.Ex.trans e3 e4, hpr3.mono e4, _, rfl⟩
      · rintro σ' H4 ⟨e4, hpr4, v', rfl⟩
        walk_at "vc"
        refine ⟨b, ys, r, rfl, e4 _ _ hb, hi.mono e4, hd5, fun H5 e5 => ?_⟩
        walk_at "vc"
        have em : steps r + 12 + per r = many r := rfl
        have hsm := steps_small hs h1000
        rw [em]
        have e45 := Evl.Ex.trans e4 e5
        refine ⟨by omega, by omega, ?_⟩
        refine lc_ex walk_range (j := 8) (fun i => V.int (0 + (i : Int))) (fun _ => true) (fun i v _ => v = V.int (cost pr r (i : Int))) (fun _ _ _ _ _ h => h) (fun i H x H' _ h => h) (fun _ _ => trivial) (by omega) (fun _ => rfl) ?_ ?_ ?_
        · intro i H2 _ _ Q1 k1
          exact k1 H2 (Evl.Ex.refl _)
        · intro i H2 hi2 _ e6 Q1 k1
          have e46 := Evl.Ex.trans e45 e6
          walk_at "vc"
          refine ⟨b, d, ys, r, _, pr, 3, rfl, e46 _ _ hb, hi.mono e46, hd5, hs, (hpr4.mono e5).mono e6, by omega, fun p7 H7 e7 h7 => ?_⟩
          walk_at "vc"
          exact k1 _ _ e7 (by rw [Int.zero_add])
        · intro D ys2 H2 hD e6 hy hm
          have ey := Made.allVals hm
          walk_at "vc"
          intro p8 hp8
          walk_at "vc"
          intro x9 dx9 nx nd nex
          have eh : ys2 = (heights pr r).map V.int := by
            rw [ey]
            unfold heights
            rw [List.map_map]
            rfl
          subst eh
          exact made_form nx nd nex upd_same fun H9 e9 hF => k x9 H9 (Evl.Ex.trans e45 (Evl.Ex.trans e6 (Evl.Ex.trans (Evl.Ex.new hp8) e9))) hF
end
end Ov
/-! text OvT7 -/
set_option Elab.async false
set_option linter.all false
set_option maxRecDepth 100000
namespace Ov
open PySem PySem.Spec PyProof.Rows L2
open Rows
local macro_rules | `(tactic| walk_at "hp") => `(tactic| first
  | assumption
  | exact upd_same
  | (refine Evl.Ex.new (by assumption) _ _ ?_; walk_at "hp")
  | (refine (by assumption : Evl.Ex _ _) _ _ ?_; walk_at "hp"))
local macro_rules | `(tactic| walk_at "sq") => `(tactic| first
  | assumption
  | exact SqL.of (by walk_at "hp")
  | exact SqT.of (by walk_at "hp")
  | (refine Evl.ex_l (by assumption) ?_; walk_at "sq")
  | (refine Evl.ex_t (by assumption) ?_; walk_at "sq")
  | (refine Evl.ex_l (Evl.Ex.new (by assumption)) ?_; walk_at "sq")
  | (refine Evl.ex_t (Evl.Ex.new (by assumption)) ?_; walk_at "sq"))
local macro_rules | `(tactic| walk_at "ex") => `(tactic| first
  | assumption
  | exact Evl.Ex.refl _
  | (refine Evl.Ex.trans ?_ (Evl.Ex.new (by assumption)); walk_at "ex")
  | (refine Evl.Ex.trans ?_ (by assumption); walk_at "ex"))
local macro_rules | `(tactic| walk_at "s1") => `(tactic| first
  | refine ⟨_, rfl, ?_⟩
  | refine ⟨rfl, ?_⟩
  | refine ⟨_, _, rfl, rfl, ?_⟩
  | refine ⟨_, _, _, rfl, rfl, ?_⟩)
local macro_rules | `(tactic| walk_at "st") => `(tactic| repeat walk_at "s1")
local macro_rules | `(tactic| walk_at "v1") => `(tactic| first
  | ((with_reducible refine' s_var ?vch ?_); (case vch => exact rfl))
  | with_reducible refine' s_c ?_
  | with_reducible refine' s_seq ?_
  | with_reducible refine' s_asg ?_
  | with_reducible refine' s_name ?_
  | with_reducible refine' s_cons ?_
  | with_reducible refine' s_nil ?_
  | with_reducible refine' s_op ?_
  | with_reducible refine' s_rI0 ?_
  | with_reducible refine' s_ret ?_
  | with_reducible refine' s_test ?_
  | with_reducible refine' s_ifS ?_
  | with_reducible refine' s_call ?_
  | with_reducible refine' s_cb ?_
  | ((with_reducible refine' s_rEq ?vch ?_); (case vch => exact rfl))
  | ((with_reducible refine' s_rNe ?vch ?_); (case vch => exact rfl))
  | ((with_reducible refine' s_ixT ?vch ?vca ?_); (case vch => walk_at "sq"); (case vca => first | exact rfl | exact at_nat 0 rfl | exact at_nat 1 rfl | exact at_nat 2 rfl | exact at_nat 3 rfl | exact at_nat 4 rfl))
  | ((with_reducible refine' s_ixL ?vch ?vca ?_); (case vch => walk_at "sq"); (case vca => first | exact rfl | exact at_nat 0 rfl | exact at_nat 1 rfl | exact at_nat 2 rfl | exact at_nat 3 rfl | exact at_nat 4 rfl))
  | with_reducible refine iteT' ?_
  | with_reducible refine iteF' ?_
  | with_reducible refine' ex_bl ?_
  | with_reducible refine' ex_int ?_
  | with_reducible refine' ex_str ?_
  | with_reducible refine' ex_int1 ?_
  | with_reducible refine' ex_str1 ?_
  | with_reducible refine' ex_int2 ?_
  | with_reducible refine' ex_pair ?_
  | with_reducible refine' s_un ?_
  | with_reducible refine' s_B ?_
  | with_reducible refine' s_andV ?_
  | with_reducible refine' s_orV ?_
  | with_reducible refine' s_notV ?_
  | with_reducible refine' s_and ?_
  | with_reducible refine' s_or ?_
  | with_reducible refine' s_not ?_
  | with_reducible refine' s_if ?_
  | with_reducible refine' s_chain ?_
  | with_reducible refine' s_next ?_
  | with_reducible refine' s_break ?_
  | with_reducible refine' s_cont ?_
  | with_reducible refine' s_drop ?_
  | with_reducible refine' s_retN ?_
  | with_reducible refine' s_par ?_
  | ((with_reducible refine' s_aug ?vch ?_); (case vch => exact rfl))
  | with_reducible refine' s_ip ?_
  | with_reducible refine' s_gcons ?_
  | with_reducible refine' s_gnil ?_
  | ((with_reducible refine' s_gtup ?vch ?vca ?_); (case vch => walk_at "sq"); (case vca => exact rfl))
  | with_reducible refine' s_tup ?_
  | with_reducible refine' s_lst ?_
  | with_reducible refine' s_sl ?_
  | with_reducible refine' s_part ?_
  | with_reducible refine' s_nopart ?_
  | with_reducible refine' s_fld ?_
  | with_reducible refine' s_make ?_
  | with_reducible refine' s_meth ?_
  | with_reducible refine' s_prop ?_
  | with_reducible refine' s_makeK ?_
  | with_reducible refine' s_gsub ?_
  | ((with_reducible refine' s_setL ?vch ?vca ?_); (case vch => walk_at "hp"); (case vca => exact rfl))
  | with_reducible refine' s_par3 ?_
  | with_reducible refine' ex_three ?_
  | with_reducible refine' s_star ?_
  | with_reducible refine' s_dnewK ?_
  | with_reducible refine' s_dsetd ?_
  | with_reducible refine' s_methR ?_
  | with_reducible refine' s_fldaug ?_
  | with_reducible refine' s_dictzip ?_
  | with_reducible refine' s_sfld ?_
  | with_reducible refine' s_bm ?_
  | with_reducible refine' s_bm0 ?_
  | with_reducible refine' s_m1 ?_
  | with_reducible refine' s_dget ?_
  | with_reducible refine' s_lc ?_
  | with_reducible refine' s_for ?_
  | with_reducible refine' s_iList ?_
  | with_reducible refine' s_iTup ?_
  | with_reducible refine' s_iStr ?_
  | with_reducible refine' s_iRng1 ?_
  | with_reducible refine' s_iRng2 ?_
  | with_reducible refine' s_yes ?_
  | with_reducible refine' s_rU ?_
  | ((with_reducible refine' s_isiP ?vch ?_); (case vch => exact rfl))
  | ((with_reducible refine' ex_lenL ?vch ?_); (case vch => walk_at "sq"))
  | ((with_reducible refine' ex_lenT ?vch ?_); (case vch => walk_at "sq"))
  | ((with_reducible refine' ex_tupL ?vch ?_); (case vch => walk_at "sq"))
  | ((with_reducible refine' ex_lstT ?vch ?_); (case vch => walk_at "sq"))
  | ((with_reducible refine' ex_srcL ?vch ?_); (case vch => walk_at "sq"))
  | ((with_reducible refine' ex_srcT ?vch ?_); (case vch => walk_at "sq"))
  | ((with_reducible refine' s_mk ?vch ?_); (case vch => exact small_le (Nat.le_of_ble_eq_true rfl)))
  | with_reducible refine' ⟨_, _, rfl, rfl, ?_⟩
  | with_reducible refine' ⟨⟨_, rfl⟩, ?_⟩
  | with_reducible refine' ⟨rfl, ?_⟩
  | ((with_reducible refine' iteT_of ?vch ?_); (case vch => exact rfl))
  | ((with_reducible refine' iteF_of ?vch ?_); (case vch => exact rfl)))
local macro_rules | `(tactic| walk_at "vc") => `(tactic| repeat walk_at "v1")
section
variable {P : Program} {w : World} {K : PySem.W.Frag} {mg : Str → Option Value} {base : Heap}
def six (pr : Nat → Int) : List Int := [pr 0, pr 1, pr 2, pr 3, pr 4, pr 5]
def spPaid (K : PySem.W.Frag) : Sp := fun vs H Q _ => ∃ (a : Addr) (pr : Nat → Int), vs = [.ref a] ∧ SqL K H a ((six pr).map V.int) ∧ (∀ n ∈ six pr, 0 ≤ n ∧ n ≤ 1000) ∧ ∀ p H', Ex H H' → CostsAt K H' p pr → Q (.ref p) H'
theorem sc_z_paid : FnScope ["_law_row"] ["_law_row"] (defScope s_z_paid) := ⟨rfl, rfl, rfl, by decide +kernel, rfl, by decide +kernel, by decide +kernel⟩
theorem D_z_paid (Z : Zf K mg) : Df P w K mg base "_law_paid" (5) ["_law_row"] (spPaid K) := by
  refine def_ok Z 59 rfl (by decide +kernel) sc_z_paid (fun _ _ _ _ _ _ us hl => match us, hl with | [_], _ => rfl) (fun vs H Q E h => ?_) (fun f cdv A outer s H vs Q E hr h => ⟨_, (pss_one (ps_ret (pe_makeKD (D_Costsu_initu Z) (Z.mkr "Costs") (Z.glo "Costs") hr (by omega) rfl (pk_cons (pe_ix ix_list (pv 0) pe_int (fun _ _ => rfl)) (pk_cons (pe_ix ix_list (pv 0) pe_int (fun _ _ => rfl)) (pk_cons (pe_ix ix_list (pv 0) pe_int (fun _ _ => rfl)) (pk_cons (pe_ix ix_list (pv 0) pe_int (fun _ _ => rfl)) (pk_cons (pe_ix ix_list (pv 0) pe_int (fun _ _ => rfl)) (pk_cons (pe_ix ix_list (pv 0) pe_int (fun _ _ => rfl)) pk_nil))))))))), ?_⟩)
  · obtain ⟨a, pr, rfl, _⟩ := h
    rfl
  · obtain ⟨a, pr, rfl, ha, hb, k⟩ := h
    have ha' : SqL K H a [.int (pr 0), .int (pr 1), .int (pr 2), .int (pr 3), .int (pr 4), .int (pr 5)] := ha
    walk_at "vc"
    intro x dx nx nd nex
    refine ⟨x, dx, pr 0, pr 1, pr 2, pr 3, pr 4, pr 5, rfl, upd_same, hb, fun t H' e h1 h2 => ⟨rfl, ?_⟩⟩
    have e1 : Ex H (hid [x] (upd (upd H dx (.own x)) x (.ins (He.ga K "Costs") dx []))) := by
      rw [hid_upd (by simp)]
      exact fun b o hb => hid_get (Evl.Ex.new nd _ _ hb) (by simp; exact ne_of_none hb nx)
    exact k x H' (Evl.Ex.trans e1 (Evl.Ex.trans e ex_hid)) ⟨dx, t, h1, h2⟩
end
end Ov
/-! text OvV2 -/
set_option Elab.async false
set_option linter.all false
set_option maxRecDepth 100000
namespace Ov
open PySem PySem.Spec PyProof.Rows L2
local macro_rules | `(tactic| walk_at "hp") => `(tactic| first
  | assumption
  | exact upd_same
  | (refine Evl.Ex.new (by assumption) _ _ ?_; walk_at "hp")
  | (refine (by assumption : Evl.Ex _ _) _ _ ?_; walk_at "hp"))
local macro_rules | `(tactic| walk_at "sq") => `(tactic| first
  | assumption
  | exact SqL.of (by walk_at "hp")
  | exact SqT.of (by walk_at "hp")
  | (refine Evl.ex_l (by assumption) ?_; walk_at "sq")
  | (refine Evl.ex_t (by assumption) ?_; walk_at "sq")
  | (refine Evl.ex_l (Evl.Ex.new (by assumption)) ?_; walk_at "sq")
  | (refine Evl.ex_t (Evl.Ex.new (by assumption)) ?_; walk_at "sq"))
local macro_rules | `(tactic| walk_at "ex") => `(tactic| first
  | assumption
  | exact Evl.Ex.refl _
  | (refine Evl.Ex.trans ?_ (Evl.Ex.new (by assumption)); walk_at "ex")
  | (refine Evl.Ex.trans ?_ (by assumption); walk_at "ex"))
local macro_rules | `(tactic| walk_at "s1") => `(tactic| first
  | refine ⟨_, rfl, ?_⟩
  | refine ⟨rfl, ?_⟩
  | refine ⟨_, _, rfl, rfl, ?_⟩
  | refine ⟨_, _, _, rfl, rfl, ?_⟩)
local macro_rules | `(tactic| walk_at "st") => `(tactic| repeat walk_at "s1")
local macro_rules | `(tactic| walk_at "v1") => `(tactic| first
  | ((with_reducible refine' s_var ?vch ?_); (case vch => exact rfl))
  | with_reducible refine' s_c ?_
  | with_reducible refine' s_seq ?_
  | with_reducible refine' s_asg ?_
  | with_reducible refine' s_name ?_
  | with_reducible refine' s_cons ?_
  | with_reducible refine' s_nil ?_
  | with_reducible refine' s_op ?_
  | with_reducible refine' s_rI0 ?_
  | with_reducible refine' s_ret ?_
  | with_reducible refine' s_test ?_
  | with_reducible refine' s_ifS ?_
  | with_reducible refine' s_call ?_
  | with_reducible refine' s_cb ?_
  | ((with_reducible refine' s_rEq ?vch ?_); (case vch => exact rfl))
  | ((with_reducible refine' s_rNe ?vch ?_); (case vch => exact rfl))
  | ((with_reducible refine' s_ixT ?vch ?vca ?_); (case vch => walk_at "sq"); (case vca => first | exact rfl | exact at_nat 0 rfl | exact at_nat 1 rfl | exact at_nat 2 rfl | exact at_nat 3 rfl | exact at_nat 4 rfl))
  | ((with_reducible refine' s_ixL ?vch ?vca ?_); (case vch => walk_at "sq"); (case vca => first | exact rfl | exact at_nat 0 rfl | exact at_nat 1 rfl | exact at_nat 2 rfl | exact at_nat 3 rfl | exact at_nat 4 rfl))
  | with_reducible refine iteT' ?_
  | with_reducible refine iteF' ?_
  | with_reducible refine' ex_bl ?_
  | with_reducible refine' ex_int ?_
  | with_reducible refine' ex_str ?_
  | with_reducible refine' ex_int1 ?_
  | with_reducible refine' ex_str1 ?_
  | with_reducible refine' ex_int2 ?_
  | with_reducible refine' ex_pair ?_
  | with_reducible refine' s_un ?_
  | with_reducible refine' s_B ?_
  | with_reducible refine' s_andV ?_
  | with_reducible refine' s_orV ?_
  | with_reducible refine' s_notV ?_
  | with_reducible refine' s_and ?_
  | with_reducible refine' s_or ?_
  | with_reducible refine' s_not ?_
  | with_reducible refine' s_if ?_
  | with_reducible refine' s_chain ?_
  | with_reducible refine' s_next ?_
  | with_reducible refine' s_break ?_
  | with_reducible refine' s_cont ?_
  | with_reducible refine' s_drop ?_
  | with_reducible refine' s_retN ?_
  | with_reducible refine' s_par ?_
  | ((with_reducible refine' s_aug ?vch ?_); (case vch => exact rfl))
  | with_reducible refine' s_ip ?_
  | with_reducible refine' s_gcons ?_
  | with_reducible refine' s_gnil ?_
  | ((with_reducible refine' s_gtup ?vch ?vca ?_); (case vch => walk_at "sq"); (case vca => exact rfl))
  | with_reducible refine' s_tup ?_
  | with_reducible refine' s_lst ?_
  | with_reducible refine' s_sl ?_
  | with_reducible refine' s_part ?_
  | with_reducible refine' s_nopart ?_
  | with_reducible refine' s_fld ?_
  | with_reducible refine' s_make ?_
  | with_reducible refine' s_meth ?_
  | with_reducible refine' s_prop ?_
  | with_reducible refine' s_makeK ?_
  | with_reducible refine' s_gsub ?_
  | ((with_reducible refine' s_setL ?vch ?vca ?_); (case vch => walk_at "hp"); (case vca => exact rfl))
  | with_reducible refine' s_par3 ?_
  | with_reducible refine' ex_three ?_
  | with_reducible refine' s_star ?_
  | with_reducible refine' s_dnewK ?_
  | with_reducible refine' s_dsetd ?_
  | with_reducible refine' s_methR ?_
  | with_reducible refine' s_fldaug ?_
  | with_reducible refine' s_dictzip ?_
  | with_reducible refine' s_sfld ?_
  | with_reducible refine' s_bm ?_
  | with_reducible refine' s_bm0 ?_
  | with_reducible refine' s_m1 ?_
  | with_reducible refine' s_dget ?_
  | with_reducible refine' s_lc ?_
  | with_reducible refine' s_for ?_
  | with_reducible refine' s_iList ?_
  | with_reducible refine' s_iTup ?_
  | with_reducible refine' s_iStr ?_
  | with_reducible refine' s_iRng1 ?_
  | with_reducible refine' s_iRng2 ?_
  | with_reducible refine' s_yes ?_
  | with_reducible refine' s_rU ?_
  | ((with_reducible refine' s_isiP ?vch ?_); (case vch => exact rfl))
  | ((with_reducible refine' ex_lenL ?vch ?_); (case vch => walk_at "sq"))
  | ((with_reducible refine' ex_lenT ?vch ?_); (case vch => walk_at "sq"))
  | ((with_reducible refine' ex_tupL ?vch ?_); (case vch => walk_at "sq"))
  | ((with_reducible refine' ex_lstT ?vch ?_); (case vch => walk_at "sq"))
  | ((with_reducible refine' ex_srcL ?vch ?_); (case vch => walk_at "sq"))
  | ((with_reducible refine' ex_srcT ?vch ?_); (case vch => walk_at "sq"))
  | ((with_reducible refine' s_mk ?vch ?_); (case vch => exact small_le (Nat.le_of_ble_eq_true rfl)))
  | with_reducible refine' ⟨_, _, rfl, rfl, ?_⟩
  | with_reducible refine' ⟨⟨_, rfl⟩, ?_⟩
  | with_reducible refine' ⟨rfl, ?_⟩
  | ((with_reducible refine' iteT_of ?vch ?_); (case vch => exact rfl))
  | ((with_reducible refine' iteF_of ?vch ?_); (case vch => exact rfl)))
local macro_rules | `(tactic| walk_at "vc") => `(tactic| repeat walk_at "v1")
/-! ### has_only, is_name, is_array -/
def onlyB (t s : Str) : Bool := t.cps.toList.all fun c => decide (c ∈ s.cps.toList)
theorem range_all (p : Nat → Bool) (d : Nat) : ∀ l : List Nat, ((List.range l.length).map fun i => p (l.getD i d)).all id = l.all p := by
  intro l
  have e : (List.range l.length).map (fun i => p (l.getD i d)) = l.map p := by
    apply List.ext_getElem
    · simp
    · intro i h1 h2
      simp only [List.length_map] at h2
      simp [h2]
  rw [e, List.all_map]
  rfl
def spHasOnly : Sp := fun vs H Q _ => ∃ t s : Str, vs = [.str t, .str s] ∧ t.length ≤ 1000 ∧ ∀ H', Ex H H' → Q (.bl (onlyB t s)) H'
section
variable {P : Program} {w : World} {K : PySem.W.Frag} {mg : Str → Option Value} {base : Heap}
theorem sc_has_only : FnScope ["text", "signs", "sign"] ["text", "signs"] (defScope s_has_only) := ⟨rfl, rfl, rfl, by decide +kernel, rfl, by decide +kernel, by decide +kernel⟩
theorem D_has_only (Z : Zf K mg) : Df P w K mg base "has_only" (1) ["text", "signs"] spHasOnly := by
  refine def_ok Z 3 rfl (by decide +kernel) sc_has_only (fun _ _ _ _ _ _ us hl => match us, hl with | [_, _], _ => rfl) (fun vs H Q E h => ?_) (fun f cdv A outer s H vs Q E hr h => ⟨_, (pss_one (ps_ret (pe_callB (cr_all rfl) (by rfl) (Z.free "all") (by decide +kernel) (pa_cons (pe_lc (own := [("sign", 2)]) (g := gName 2) (tt := tYes) rfl sc_has_only.nd (pi_str (pv 0)) (blkOk_by (own := [("sign", 2)]) (N := ["text", "signs", "sign"]) (sc := defScope s_has_only) (by decide +kernel)) (fun _ _ _ _ _ => (pgn 2 sc_has_only.nd)) (fun _ _ _ _ _ => pts_nil) (fun _ _ _ _ _ => (pe_cmpR op_in_sign (pv 2) (pv 1) rfl))) pa_nil)))), ?_⟩)
  · obtain ⟨t, s, rfl, _⟩ := h
    rfl
  · obtain ⟨t, s, rfl, hl, q⟩ := h
    walk_at "vc"
    refine lc_ex walk_str (j := 2) (fun i => V.str ⟨#[t.cps.toList.getD i 0]⟩) (fun _ => true) (fun i v _ => v = V.bl (decide (t.cps.toList.getD i 0 ∈ s.cps.toList))) (fun _ _ _ _ _ h => h) ?_ (fun _ _ => trivial) ?_ ?_ ?_ ?_ ?_
    · rintro i H1 x H2 hi ⟨e, c, hc, hx⟩
      refine ⟨e, ?_⟩
      rw [hx]
      have q2 : t.cps.toList[i]? = some c := by rw [Array.getElem?_toList]; exact hc
      rw [List.getD_eq_getElem?_getD, q2]
      rfl
    · exact Nat.le_trans hl (by decide)
    · exact fun _ => rfl
    · intro i H1 _ _ Q1 k
      exact k H1 (Evl.Ex.refl _)
    · intro i H1 _ _ _ Q1 k
      refine ⟨_, rfl, _, rfl, _, _, rfl, rfl, ?_⟩
      exact k _ H1 (Evl.Ex.refl _) rfl
    · intro D ys H' hD e hy hm
      have ey := Made.allVals hm
      refine ⟨D, (List.range t.cps.size).map (fun i => decide (t.cps.toList.getD i 0 ∈ s.cps.toList)), rfl, SqL.of ?_, ?_⟩
      · rw [hy, ey, List.map_map]
        rfl
      · have z := range_all (fun c => decide (c ∈ s.cps.toList)) 0 t.cps.toList
        rw [Array.length_toList] at z
        rw [z]
        exact q H' e
/-- a name, decided -/
def isNameB (t : Str) : Bool := decide (1 ≤ (t.length : Int)) && (decide ((t.length : Int) ≤ 8) && (!inV (.str t) (keywords.map V.str) && onlyB t "abcdefghijklmnopqrstuvwxyz"))
def spIsName : Sp := fun vs H Q _ => ∃ t : Str, vs = [.str t] ∧ t.length ≤ 1000 ∧ ∀ H', Ex H H' → Q (.bl (isNameB t)) H'
theorem sc_is_name : FnScope ["value"] ["value"] (defScope s_is_name) := ⟨rfl, rfl, rfl, by decide +kernel, rfl, by decide +kernel, by decide +kernel⟩
theorem D_is_name (Z : Zf K mg) : Df P w K mg base "is_name" (2) ["value"] spIsName := by
  refine def_ok Z 4 rfl (by decide +kernel) sc_is_name (fun _ _ _ _ _ _ us hl => match us, hl with | [_], _ => rfl) (fun vs H Q E h => ?_) (fun f cdv A outer s H vs Q E hr h => ⟨_, (pss_cons (ps_if (PW.pt (pw_or (pt_not (pt_val (pe_callB call_isiP (by rfl) (Z.free "isinstance") (by decide +kernel) (pa_cons (pv 0) (pa_cons (pe_ty "str" rfl (Z.free "str") (by decide +kernel)) pa_nil))))) (pw_or (pt_not (pt_chain op_le op_le pe_int (pe_callB call_lenS (by rfl) (Z.free "len") (by decide +kernel) (pa_cons (pv 0) pa_nil)) pe_int)) (pw_or1 (pt_cmpR op_in_seq (pv 0) (pe_gref rfl (Z.glo "KEYWORDS")) rfl))))) (pss_one (ps_ret pe_bl)) pss_nil)
      (pss_one (ps_ret (pe_callD (D_has_only Z) hr (by omega) rfl (pa_cons (pv 0) (pa_cons (pe_gstr rfl (Z.str "LETTERS" "abcdefghijklmnopqrstuvwxyz")) pa_nil)))))), ?_⟩)
  · obtain ⟨t, rfl, _⟩ := h
    rfl
  · obtain ⟨t, rfl, hl, q⟩ := h
    walk_at "st"
    refine ⟨small_le (by omega), ?_⟩
    walk_at "st"
    have q' : ∀ H', Ex H H' → Q (.bl (isNameB t)) H' := q
    unfold isNameB at q'
    by_cases c1 : 1 ≤ (t.length : Int)
    · rw [decide_eq_true c1] at q' ⊢
      walk_at "st"
      by_cases c2 : (t.length : Int) ≤ 8
      · rw [decide_eq_true c2] at q' ⊢
        walk_at "st"
        refine ⟨_, _, rfl, .inr (Z.kw _), rfl, (by decide +kernel), _, rfl, ?_⟩
        cases c3 : inV (.str t) (keywords.map V.str) with
        | true =>
          rw [c3] at q'
          exact q' H (Evl.Ex.refl _)
        | false =>
          rw [c3] at q'
          walk_at "st"
          refine ⟨_, _, rfl, hl, fun H' e => ?_⟩
          exact q' H' e
      · rw [decide_eq_false c2] at q' ⊢
        walk_at "st"
        exact q' H (Evl.Ex.refl _)
    · rw [decide_eq_false c1] at q' ⊢
      walk_at "st"
      exact q' H (Evl.Ex.refl _)
/-- the letter of an array -/
def spIsArray : Sp := fun vs H Q _ => ∃ c : Nat, vs = [.str ⟨#[c]⟩] ∧ Q (.bl (decide (c ∈ ("ABCDEFGHIJKLMNOPQRSTUVWXYZ" : Str).cps.toList))) H
theorem sc_is_array : FnScope ["value"] ["value"] (defScope s_is_array) := ⟨rfl, rfl, rfl, by decide +kernel, rfl, by decide +kernel, by decide +kernel⟩
theorem D_is_array (Z : Zf K mg) : Df P w K mg base "is_array" (1) ["value"] spIsArray := by
  refine def_ok Z 5 rfl (by decide +kernel) sc_is_array (fun _ _ _ _ _ _ us hl => match us, hl with | [_], _ => rfl) (fun vs H Q E h => ?_) (fun f cdv A outer s H vs Q E hr h => ⟨_, (pss_one (ps_ret (pe_and (pe_callB call_isiP (by rfl) (Z.free "isinstance") (by decide +kernel) (pa_cons (pv 0) (pa_cons (pe_ty "str" rfl (Z.free "str") (by decide +kernel)) pa_nil))) (pe_and (pe_cmpR op_eq (pe_callB call_lenS (by rfl) (Z.free "len") (by decide +kernel) (pa_cons (pv 0) pa_nil)) pe_int (nomark _)) (pe_one (pe_cmpR op_in_sign (pv 0) (pe_gstr rfl (Z.str "CAPITALS" "ABCDEFGHIJKLMNOPQRSTUVWXYZ")) rfl)))))), ?_⟩)
  · obtain ⟨c, rfl, _⟩ := h
    rfl
  · obtain ⟨c, rfl, q⟩ := h
    walk_at "st"
    refine ⟨small_le (by show 1 ≤ 1000000; decide), ?_⟩
    walk_at "st"
    exact q
end
end Ov
/-! text OvV3 -/
set_option Elab.async false
set_option linter.all false
set_option maxRecDepth 100000
namespace Ov
open PySem PySem.Spec PyProof.Rows L2
local macro_rules | `(tactic| walk_at "hp") => `(tactic| first
  | assumption
  | exact upd_same
  | (refine Evl.Ex.new (by assumption) _ _ ?_; walk_at "hp")
  | (refine (by assumption : Evl.Ex _ _) _ _ ?_; walk_at "hp"))
local macro_rules | `(tactic| walk_at "sq") => `(tactic| first
  | assumption
  | exact SqL.of (by walk_at "hp")
  | exact SqT.of (by walk_at "hp")
  | (refine Evl.ex_l (by assumption) ?_; walk_at "sq")
  | (refine Evl.ex_t (by assumption) ?_; walk_at "sq")
  | (refine Evl.ex_l (Evl.Ex.new (by assumption)) ?_; walk_at "sq")
  | (refine Evl.ex_t (Evl.Ex.new (by assumption)) ?_; walk_at "sq"))
local macro_rules | `(tactic| walk_at "ex") => `(tactic| first
  | assumption
  | exact Evl.Ex.refl _
  | (refine Evl.Ex.trans ?_ (Evl.Ex.new (by assumption)); walk_at "ex")
  | (refine Evl.Ex.trans ?_ (by assumption); walk_at "ex"))
local macro_rules | `(tactic| walk_at "s1") => `(tactic| first
  | refine ⟨_, rfl, ?_⟩
  | refine ⟨rfl, ?_⟩
  | refine ⟨_, _, rfl, rfl, ?_⟩
  | refine ⟨_, _, _, rfl, rfl, ?_⟩)
local macro_rules | `(tactic| walk_at "st") => `(tactic| repeat walk_at "s1")
local macro_rules | `(tactic| walk_at "v1") => `(tactic| first
  | ((with_reducible refine' s_var ?vch ?_); (case vch => exact rfl))
  | with_reducible refine' s_c ?_
  | with_reducible refine' s_seq ?_
  | with_reducible refine' s_asg ?_
  | with_reducible refine' s_name ?_
  | with_reducible refine' s_cons ?_
  | with_reducible refine' s_nil ?_
  | with_reducible refine' s_op ?_
  | with_reducible refine' s_rI0 ?_
  | with_reducible refine' s_ret ?_
  | with_reducible refine' s_test ?_
  | with_reducible refine' s_ifS ?_
  | with_reducible refine' s_call ?_
  | with_reducible refine' s_cb ?_
  | ((with_reducible refine' s_rEq ?vch ?_); (case vch => exact rfl))
  | ((with_reducible refine' s_rNe ?vch ?_); (case vch => exact rfl))
  | ((with_reducible refine' s_ixT ?vch ?vca ?_); (case vch => walk_at "sq"); (case vca => first | exact rfl | exact at_nat 0 rfl | exact at_nat 1 rfl | exact at_nat 2 rfl | exact at_nat 3 rfl | exact at_nat 4 rfl))
  | ((with_reducible refine' s_ixL ?vch ?vca ?_); (case vch => walk_at "sq"); (case vca => first | exact rfl | exact at_nat 0 rfl | exact at_nat 1 rfl | exact at_nat 2 rfl | exact at_nat 3 rfl | exact at_nat 4 rfl))
  | with_reducible refine iteT' ?_
  | with_reducible refine iteF' ?_
  | with_reducible refine' ex_bl ?_
  | with_reducible refine' ex_int ?_
  | with_reducible refine' ex_str ?_
  | with_reducible refine' ex_int1 ?_
  | with_reducible refine' ex_str1 ?_
  | with_reducible refine' ex_int2 ?_
  | with_reducible refine' ex_pair ?_
  | with_reducible refine' s_un ?_
  | with_reducible refine' s_B ?_
  | with_reducible refine' s_andV ?_
  | with_reducible refine' s_orV ?_
  | with_reducible refine' s_notV ?_
  | with_reducible refine' s_and ?_
  | with_reducible refine' s_or ?_
  | with_reducible refine' s_not ?_
  | with_reducible refine' s_if ?_
  | with_reducible refine' s_chain ?_
  | with_reducible refine' s_next ?_
  | with_reducible refine' s_break ?_
  | with_reducible refine' s_cont ?_
  | with_reducible refine' s_drop ?_
  | with_reducible refine' s_retN ?_
  | with_reducible refine' s_par ?_
  | ((with_reducible refine' s_aug ?vch ?_); (case vch => exact rfl))
  | with_reducible refine' s_ip ?_
  | with_reducible refine' s_gcons ?_
  | with_reducible refine' s_gnil ?_
  | ((with_reducible refine' s_gtup ?vch ?vca ?_); (case vch => walk_at "sq"); (case vca => exact rfl))
  | with_reducible refine' s_tup ?_
  | with_reducible refine' s_lst ?_
  | with_reducible refine' s_sl ?_
  | with_reducible refine' s_part ?_
  | with_reducible refine' s_nopart ?_
  | with_reducible refine' s_fld ?_
  | with_reducible refine' s_make ?_
  | with_reducible refine' s_meth ?_
  | with_reducible refine' s_prop ?_
  | with_reducible refine' s_makeK ?_
  | with_reducible refine' s_gsub ?_
  | ((with_reducible refine' s_setL ?vch ?vca ?_); (case vch => walk_at "hp"); (case vca => exact rfl))
  | with_reducible refine' s_par3 ?_
  | with_reducible refine' ex_three ?_
  | with_reducible refine' s_star ?_
  | with_reducible refine' s_dnewK ?_
  | with_reducible refine' s_dsetd ?_
  | with_reducible refine' s_methR ?_
  | with_reducible refine' s_fldaug ?_
  | with_reducible refine' s_dictzip ?_
  | with_reducible refine' s_sfld ?_
  | with_reducible refine' s_bm ?_
  | with_reducible refine' s_bm0 ?_
  | with_reducible refine' s_m1 ?_
  | with_reducible refine' s_dget ?_
  | with_reducible refine' s_lc ?_
  | with_reducible refine' s_for ?_
  | with_reducible refine' s_iList ?_
  | with_reducible refine' s_iTup ?_
  | with_reducible refine' s_iStr ?_
  | with_reducible refine' s_iRng1 ?_
  | with_reducible refine' s_iRng2 ?_
  | with_reducible refine' s_yes ?_
  | with_reducible refine' s_rU ?_
  | ((with_reducible refine' s_isiP ?vch ?_); (case vch => exact rfl))
  | ((with_reducible refine' ex_lenL ?vch ?_); (case vch => walk_at "sq"))
  | ((with_reducible refine' ex_lenT ?vch ?_); (case vch => walk_at "sq"))
  | ((with_reducible refine' ex_tupL ?vch ?_); (case vch => walk_at "sq"))
  | ((with_reducible refine' ex_lstT ?vch ?_); (case vch => walk_at "sq"))
  | ((with_reducible refine' ex_srcL ?vch ?_); (case vch => walk_at "sq"))
  | ((with_reducible refine' ex_srcT ?vch ?_); (case vch => walk_at "sq"))
  | ((with_reducible refine' s_mk ?vch ?_); (case vch => exact small_le (Nat.le_of_ble_eq_true rfl)))
  | with_reducible refine' ⟨_, _, rfl, rfl, ?_⟩
  | with_reducible refine' ⟨⟨_, rfl⟩, ?_⟩
  | with_reducible refine' ⟨rfl, ?_⟩
  | ((with_reducible refine' iteT_of ?vch ?_); (case vch => exact rfl))
  | ((with_reducible refine' iteF_of ?vch ?_); (case vch => exact rfl)))
local macro_rules | `(tactic| walk_at "vc") => `(tactic| repeat walk_at "v1")
/-! ### numbers written -/
def num (n : Int) : Str := Str.ofString (toString n)
def digs (t : Str) : Str := if Txt.startswith t "-" = true then cutS t (some 1) none else t
def numFacts (n : Int) : Bool := decide (1 ≤ (digs (num n)).length) && (decide ((digs (num n)).length ≤ 60) && (onlyB (digs (num n)) "0123456789" && (decide ((num n).length ≤ 60) && (decide (PySem.intText? (num n) = some n) &&
  (match (digs (num n)).cps.toList[0]? with
    | some c => decide (c ≠ 48) || decide (num n = ("0" : Str))
    | none => false)))))
theorem num_all : (List.range 17).all (fun k => numFacts ((k : Int) - 4)) = true := by decide +kernel
theorem num_facts {n : Int} (h1 : -4 ≤ n) (h2 : n ≤ 12) : 1 ≤ (digs (num n)).length ∧ (digs (num n)).length ≤ 60 ∧ onlyB (digs (num n)) "0123456789" = true ∧ (num n).length ≤ 60 ∧ PySem.intText? (num n) = some n ∧ ∃ c, atI (digs (num n)).cps.toList 0 = some c ∧ (c = 48 → num n = ("0" : Str)) := by
  have q := List.all_eq_true.mp num_all (n + 4).toNat (List.mem_range.mpr (by omega))
  have e : (((n + 4).toNat : Nat) : Int) - 4 = n := by omega
  simp only [e, numFacts, Bool.and_eq_true, decide_eq_true_eq] at q
  obtain ⟨q1, q2, q3, q4, q5, q6⟩ := q
  refine ⟨q1, q2, q3, q4, q5, ?_⟩
  cases c : (digs (num n)).cps.toList[0]? with
  | none => rw [c] at q6; cases q6
  | some d =>
    rw [c] at q6
    refine ⟨d, atI_nat (j := 0) c, fun e48 => ?_⟩
    simp only [Bool.or_eq_true, decide_eq_true_eq] at q6
    exact q6.resolve_left fun z => z e48
def spNumeral : Sp := fun vs H Q _ => ∃ n : Int, vs = [.str (num n)] ∧ -4 ≤ n ∧ n ≤ 12 ∧ ∀ H', Ex H H' → Q (.int n) H'
section
variable {P : Program} {w : World} {K : PySem.W.Frag} {mg : Str → Option Value} {base : Heap}
theorem sc_numeral_in : FnScope ["text", "digits"] ["text"] (defScope s_numeral_in) := ⟨rfl, rfl, rfl, by decide +kernel, rfl, by decide +kernel, by decide +kernel⟩
theorem D_numeral_in (Z : Zf K mg) : Df P w K mg base "numeral_in" (2) ["text"] spNumeral := by
  refine def_ok Z 6 rfl (by decide +kernel) sc_numeral_in (fun _ _ _ _ _ _ us hl => match us, hl with | [_], _ => rfl) (fun vs H Q E h => ?_) (fun f cdv A outer s H vs Q E hr h => ⟨_, (pss_cons (ps_asg (pe_ifExp (pt_val (pe_m1 PySem.F.slot_str_startswith PySem.F.type_str_startswith mt_startswith (pv 0) pe_str)) (pe_slice sl_str (pv 0) (po_some pe_int) po_none) (pv 0)) (pgn 1 sc_numeral_in.nd))
      (pss_cons (ps_if (PW.pt (pw_or (pt_not (pt_chain op_le op_le pe_int (pe_callB call_lenS (by rfl) (Z.free "len") (by decide +kernel) (pa_cons (pv 1) pa_nil)) pe_int)) (pw_or1 (pt_not (pt_val (pe_callD (D_has_only Z) hr (by omega) rfl (pa_cons (pv 1) (pa_cons (pe_gstr rfl (Z.str "DIGITS" "0123456789")) pa_nil)))))))) (pss_one (ps_ret pe_non)) pss_nil)
      (pss_cons (ps_if (PW.pt (pw_and (pt_cmpR op_eq (pe_ix ix_str (pv 1) pe_int (fun _ _ => rfl)) pe_str (nomark _)) (pw_and1 (pt_cmpR op_ne (pv 0) pe_str (nomark _))))) (pss_one (ps_ret pe_non)) pss_nil)
      (pss_one (ps_ret (pe_callTy call_int_str (by rfl) (Z.free "int") (by decide +kernel) (pa_cons (pv 0) pa_nil))))))), ?_⟩)
  · obtain ⟨n, rfl, _⟩ := h
    rfl
  · obtain ⟨n, rfl, h1, h2, q⟩ := h
    obtain ⟨f1, f2, f3, f4, f5, c, f6, f7⟩ := num_facts h1 h2
    walk_at "vc"
    have hd : ∀ b, Txt.startswith (num n) ("-" : Str) = b → digs (num n) = if b = true then cutS (num n) (some 1) none else num n := fun b e => by
      unfold digs
      rw [e]
    generalize hb : Txt.startswith (num n) ("-" : Str) = b
    have e := hd b hb
    rcases b with _ | _
    · have e' : digs (num n) = num n := e
      walk_at "vc"
      rw [e'] at f1 f2 f3 f6
      refine ⟨small_le (by omega), ?_⟩
      walk_at "vc"
      refine iteT_of (decide_eq_true (by omega)) ?_
      walk_at "vc"
      refine iteF_of (by rw [decide_eq_true (by omega)]; rfl) ?_
      walk_at "vc"
      refine ⟨_, _, rfl, (by omega), fun H1 e1 => ?_⟩
      walk_at "vc"
      refine iteF_of (by rw [f3]; rfl) ?_
      walk_at "vc"
      refine s_ixS (small_le (by omega)) f6 ?_
      walk_at "vc"
      cases hc : decide (V.str ⟨#[c]⟩ = V.str ("0" : Str)) with
      | true =>
        have q48 : c = 48 := by
          have z := V.str.inj (of_decide_eq_true hc)
          have z2 : (⟨#[c]⟩ : Str) = ⟨#[48]⟩ := z.trans (by decide +kernel)
          simpa using z2
        walk_at "vc"
        refine iteF_of (by rw [f7 q48]; decide +kernel) ?_
        walk_at "vc"
        exact ⟨_, _, rfl, f5, by omega, q _ e1⟩
      | false =>
        walk_at "vc"
        exact ⟨_, _, rfl, f5, by omega, q _ e1⟩
    · have e' : digs (num n) = cutS (num n) (some 1) none := e
      walk_at "vc"
      refine s_slS (small_le (by omega)) ?_
      rw [← e']
      walk_at "vc"
      refine ⟨small_le (by omega), ?_⟩
      walk_at "vc"
      refine iteT_of (decide_eq_true (by omega)) ?_
      walk_at "vc"
      refine iteF_of (by rw [decide_eq_true (by omega)]; rfl) ?_
      walk_at "vc"
      refine ⟨_, _, rfl, (by omega), fun H1 e1 => ?_⟩
      walk_at "vc"
      refine iteF_of (by rw [f3]; rfl) ?_
      walk_at "vc"
      refine s_ixS (small_le (by omega)) f6 ?_
      walk_at "vc"
      cases hc : decide (V.str ⟨#[c]⟩ = V.str ("0" : Str)) with
      | true =>
        have q48 : c = 48 := by
          have z := V.str.inj (of_decide_eq_true hc)
          have z2 : (⟨#[c]⟩ : Str) = ⟨#[48]⟩ := z.trans (by decide +kernel)
          simpa using z2
        walk_at "vc"
        refine iteF_of (by rw [f7 q48]; decide +kernel) ?_
        walk_at "vc"
        exact ⟨_, _, rfl, f5, by omega, q _ e1⟩
      | false =>
        walk_at "vc"
        exact ⟨_, _, rfl, f5, by omega, q _ e1⟩
def spNumberIn : Sp := fun vs H Q _ => ∃ n lo hi : Int, vs = [.str (num n), .int lo, .int hi] ∧ -4 ≤ n ∧ n ≤ 12 ∧ lo ≤ n ∧ n ≤ hi ∧ ∀ H', Ex H H' → Q (.int n) H'
theorem sc_number_in : FnScope ["text", "least", "most", "found"] ["text", "least", "most"] (defScope s_number_in) := ⟨rfl, rfl, rfl, by decide +kernel, rfl, by decide +kernel, by decide +kernel⟩
theorem D_number_in (Z : Zf K mg) : Df P w K mg base "number_in" (3) ["text", "least", "most"] spNumberIn := by
  refine def_ok Z 7 rfl (by decide +kernel) sc_number_in (fun _ _ _ _ _ _ us hl => match us, hl with | [_, _, _], _ => rfl) (fun vs H Q E h => ?_) (fun f cdv A outer s H vs Q E hr h => ⟨_, (pss_cons (ps_asg (pe_callD (D_numeral_in Z) hr (by omega) rfl (pa_cons (pv 0) pa_nil)) (pgn 3 sc_number_in.nd))
      (pss_one (ps_ret (pe_ifExp (PW.pt (pw_and (pt_cmpR op_notN (pv 3) pe_non (nomark _)) (pw_and1 (pt_chain op_le op_le (pv 1) (pv 3) (pv 2))))) (pv 3) pe_non)))), ?_⟩)
  · obtain ⟨n, lo, hi, rfl, _⟩ := h
    rfl
  · obtain ⟨n, lo, hi, rfl, h1, h2, h3, h4, q⟩ := h
    walk_at "vc"
    refine ⟨n, rfl, h1, h2, fun H1 e1 => ?_⟩
    walk_at "vc"
    refine iteT_of (decide_eq_true h3) ?_
    walk_at "vc"
    refine iteT_of (decide_eq_true h4) ?_
    walk_at "vc"
    exact q _ e1
def spOffsetIn : Sp := fun vs H Q _ => ∃ n : Int, vs = [.str (num n)] ∧ -4 ≤ n ∧ n ≤ 4 ∧ ∀ H', Ex H H' → Q (.int n) H'
theorem sc_offset_in : FnScope ["word"] ["word"] (defScope s_offset_in) := ⟨rfl, rfl, rfl, by decide +kernel, rfl, by decide +kernel, by decide +kernel⟩
theorem D_offset_in (Z : Zf K mg) : Df P w K mg base "offset_in" (4) ["word"] spOffsetIn := by
  refine def_ok Z 14 rfl (by decide +kernel) sc_offset_in (fun _ _ _ _ _ _ us hl => match us, hl with | [_], _ => rfl) (fun vs H Q E h => ?_) (fun f cdv A outer s H vs Q E hr h => ⟨_, (pss_one (ps_ret (pe_callD (D_number_in Z) hr (by omega) rfl (pa_cons (pv 0) (pa_cons (pe_un un_neg (pe_gint rfl (Z.int "MOST_OFFSET" 4))) (pa_cons (pe_gint rfl (Z.int "MOST_OFFSET" 4)) pa_nil)))))), ?_⟩)
  · obtain ⟨n, rfl, _⟩ := h
    rfl
  · obtain ⟨n, rfl, h1, h2, q⟩ := h
    walk_at "vc"
    exact ⟨n, _, _, rfl, h1, by omega, h1, h2, q⟩
/-! ### a first value -/
def spFirst : Sp := fun vs H Q _ => vs = [.str "x@1"] ∧ ∀ p H', Ex H H' → Q (.ref p) H'
theorem sc_first_value_in : FnScope ["text", "name", "sign", "distance"] ["text"] (defScope s_first_value_in) := ⟨rfl, rfl, rfl, by decide +kernel, rfl, by decide +kernel, by decide +kernel⟩
theorem D_first_value_in (Z : Zf K mg) : Df P w K mg base "first_value_in" (3) ["text"] spFirst := by
  refine def_ok Z 8 rfl (by decide +kernel) sc_first_value_in (fun _ _ _ _ _ _ us hl => match us, hl with | [_], _ => rfl) (fun vs H Q E h => ?_) (fun f cdv A outer s H vs Q E hr h => ⟨_, (pss_cons (ps_asg (pe_partition (pv 0) pe_str) (pg_tup (by rfl) (pgs_cons (pgn 1 sc_first_value_in.nd) (pgs_cons (pgn 2 sc_first_value_in.nd) (pgs_cons (pgn 3 sc_first_value_in.nd) pgs_nil)))))
      (pss_cons (ps_if (PW.pt (pw_or (pt_cmpR op_eq (pv 2) pe_str (nomark _)) (pw_or (pt_not (pt_val (pe_callD (D_is_name Z) hr (by omega) rfl (pa_cons (pv 1) pa_nil)))) (pw_or1 (pt_cmpR op_notIn_seq (pv 3) (pe_tup (pa_cons pe_str (pa_cons pe_str (pa_cons pe_str pa_nil)))) rfl))))) (pss_one (ps_ret pe_non)) pss_nil)
      (pss_one (ps_ret (pe_tup (pa_cons (pv 1) (pa_cons (pe_callTy call_int_str (by rfl) (Z.free "int") (by decide +kernel) (pa_cons (pv 3) pa_nil)) pa_nil))))))), ?_⟩)
  · obtain ⟨rfl, _⟩ := h
    rfl
  · obtain ⟨rfl, q⟩ := h
    walk_at "vc"
    intro p hp
    have ep : (Txt.partition ("x@1" : Str) "@").1 = ("x" : Str) ∧ (Txt.partition ("x@1" : Str) "@").2.1 = ("@" : Str) ∧ (Txt.partition ("x@1" : Str) "@").2.2 = ("1" : Str) := by decide +kernel
    rw [ep.1, ep.2.1, ep.2.2]
    walk_at "vc"
    refine ⟨_, rfl, (by decide +kernel), fun H1 e1 => ?_⟩
    have en : isNameB "x" = true := by decide +kernel
    rw [en]
    walk_at "vc"
    intro p2 hp2
    refine s_rIn (.inr (SqT.of upd_same)) rfl rfl ?_
    walk_at "vc"
    refine ⟨_, 1, rfl, (by decide +kernel), (by decide +kernel), ?_⟩
    walk_at "vc"
    intro p3 hp3
    exact q p3 _ (by walk_at "ex")
end
end Ov
/-! text OvWords -/
set_option Elab.async false
set_option linter.all false
set_option maxRecDepth 100000
/-! A program's text as lines of words. -/
namespace Ov
open PySem PySem.Spec PyProof.Rows L2
open Rows TL
/-! ### slices -/
theorem cut_from (xs : List V) (k : Nat) : cutV xs (some (k : Int)) none = xs.drop k := by
  unfold cutV
  rw [HT.sIx_none, HT.sIx_nat]
  by_cases c : k ≤ xs.length
  · rw [Nat.min_eq_left c, List.take_of_length_le (by rw [List.length_drop]; omega)]
  · rw [Nat.min_eq_right (by omega), List.drop_eq_nil_of_le (Nat.le_refl _), List.drop_eq_nil_of_le (by omega)]
    simp
theorem cut_to (xs : List V) (k : Nat) : cutV xs none (some (k : Int)) = xs.take k := by
  unfold cutV
  rw [HT.sIx_none, HT.sIx_nat, List.drop_zero, Nat.sub_zero]
  by_cases c : k ≤ xs.length
  · rw [Nat.min_eq_left c]
  · rw [Nat.min_eq_right (by omega), List.take_of_length_le (Nat.le_refl _), List.take_of_length_le (by omega)]
theorem cut_but (xs : List V) (y : V) : cutV (xs ++ [y]) none (some (-1)) = xs := by
  unfold cutV
  have e : ∀ d, HT.sIx (xs ++ [y]).length d (some (-1)) = xs.length := fun d => by
    show (if (-1 : Int) < 0 then ((-1 : Int) + ((xs ++ [y]).length : Int)).toNat else min (-1 : Int).toNat (xs ++ [y]).length) = xs.length
    rw [if_pos (by decide), List.length_append, List.length_singleton]
    omega
  rw [e, HT.sIx_none, List.drop_zero, Nat.sub_zero, List.take_left]
theorem at_last (xs : List V) (y : V) : atI (xs ++ [y]) (-1) = some y := by
  have e : ixN (xs ++ [y]).length (-1) = some xs.length := by
    unfold ixN
    rw [if_neg (by decide), if_pos (by rw [List.length_append, List.length_singleton]; omega), List.length_append, List.length_singleton]
    congr 1
    omega
  unfold atI
  rw [e]
  show (xs ++ [y])[xs.length]? = some y
  rw [List.getElem?_append_right (Nat.le_refl _), Nat.sub_self]
  rfl
/-! ### words -/
def lets : List Nat := (List.range 26).map (· + 97)
def spotsL : List Str := lets.map (fun c => (⟨#[c]⟩ : Str)) ++ lets.map (fun c => (⟨Array.replicate 8 c⟩ : Str))
def Spot (z : Str) : Prop := z ∈ spotsL
def wdB (z : Str) : Bool := decide (32 ∉ tl z) && (decide (10 ∉ tl z) && (decide (z.length ≤ 60) && z.cps.all (· < 0x110000)))
def marks : List Str := ["load", "store", "take", "step", "if", "else", "while", "end", "out", "="]
theorem spots_all : (spotsL.all fun z => isNameB z && (wdB z && decide (z ∉ marks))) = true := by decide +kernel
theorem Spot.facts {z : Str} (h : Spot z) : isNameB z = true ∧ wdB z = true ∧ z ∉ marks := by
  have q := List.all_eq_true.mp spots_all z h
  simp only [Bool.and_eq_true, decide_eq_true_eq] at q
  exact q
theorem wd_len {z : Str} (h : wdB z = true) : z.length ≤ 60 := by
  simp only [wdB, Bool.and_eq_true, decide_eq_true_eq] at h
  exact h.2.2.1
theorem wd_ok {z : Str} (h : wdB z = true) : z.cps.all (· < 0x110000) = true := by
  simp only [wdB, Bool.and_eq_true] at h
  exact h.2.2.2
theorem Spot.len {z : Str} (h : Spot z) : z.length ≤ 1000 := Nat.le_trans (wd_len h.facts.2.1) (by decide)
theorem spot_one {c : Nat} (h1 : 97 ≤ c) (h2 : c ≤ 122) : Spot ⟨#[c]⟩ := by
  refine List.mem_append_left _ (List.mem_map.mpr ⟨c, List.mem_map.mpr ⟨c - 97, List.mem_range.mpr (by omega), by omega⟩, rfl⟩)
theorem spot_many {c : Nat} (h1 : 97 ≤ c) (h2 : c ≤ 122) : Spot ⟨Array.replicate 8 c⟩ := by
  refine List.mem_append_right _ (List.mem_map.mpr ⟨c, List.mem_map.mpr ⟨c - 97, List.mem_range.mpr (by omega), by omega⟩, rfl⟩)
theorem caps_all : ((List.range 26).all fun k => decide (k + 65 ∈ ("ABCDEFGHIJKLMNOPQRSTUVWXYZ" : Str).cps.toList) && wdB ⟨#[k + 65]⟩) = true := by decide +kernel
theorem cap_facts {c : Nat} (h1 : 65 ≤ c) (h2 : c ≤ 90) : c ∈ ("ABCDEFGHIJKLMNOPQRSTUVWXYZ" : Str).cps.toList ∧ wdB ⟨#[c]⟩ = true := by
  have q := List.all_eq_true.mp caps_all (c - 65) (List.mem_range.mpr (by omega))
  rw [show c - 65 + 65 = c by omega] at q
  simp only [Bool.and_eq_true, decide_eq_true_eq] at q
  exact q
theorem nums_all : ((List.range 17).all fun k => wdB (num ((k : Int) - 4))) = true := by decide +kernel
theorem num_wd {n : Int} (h1 : -4 ≤ n) (h2 : n ≤ 12) : wdB (num n) = true := by
  have q := List.all_eq_true.mp nums_all (n + 4).toNat (List.mem_range.mpr (by omega))
  rw [show (((n + 4).toNat : Nat) : Int) - 4 = n by omega] at q
  exact q
/-- a line of the law's programs -/
def LnOk : Ln → Prop
  | .work x f as => Spot x ∧ (∃ c, 97 ≤ c ∧ c ≤ 122 ∧ f = ⟨#[c]⟩ ∧ as.length = 1 + (122 - c) / 9) ∧ ∀ a ∈ as, Spot a
  | .load x a o => Spot x ∧ (∃ c, 65 ≤ c ∧ c ≤ 90 ∧ a = ⟨#[c]⟩) ∧ -4 ≤ o ∧ o ≤ 4
  | .store a o x => Spot x ∧ (∃ c, 65 ≤ c ∧ c ≤ 90 ∧ a = ⟨#[c]⟩) ∧ -4 ≤ o ∧ o ≤ 4
  | .copy x y => Spot x ∧ Spot y
  | .step n => 1 ≤ n ∧ n ≤ 4
def lw : Ln → List Str
  | .work x f as => x :: "=" :: f :: as
  | .load x a o => [x, "=", "load", a, num o]
  | .store a o x => ["store", a, num o, x]
  | .copy x y => [x, "=", y]
  | .step n => ["step", num n]
/-- the lines, each as its words -/
def wl : Rows → List (List Str)
  | .nil => []
  | .line l r => lw l :: wl r
  | .iff b e one two r => (["if", num b] : List Str) :: (wl one ++ ((if e then (["else"] : List Str) :: wl two else []) ++ ((["end"] : List Str) :: wl r)))
  | .whl b body r => (["while", num b] : List Str) :: (wl body ++ ((["end"] : List Str) :: wl r))
theorem wl_len : ∀ r : Rows, (wl r).length = nl r
  | .nil => rfl
  | .line l r => by
    show (wl r).length + 1 = 1 + nl r
    rw [wl_len r]; omega
  | .iff b e one two r => by
    simp only [wl, nl, List.length_cons, List.length_append, wl_len one, wl_len r]
    cases e <;> simp [wl_len two] <;> omega
  | .whl b body r => by
    simp only [wl, nl, List.length_cons, List.length_append, wl_len body, wl_len r]
    omega
/-- a line of good words -/
def LineOk (ws : List Str) : Prop := ws ≠ [] ∧ ws.length ≤ 8 ∧ ∀ z ∈ ws, wdB z = true
theorem lw_ok {l : Ln} (h : LnOk l) : LineOk (lw l) := by
  cases l with
  | work x f as =>
    obtain ⟨h1, ⟨c, c1, c2, rfl, hl⟩, h3⟩ := h
    refine ⟨by simp [lw], by simp only [lw, List.length_cons]; omega, fun z hz => ?_⟩
    simp only [lw, List.mem_cons] at hz
    rcases hz with rfl | rfl | rfl | hz
    · exact h1.facts.2.1
    · decide +kernel
    · exact (spot_one c1 c2).facts.2.1
    · exact (h3 z hz).facts.2.1
  | load x a o =>
    obtain ⟨h1, ⟨c, c1, c2, rfl⟩, h3, h4⟩ := h
    refine ⟨by simp [lw], by simp [lw], fun z hz => ?_⟩
    simp only [lw, List.mem_cons, List.not_mem_nil, or_false] at hz
    rcases hz with rfl | rfl | rfl | rfl | rfl
    · exact h1.facts.2.1
    · decide +kernel
    · decide +kernel
    · exact (cap_facts c1 c2).2
    · exact num_wd h3 (by omega)
  | store a o x =>
    obtain ⟨h1, ⟨c, c1, c2, rfl⟩, h3, h4⟩ := h
    refine ⟨by simp [lw], by simp [lw], fun z hz => ?_⟩
    simp only [lw, List.mem_cons, List.not_mem_nil, or_false] at hz
    rcases hz with rfl | rfl | rfl | rfl
    · decide +kernel
    · exact (cap_facts c1 c2).2
    · exact num_wd h3 (by omega)
    · exact h1.facts.2.1
  | copy x y =>
    refine ⟨by simp [lw], by simp [lw], fun z hz => ?_⟩
    simp only [lw, List.mem_cons, List.not_mem_nil, or_false] at hz
    rcases hz with rfl | rfl | rfl
    · exact h.1.facts.2.1
    · decide +kernel
    · exact h.2.facts.2.1
  | step n =>
    refine ⟨by simp [lw], by simp [lw], fun z hz => ?_⟩
    simp only [lw, List.mem_cons, List.not_mem_nil, or_false] at hz
    rcases hz with rfl | rfl
    · decide +kernel
    · exact num_wd (by have := h.1; omega) (by have := h.2; omega)
theorem end_ok : LineOk ["end"] := ⟨by simp, by simp, fun z hz => by
  rw [List.mem_singleton.mp hz]; decide +kernel⟩
theorem else_ok : LineOk ["else"] := ⟨by simp, by simp, fun z hz => by
  rw [List.mem_singleton.mp hz]; decide +kernel⟩
theorem head_ok {w : Str} (hw : wdB w = true) {b : Int} (h1 : -4 ≤ b) (h2 : b ≤ 12) : LineOk [w, num b] := ⟨by simp, by simp, fun z hz => by
  rcases List.mem_cons.mp hz with rfl | hz
  · exact hw
  · rw [List.mem_singleton.mp hz]; exact num_wd h1 h2⟩
theorem wl_ok : ∀ {r : Rows} {d : Nat}, AllLn LnOk r → Shape r d → ∀ ws ∈ wl r, LineOk ws
  | .nil, _, _, _, ws, h => nomatch h
  | .line l r, d, ha, hs, ws, h => by
    rcases List.mem_cons.mp h with rfl | h
    · exact lw_ok ha.1
    · exact wl_ok ha.2 hs.2 ws h
  | .iff b e one two r, d, ha, hs, ws, h => by
    obtain ⟨b0, b1, _, ⟨d', _, s1, s2⟩, s3⟩ := hs
    obtain ⟨a1, a2, a3⟩ := ha
    simp only [wl, List.mem_cons, List.mem_append] at h
    rcases h with rfl | h | h | rfl | h
    · exact head_ok (by decide +kernel) (by omega) b1
    · exact wl_ok a1 s1 ws h
    · cases e with
      | false => simp at h
      | true =>
        rcases List.mem_cons.mp (by simpa using h) with rfl | h
        · exact else_ok
        · exact wl_ok a2 s2 ws h
    · exact end_ok
    · exact wl_ok a3 s3 ws h
  | .whl b body r, d, ha, hs, ws, h => by
    obtain ⟨b0, b1, _, s1, _, _, s3⟩ := hs
    obtain ⟨a1, a3⟩ := ha
    simp only [wl, List.mem_cons, List.mem_append] at h
    rcases h with rfl | h | rfl | h
    · exact head_ok (by decide +kernel) (by omega) b1
    · exact wl_ok a1 s1 ws h
    · exact end_ok
    · exact wl_ok a3 s3 ws h
/-! ### the text -/
def lineT (ws : List Str) : Str := Txt.join " " ws
def textT (ls : List (List Str)) : Str := Txt.join "\n" (ls.map lineT)
theorem tl_sp : tl " " = [32] := by decide +kernel
theorem tl_nl : tl "\n" = [10] := by decide +kernel
theorem joinL_mem {s : Nat} : ∀ {ps : List (List Nat)} {x : Nat}, x ∈ joinL [s] ps → x = s ∨ ∃ p ∈ ps, x ∈ p
  | [], x, h => nomatch h
  | [p], x, h => .inr ⟨p, List.mem_cons_self, h⟩
  | p :: q :: r, x, h => by
    have h' : x ∈ p ++ ([s] ++ joinL [s] (q :: r)) := h
    rcases List.mem_append.mp h' with h' | h'
    · exact .inr ⟨p, List.mem_cons_self, h'⟩
    · rcases List.mem_append.mp h' with h' | h'
      · exact .inl (List.mem_singleton.mp h')
      · rcases joinL_mem h' with e | ⟨z, hz, hx⟩
        · exact .inl e
        · exact .inr ⟨z, List.mem_cons_of_mem _ hz, hx⟩
theorem joinL_len {s m : Nat} : ∀ {ps : List (List Nat)}, (∀ p ∈ ps, p.length ≤ m) → (joinL [s] ps).length ≤ ps.length * (m + 1)
  | [], _ => Nat.zero_le _
  | [p], h => by
    have := h p List.mem_cons_self
    show p.length ≤ 1 * (m + 1)
    omega
  | p :: q :: r, h => by
    have h1 := h p List.mem_cons_self
    have h2 := joinL_len (s := s) (m := m) (ps := q :: r) fun z hz => h z (List.mem_cons_of_mem _ hz)
    show (p ++ ([s] ++ joinL [s] (q :: r))).length ≤ (q :: r).length.succ * (m + 1)
    rw [List.length_append, List.length_append, List.length_singleton, Nat.succ_mul]
    omega
theorem lineT_no {ws : List Str} (h : LineOk ws) : 10 ∉ tl (lineT ws) := by
  unfold lineT
  rw [join_eq, tl_join, tl_sp]
  intro hm
  rcases joinL_mem hm with e | ⟨p, hp, hx⟩
  · cases e
  · obtain ⟨z, hz, rfl⟩ := List.mem_map.mp hp
    have q := h.2.2 z hz
    simp only [wdB, Bool.and_eq_true, decide_eq_true_eq] at q
    exact q.2.1 hx
theorem lineT_len {ws : List Str} (h : LineOk ws) : (lineT ws).length ≤ 488 := by
  unfold lineT
  rw [len_tl, join_eq, tl_join, tl_sp]
  have q := joinL_len (s := 32) (m := 60) (ps := ws.map tl) fun p hp => by
    obtain ⟨z, hz, rfl⟩ := List.mem_map.mp hp
    rw [← len_tl]
    exact wd_len (h.2.2 z hz)
  rw [List.length_map] at q
  have h8 := h.2.1
  have : ws.length * (60 + 1) ≤ 8 * (60 + 1) := Nat.mul_le_mul_right _ h8
  omega
theorem textT_len {ls : List (List Str)} (h : ∀ ws ∈ ls, LineOk ws) (hl : ls.length ≤ 400) : (textT ls).length ≤ 195600 := by
  unfold textT
  rw [len_tl, join_eq, tl_join, tl_nl]
  have q := joinL_len (s := 10) (m := 488) (ps := (ls.map lineT).map tl) fun p hp => by
    obtain ⟨z, hz, rfl⟩ := List.mem_map.mp hp
    obtain ⟨ws, hw, rfl⟩ := List.mem_map.mp hz
    rw [← len_tl]
    exact lineT_len (h ws hw)
  rw [List.length_map, List.length_map] at q
  have : ls.length * (488 + 1) ≤ 400 * (488 + 1) := Nat.mul_le_mul_right _ hl
  omega
theorem split_lines {ls : List (List Str)} (hn : ls ≠ []) (h : ∀ ws ∈ ls, LineOk ws) : Txt.split (textT ls) "\n" = ls.map lineT := by
  refine split_join (s := 10) (S := []) tl_nl (by decide +kernel) (fun e => hn (List.map_eq_nil_iff.mp e)) fun p hp => ?_
  obtain ⟨ws, hw, rfl⟩ := List.mem_map.mp hp
  exact lineT_no (h ws hw)
theorem split_words {ws : List Str} (h : LineOk ws) : Txt.split (lineT ws) " " = ws := by
  refine split_join (s := 32) (S := []) tl_sp (by decide +kernel) h.1 fun p hp => ?_
  have q := h.2.2 p hp
  simp only [wdB, Bool.and_eq_true, decide_eq_true_eq] at q
  exact q.1
/-! ### the lines in the heap -/
def WordsAt (H : Hp) (p : Addr) (ls : List (List Str)) : Prop := ∃ ps : List Addr, H p = some (.lst (ps.map V.ref)) ∧ ps.length = ls.length ∧ ∀ (i : Nat) (a : Addr) (ws : List Str), ps[i]? = some a → ls[i]? = some ws → H a = some (.lst (ws.map V.str))
theorem WordsAt.mono {H H' : Hp} (e : Ex H H') {p : Addr} {ls : List (List Str)} (h : WordsAt H p ls) : WordsAt H' p ls := let ⟨ps, a, b, c⟩ := h; ⟨ps, e _ _ a, b, fun i a ws h1 h2 => e _ _ (c i a ws h1 h2)⟩
theorem WordsAt.get {H : Hp} {p : Addr} {ls : List (List Str)} (h : WordsAt H p ls) {i : Nat} {ws : List Str} (hi : ls[i]? = some ws) : ∃ (xs : List V) (a : Addr), H p = some (.lst xs) ∧ xs.length = ls.length ∧ atI xs (i : Int) = some (.ref a) ∧ H a = some (.lst (ws.map V.str)) := by
  obtain ⟨ps, h1, h2, h3⟩ := h
  have hlt : i < ps.length := by rw [h2]; exact (List.getElem?_eq_some_iff.mp hi).1
  refine ⟨_, ps[i], h1, by rw [List.length_map]; exact h2, atI_nat ?_, h3 i _ ws (List.getElem?_eq_getElem hlt) hi⟩
  rw [List.getElem?_map, List.getElem?_eq_getElem hlt]
  rfl
end Ov
/-! text OvP1 -/
set_option Elab.async false
set_option linter.all false
set_option maxRecDepth 100000
namespace Ov
open PySem PySem.Spec PyProof.Rows L2
open Rows TL
local macro_rules | `(tactic| walk_at "hp") => `(tactic| first
  | assumption
  | exact upd_same
  | (refine Evl.Ex.new (by assumption) _ _ ?_; walk_at "hp")
  | (refine (by assumption : Evl.Ex _ _) _ _ ?_; walk_at "hp"))
local macro_rules | `(tactic| walk_at "sq") => `(tactic| first
  | assumption
  | exact SqL.of (by walk_at "hp")
  | exact SqT.of (by walk_at "hp")
  | (refine Evl.ex_l (by assumption) ?_; walk_at "sq")
  | (refine Evl.ex_t (by assumption) ?_; walk_at "sq")
  | (refine Evl.ex_l (Evl.Ex.new (by assumption)) ?_; walk_at "sq")
  | (refine Evl.ex_t (Evl.Ex.new (by assumption)) ?_; walk_at "sq"))
local macro_rules | `(tactic| walk_at "ex") => `(tactic| first
  | assumption
  | exact Evl.Ex.refl _
  | (refine Evl.Ex.trans ?_ (Evl.Ex.new (by assumption)); walk_at "ex")
  | (refine Evl.Ex.trans ?_ (by assumption); walk_at "ex"))
local macro_rules | `(tactic| walk_at "s1") => `(tactic| first
  | refine ⟨_, rfl, ?_⟩
  | refine ⟨rfl, ?_⟩
  | refine ⟨_, _, rfl, rfl, ?_⟩
  | refine ⟨_, _, _, rfl, rfl, ?_⟩)
local macro_rules | `(tactic| walk_at "st") => `(tactic| repeat walk_at "s1")
local macro_rules | `(tactic| walk_at "v1") => `(tactic| first
  | ((with_reducible refine' s_var ?vch ?_); (case vch => exact rfl))
  | with_reducible refine' s_c ?_
  | with_reducible refine' s_seq ?_
  | with_reducible refine' s_asg ?_
  | with_reducible refine' s_name ?_
  | with_reducible refine' s_cons ?_
  | with_reducible refine' s_nil ?_
  | with_reducible refine' s_op ?_
  | with_reducible refine' s_rI0 ?_
  | with_reducible refine' s_ret ?_
  | with_reducible refine' s_test ?_
  | with_reducible refine' s_ifS ?_
  | with_reducible refine' s_call ?_
  | with_reducible refine' s_cb ?_
  | ((with_reducible refine' s_rEq ?vch ?_); (case vch => exact rfl))
  | ((with_reducible refine' s_rNe ?vch ?_); (case vch => exact rfl))
  | ((with_reducible refine' s_ixT ?vch ?vca ?_); (case vch => walk_at "sq"); (case vca => first | exact rfl | exact at_nat 0 rfl | exact at_nat 1 rfl | exact at_nat 2 rfl | exact at_nat 3 rfl | exact at_nat 4 rfl))
  | ((with_reducible refine' s_ixL ?vch ?vca ?_); (case vch => walk_at "sq"); (case vca => first | exact rfl | exact at_nat 0 rfl | exact at_nat 1 rfl | exact at_nat 2 rfl | exact at_nat 3 rfl | exact at_nat 4 rfl))
  | with_reducible refine iteT' ?_
  | with_reducible refine iteF' ?_
  | with_reducible refine' ex_bl ?_
  | with_reducible refine' ex_int ?_
  | with_reducible refine' ex_str ?_
  | with_reducible refine' ex_int1 ?_
  | with_reducible refine' ex_str1 ?_
  | with_reducible refine' ex_int2 ?_
  | with_reducible refine' ex_pair ?_
  | with_reducible refine' s_un ?_
  | with_reducible refine' s_B ?_
  | with_reducible refine' s_andV ?_
  | with_reducible refine' s_orV ?_
  | with_reducible refine' s_notV ?_
  | with_reducible refine' s_and ?_
  | with_reducible refine' s_or ?_
  | with_reducible refine' s_not ?_
  | with_reducible refine' s_if ?_
  | with_reducible refine' s_chain ?_
  | with_reducible refine' s_next ?_
  | with_reducible refine' s_break ?_
  | with_reducible refine' s_cont ?_
  | with_reducible refine' s_drop ?_
  | with_reducible refine' s_retN ?_
  | with_reducible refine' s_par ?_
  | ((with_reducible refine' s_aug ?vch ?_); (case vch => exact rfl))
  | with_reducible refine' s_ip ?_
  | with_reducible refine' s_gcons ?_
  | with_reducible refine' s_gnil ?_
  | ((with_reducible refine' s_gtup ?vch ?vca ?_); (case vch => walk_at "sq"); (case vca => exact rfl))
  | with_reducible refine' s_tup ?_
  | with_reducible refine' s_lst ?_
  | with_reducible refine' s_sl ?_
  | with_reducible refine' s_part ?_
  | with_reducible refine' s_nopart ?_
  | with_reducible refine' s_fld ?_
  | with_reducible refine' s_make ?_
  | with_reducible refine' s_meth ?_
  | with_reducible refine' s_prop ?_
  | with_reducible refine' s_makeK ?_
  | with_reducible refine' s_gsub ?_
  | ((with_reducible refine' s_setL ?vch ?vca ?_); (case vch => walk_at "hp"); (case vca => exact rfl))
  | with_reducible refine' s_par3 ?_
  | with_reducible refine' ex_three ?_
  | with_reducible refine' s_star ?_
  | with_reducible refine' s_dnewK ?_
  | with_reducible refine' s_dsetd ?_
  | with_reducible refine' s_methR ?_
  | with_reducible refine' s_fldaug ?_
  | with_reducible refine' s_dictzip ?_
  | with_reducible refine' s_sfld ?_
  | with_reducible refine' s_bm ?_
  | with_reducible refine' s_bm0 ?_
  | with_reducible refine' s_m1 ?_
  | with_reducible refine' s_dget ?_
  | with_reducible refine' s_lc ?_
  | with_reducible refine' s_for ?_
  | with_reducible refine' s_iList ?_
  | with_reducible refine' s_iTup ?_
  | with_reducible refine' s_iStr ?_
  | with_reducible refine' s_iRng1 ?_
  | with_reducible refine' s_iRng2 ?_
  | with_reducible refine' s_yes ?_
  | with_reducible refine' s_rU ?_
  | ((with_reducible refine' s_isiP ?vch ?_); (case vch => exact rfl))
  | ((with_reducible refine' ex_lenL ?vch ?_); (case vch => walk_at "sq"))
  | ((with_reducible refine' ex_lenT ?vch ?_); (case vch => walk_at "sq"))
  | ((with_reducible refine' ex_tupL ?vch ?_); (case vch => walk_at "sq"))
  | ((with_reducible refine' ex_lstT ?vch ?_); (case vch => walk_at "sq"))
  | ((with_reducible refine' ex_srcL ?vch ?_); (case vch => walk_at "sq"))
  | ((with_reducible refine' ex_srcT ?vch ?_); (case vch => walk_at "sq"))
  | ((with_reducible refine' s_mk ?vch ?_); (case vch => exact small_le (Nat.le_of_ble_eq_true rfl)))
  | with_reducible refine' ⟨_, _, rfl, rfl, ?_⟩
  | with_reducible refine' ⟨⟨_, rfl⟩, ?_⟩
  | with_reducible refine' ⟨rfl, ?_⟩
  | ((with_reducible refine' iteT_of ?vch ?_); (case vch => exact rfl))
  | ((with_reducible refine' iteF_of ?vch ?_); (case vch => exact rfl)))
local macro_rules | `(tactic| walk_at "vc") => `(tactic| repeat walk_at "v1")
section
variable {P : Program} {w : World} {K : PySem.W.Frag} {mg : Str → Option Value} {base : Heap}
/-! ### words_of_lines -/
def spWords : Sp := fun vs H Q _ => ∃ ls : List (List Str), vs = [.str (textT ls)] ∧ ls ≠ [] ∧ ls.length ≤ 400 ∧ (∀ ws ∈ ls, LineOk ws) ∧ ∀ p H', Ex H H' → WordsAt H' p ls → Q (.ref p) H'
theorem made_words {H : Hp} {ls : List (List Str)} {ys : List V} (h : Made (fun _ => true) (fun i v H => ∀ ws, ls[i]? = some ws → ∃ a, v = .ref a ∧ H a = some (.lst (ws.map V.str))) ls.length ys H) : ∃ ps : List Addr, ys = ps.map V.ref ∧ ps.length = ls.length ∧ ∀ (i : Nat) (a : Addr) (ws : List Str), ps[i]? = some a → ls[i]? = some ws → H a = some (.lst (ws.map V.str)) := by
  obtain ⟨hl, hq⟩ := Made.all h
  have hr : ∀ y ∈ ys, ∃ a, y = V.ref a := fun y hy => by
    obtain ⟨i, hi⟩ := List.mem_iff_getElem?.mp hy
    have hlt : i < ls.length := by rw [← hl]; exact (List.getElem?_eq_some_iff.mp hi).1
    obtain ⟨a, ha, _⟩ := hq i y hi _ (List.getElem?_eq_getElem hlt)
    exact ⟨a, ha⟩
  have : ∃ ps : List Addr, ys = ps.map V.ref := by
    clear hq hl h
    induction ys with
    | nil => exact ⟨[], rfl⟩
    | cons y ys ih =>
      obtain ⟨ps, e⟩ := ih fun z hz => hr z (List.mem_cons_of_mem _ hz)
      obtain ⟨a, rfl⟩ := hr y List.mem_cons_self
      exact ⟨a :: ps, by rw [e]; rfl⟩
  obtain ⟨ps, rfl⟩ := this
  rw [List.length_map] at hl
  refine ⟨ps, rfl, hl, fun i a ws h1 h2 => ?_⟩
  obtain ⟨b, e, hb⟩ := hq i (.ref a) (by rw [List.getElem?_map, h1]; rfl) ws h2
  cases e
  exact hb
theorem sc_words_of_lines : FnScope ["text", "line"] ["text"] (defScope s_words_of_lines) := ⟨rfl, rfl, rfl, by decide +kernel, rfl, by decide +kernel, by decide +kernel⟩
theorem D_words_of_lines (Z : Zf K mg) : Df P w K mg base "words_of_lines" (1) ["text"] spWords := by
  refine def_ok Z 11 rfl (by decide +kernel) sc_words_of_lines (fun _ _ _ _ _ _ us hl => match us, hl with | [_], _ => rfl) (fun vs H Q E h => ?_) (fun f cdv A outer s H vs Q E hr h => ⟨_, (pss_one (ps_ret (pe_lc (own := [("line", 1)]) (g := gName 1) (tt := tYes) rfl sc_words_of_lines.nd (pi_list (pe_split (pv 0) pe_str)) (blkOk_by (own := [("line", 1)]) (N := ["text", "line"]) (sc := defScope s_words_of_lines) (by decide +kernel)) (fun _ _ _ _ _ => (pgn 1 sc_words_of_lines.nd)) (fun _ _ _ _ _ => pts_nil) (fun _ _ _ _ _ => (pe_split (pv 1) pe_str))))), ?_⟩)
  · obtain ⟨ls, rfl, _⟩ := h
    rfl
  · obtain ⟨ls, rfl, hn, hl, hok, k⟩ := h
    have hlen := textT_len hok hl
    walk_at "vc"
    refine ⟨by rw [sizeLine_eq]; omega, fun p hp => ?_⟩
    rw [split_lines hn hok]
    refine ⟨p, rfl, ⟨_, SqL.of upd_same⟩, ?_⟩
    have hml : ((ls.map lineT).map V.str).length = ls.length := by rw [List.length_map, List.length_map]
    refine lc_ex walk_list (j := 1) (fun i => ((ls.map lineT).map V.str).getD i .non) (fun _ => true) (fun i v H => ∀ ws, ls[i]? = some ws → ∃ a, v = .ref a ∧ H a = some (.lst (ws.map V.str))) (fun i v H H' e h ws hw => by obtain ⟨a, h1, h2⟩ := h ws hw; exact ⟨a, h1, e _ _ h2⟩) ?_ (fun H' e => by walk_at "sq") (by omega) (fun _ => rfl) ?_ ?_ ?_
    · rintro i H2 x H' hi ⟨e, hx⟩
      exact ⟨e, by rw [List.getD_eq_getElem?_getD, hx]; rfl⟩
    · intro i H2 _ _ Q1 k1
      exact k1 H2 (Evl.Ex.refl _)
    · intro i H2 hi _ e2 Q1 k1
      rw [hml] at hi
      have e1 : ((ls.map lineT).map V.str).getD i .non = V.str (lineT ls[i]) := by
        rw [List.getD_eq_getElem?_getD, List.getElem?_map, List.getElem?_map, List.getElem?_eq_getElem hi]
        rfl
      have hi' := hok ls[i] (List.getElem_mem hi)
      have := lineT_len hi'
      rw [e1]
      walk_at "vc"
      refine ⟨by rw [sizeLine_eq]; omega, fun p2 hp2 => ?_⟩
      rw [split_words hi']
      refine k1 _ _ (Evl.Ex.new hp2) fun ws hw => ?_
      rw [List.getElem?_eq_getElem hi] at hw
      cases hw
      exact ⟨p2, rfl, nw_get hp2 upd_same⟩
    · intro D ys H2 hD e2 hy hm
      rw [hml] at hm
      obtain ⟨ps, rfl, hps, hq⟩ := made_words hm
      exact k D H2 (Evl.Ex.trans (Evl.Ex.new hp) e2) ⟨ps, hy, hps, fun i a ws h1 h2 => ex_hid _ _ (ex_nw _ _ (hq i a ws h1 h2))⟩
/-! ### are_names -/
def spNames : Sp := fun vs H Q _ => ∃ (a : Addr) (zs : List Str) (m : Int), vs = [.ref a, .int m] ∧ SqL K H a (zs.map V.str) ∧ 1 ≤ (zs.length : Int) ∧ (zs.length : Int) ≤ m ∧ m ≤ 100 ∧ (∀ z ∈ zs, isNameB z = true ∧ z.length ≤ 1000) ∧ ∀ H', Ex H H' → Q (.bl true) H'
theorem sc_are_names : FnScope ["words", "most", "word"] ["words", "most"] (defScope s_are_names) := ⟨rfl, rfl, rfl, by decide +kernel, rfl, by decide +kernel, by decide +kernel⟩
theorem D_are_names (Z : Zf K mg) : Df P w K mg base "are_names" (3) ["words", "most"] (spNames (K:=K)) := by
  refine def_ok Z 12 rfl (by decide +kernel) sc_are_names (fun _ _ _ _ _ _ us hl => match us, hl with | [_, _], _ => rfl) (fun vs H Q E h => ?_) (fun f cdv A outer s H vs Q E hr h => ⟨_, (pss_one (ps_ret (pe_and (pe_chain op_le op_le pe_int (pe_callB call_lenL (by rfl) (Z.free "len") (by decide +kernel) (pa_cons (pv 0) pa_nil)) (pv 1)) (pe_one (pe_callB (cr_all rfl) (by rfl) (Z.free "all") (by decide +kernel) (pa_cons (pe_lc (own := [("word", 2)]) (g := gName 2) (tt := tYes) rfl sc_are_names.nd (pi_list (pv 0)) (blkOk_by (own := [("word", 2)]) (N := ["words", "most", "word"]) (sc := defScope s_are_names) (by decide +kernel)) (fun _ _ _ _ _ => (pgn 2 sc_are_names.nd)) (fun _ _ _ _ _ => pts_nil) (fun _ _ _ _ _ => (pe_callD (D_is_name Z) hr (by omega) rfl (pa_cons (pv 2) pa_nil)))) pa_nil)))))), ?_⟩)
  · obtain ⟨a, zs, m, rfl, _⟩ := h
    rfl
  · obtain ⟨a, zs, m, rfl, ha, h1, h2, hm, hz, k⟩ := h
    walk_at "vc"
    rw [List.length_map]
    refine iteT_of (decide_eq_true h1) ?_
    walk_at "vc"
    refine iteT_of (decide_eq_true h2) ?_
    walk_at "vc"
    refine lc_ex walk_list (j := 2) (fun i => (zs.map V.str).getD i .non) (fun _ => true) (fun i v _ => v = V.bl true) (fun _ _ _ _ _ h => h) ?_ (fun H' e => by walk_at "sq") (show (zs.map V.str).length ≤ 100000 by rw [List.length_map]; omega) (fun _ => rfl) ?_ ?_ ?_
    · rintro i H2 x H' hi ⟨e, hx⟩
      exact ⟨e, by rw [List.getD_eq_getElem?_getD, hx]; rfl⟩
    · intro i H2 _ _ Q1 k1
      exact k1 H2 (Evl.Ex.refl _)
    · intro i H2 hi _ e2 Q1 k1
      rw [List.length_map] at hi
      have e1 : (zs.map V.str).getD i .non = V.str zs[i] := by
        rw [List.getD_eq_getElem?_getD, List.getElem?_map, List.getElem?_eq_getElem hi]
        rfl
      obtain ⟨z1, z2⟩ := hz zs[i] (List.getElem_mem hi)
      rw [e1]
      walk_at "vc"
      refine ⟨_, rfl, z2, fun H3 e3 => ?_⟩
      rw [z1]
      exact k1 _ _ e3 rfl
    · intro D ys H2 hD e2 hy hm
      have ey := Made.allVals hm
      refine ⟨D, List.replicate zs.length true, rfl, SqL.of ?_, ?_⟩
      · rw [hy, ey, List.map_const', List.map_replicate]
        simp
      · have ea : (List.replicate zs.length true).all id = true := by simp
        rw [ea]
        exact k _ e2
/-! ### is_take -/
def spTake : Sp := fun vs H Q _ => ∃ (a : Addr) (zs : List Str), vs = [.ref a] ∧ SqL K H a (zs.map V.str) ∧
  ((∃ z zs', zs = z :: zs' ∧ z ≠ ("take" : Str) ∧ ∀ H', Ex H H' → Q (.bl false) H') ∨ ∃ x y, zs = [("take" : Str), x, y] ∧ isNameB x = true ∧ x.length ≤ 1000 ∧ ((isNameB y = true ∧ y.length ≤ 1000) ∨ y = "x@1") ∧ ∀ H', Ex H H' → Q (.bl true) H')
theorem sc_is_take : FnScope ["words"] ["words"] (defScope s_is_take) := ⟨rfl, rfl, rfl, by decide +kernel, rfl, by decide +kernel, by decide +kernel⟩
theorem D_is_take (Z : Zf K mg) : Df P w K mg base "is_take" (4) ["words"] (spTake (K:=K)) := by
  refine def_ok Z 16 rfl (by decide +kernel) sc_is_take (fun _ _ _ _ _ _ us hl => match us, hl with | [_], _ => rfl) (fun vs H Q E h => ?_) (fun f cdv A outer s H vs Q E hr h => ⟨_, (pss_cons (ps_if (PW.pt (pw_or (pt_cmpR op_ne (pe_callB call_lenL (by rfl) (Z.free "len") (by decide +kernel) (pa_cons (pv 0) pa_nil)) pe_int (nomark _)) (pw_or (pt_cmpR op_ne (pe_ix ix_list (pv 0) pe_int (fun _ _ => rfl)) pe_str (nomark _)) (pw_or1 (pt_not (pt_val (pe_callD (D_is_name Z) hr (by omega) rfl (pa_cons (pe_ix ix_list (pv 0) pe_int (fun _ _ => rfl)) pa_nil)))))))) (pss_one (ps_ret pe_bl)) pss_nil)
      (pss_one (ps_ret (pe_or (pe_callD (D_is_name Z) hr (by omega) rfl (pa_cons (pe_ix ix_list (pv 0) pe_int (fun _ _ => rfl)) pa_nil)) (pe_one (pe_cmpR op_notN (pe_callD (D_first_value_in Z) hr (by omega) rfl (pa_cons (pe_ix ix_list (pv 0) pe_int (fun _ _ => rfl)) pa_nil)) pe_non (nomark _))))))), ?_⟩)
  · obtain ⟨a, zs, rfl, _⟩ := h
    rfl
  · obtain ⟨a, zs, rfl, ha, ⟨z, zs', rfl, hz, k⟩ | ⟨x, y, rfl, hx, hx2, hy, k⟩⟩ := h
    · have ha' : SqL K H a (V.str z :: zs'.map V.str) := ha
      walk_at "vc"
      by_cases c : (V.int ((V.str z :: List.map V.str zs').length : Nat) = V.int 3)
      · rw [decide_eq_true c]
        walk_at "vc"
        rw [dne hz]
        walk_at "vc"
        exact k _ (Evl.Ex.refl _)
      · rw [decide_eq_false c]
        walk_at "vc"
        exact k _ (Evl.Ex.refl _)
    · have ha' : SqL K H a [.str "take", .str x, .str y] := ha
      walk_at "vc"
      refine ⟨_, rfl, hx2, fun H1 e1 => ?_⟩
      rw [hx]
      walk_at "vc"
      refine s_ixL (Evl.ex_l e1 ha') (at_nat 2 rfl) ?_
      walk_at "vc"
      rcases hy with ⟨hy, hy2⟩ | rfl
      · refine ⟨_, rfl, hy2, fun H2 e2 => ?_⟩
        rw [hy]
        walk_at "vc"
        exact k _ (Evl.Ex.trans e1 e2)
      · refine ⟨_, rfl, by decide +kernel, fun H2 e2 => ?_⟩
        have eb : isNameB "x@1" = false := by decide +kernel
        rw [eb]
        walk_at "vc"
        refine s_ixL (Evl.ex_l e2 (Evl.ex_l e1 ha')) (at_nat 2 rfl) ?_
        walk_at "vc"
        refine ⟨rfl, fun p H3 e3 => ?_⟩
        walk_at "vc"
        exact k _ (Evl.Ex.trans e1 (Evl.Ex.trans e2 e3))
/-! ### value_in, statement_in -/
def valLn : Ln → Prop
  | .work _ _ _ => True
  | .load _ _ _ => True
  | .copy _ _ => True
  | _ => False
def spStm (ok : Ln → Prop) (K : PySem.W.Frag) : Sp := fun vs H Q _ => ∃ (a : Addr) (l : Ln) (t : Int), vs = [.ref a, .int t] ∧ SqL K H a ((lw l).map V.str) ∧ LnOk l ∧ ok l ∧ ∀ v H', Ex H H' → ItemLn H' v l → Q v H'
theorem cut2 (x y : V) (r : List V) : cutV (x :: y :: r) (some 2) none = r := cut_from (x :: y :: r) 2
theorem cut1 (x : V) (r : List V) : cutV (x :: r) (some 1) none = r := cut_from (x :: r) 1
theorem sc_value_in : FnScope ["words", "at", "place", "rest"] ["words", "at"] (defScope s_value_in) := ⟨rfl, rfl, rfl, by decide +kernel, rfl, by decide +kernel, by decide +kernel⟩
theorem D_value_in (Z : Zf K mg) : Df P w K mg base "value_in" (5) ["words", "at"] (spStm valLn K) := by
  refine def_ok Z 17 rfl (by decide +kernel) sc_value_in (fun _ _ _ _ _ _ us hl => match us, hl with | [_, _], _ => rfl) (fun vs H Q E h => ?_) (fun f cdv A outer s H vs Q E hr h => ⟨_, (pss_cons (ps_par (i := 2) (j := 3) (by rfl) sc_value_in.nd rfl rfl (by decide) rfl rfl (pa_cons (pe_ix ix_list (pv 0) pe_int (fun _ _ => rfl)) (pa_cons (pe_slice sl_list (pv 0) (po_some pe_int) po_none) pa_nil)) (by rfl))
      (pss_cons (ps_if (pt_not (pt_val (pe_callD (D_is_name Z) hr (by omega) rfl (pa_cons (pv 2) pa_nil)))) (pss_one (ps_ret pe_non)) pss_nil)
      (pss_cons (ps_if (pt_cmpR op_eq (pe_ix ix_list (pv 3) pe_int (fun _ _ => rfl)) pe_str (nomark _)) (pss_cons (ps_if (PW.pt (pw_or (pt_cmpR op_ne (pe_callB call_lenL (by rfl) (Z.free "len") (by decide +kernel) (pa_cons (pv 3) pa_nil)) pe_int (nomark _)) (pw_or (pt_not (pt_val (pe_callD (D_is_array Z) hr (by omega) rfl (pa_cons (pe_ix ix_list (pv 3) pe_int (fun _ _ => rfl)) pa_nil)))) (pw_or1 (pt_cmpR op_isN (pe_callD (D_offset_in Z) hr (by omega) rfl (pa_cons (pe_ix ix_list (pv 3) pe_int (fun _ _ => rfl)) pa_nil)) pe_non (nomark _)))))) (pss_one (ps_ret pe_non)) pss_nil)
      (pss_one (ps_ret (pe_tup (pa_cons pe_str (pa_cons (pv 2) (pa_cons (pe_ix ix_list (pv 3) pe_int (fun _ _ => rfl)) (pa_cons (pe_callD (D_offset_in Z) hr (by omega) rfl (pa_cons (pe_ix ix_list (pv 3) pe_int (fun _ _ => rfl)) pa_nil)) (pa_cons (pv 1) pa_nil))))))))) pss_nil)
      (pss_cons (ps_if (pt_not (pt_val (pe_callD (D_are_names Z) hr (by omega) rfl (pa_cons (pv 3) (pa_cons pe_int pa_nil))))) (pss_one (ps_ret pe_non)) pss_nil)
      (pss_cons (ps_if (pt_cmpR op_eq (pe_callB call_lenL (by rfl) (Z.free "len") (by decide +kernel) (pa_cons (pv 3) pa_nil)) pe_int (nomark _)) (pss_one (ps_ret (pe_tup (pa_cons pe_str (pa_cons (pv 2) (pa_cons (pe_ix ix_list (pv 3) pe_int (fun _ _ => rfl)) (pa_cons (pv 1) pa_nil))))))) pss_nil)
      (pss_one (ps_ret (pe_tup (pa_cons pe_str (pa_cons (pv 2) (pa_cons (pe_ix ix_list (pv 3) pe_int (fun _ _ => rfl)) (pa_cons (pe_callTy call_tupL (by rfl) (Z.free "tuple") (by decide +kernel) (pa_cons (pe_slice sl_list (pv 3) (po_some pe_int) po_none) pa_nil)) (pa_cons (pv 1) pa_nil))))))))))))), ?_⟩)
  · obtain ⟨a, l, t, rfl, _⟩ := h
    rfl
  · obtain ⟨a, l, t, rfl, ha, hl, hv, k⟩ := h
    cases l with
    | store _ _ _ => exact hv.elim
    | step _ => exact hv.elim
    | load x A o =>
      have ha' : SqL K H a [.str x, .str "=", .str "load", .str A, .str (num o)] := ha
      obtain ⟨h1, ⟨c, c1, c2, rfl⟩, h3, h4⟩ := hl
      walk_at "vc"
      refine s_slL ha' fun p hp => ?_
      rw [cut2]
      walk_at "vc"
      refine ⟨_, rfl, h1.len, fun H1 e1 => ?_⟩
      rw [h1.facts.1]
      have hp1 : SqL K H1 p [.str "load", .str ⟨#[c]⟩, .str (num o)] := Evl.ex_l e1 (SqL.of upd_same)
      walk_at "vc"
      refine ⟨c, rfl, ?_⟩
      rw [decide_eq_true (cap_facts c1 c2).1]
      walk_at "vc"
      refine ⟨o, rfl, h3, h4, fun H2 e2 => ?_⟩
      have hp2 := Evl.ex_l e2 hp1
      walk_at "vc"
      refine ⟨o, rfl, h3, h4, fun H3 e3 => ?_⟩
      walk_at "vc"
      intro p2 hp2
      refine k _ _ ?_ ⟨p2, t, rfl, upd_same⟩
      exact Evl.Ex.trans (Evl.Ex.new hp) (Evl.Ex.trans e1 (Evl.Ex.trans e2 (Evl.Ex.trans e3 (Evl.Ex.new hp2))))
    | copy x y =>
      have ha' : SqL K H a [.str x, .str "=", .str y] := ha
      obtain ⟨h1, h2⟩ := hl
      walk_at "vc"
      refine s_slL ha' fun p hp => ?_
      rw [cut2]
      walk_at "vc"
      refine ⟨_, rfl, h1.len, fun H1 e1 => ?_⟩
      rw [h1.facts.1]
      have hp1 : SqL K H1 p [.str y] := Evl.ex_l e1 (SqL.of upd_same)
      walk_at "vc"
      rw [dne (fun e => h2.facts.2.2 (by rw [e]; simp [marks]))]
      walk_at "vc"
      refine ⟨p, [y], 4, rfl, hp1, by simp, by simp, by decide, fun z hz => ?_, fun H2 e2 => ?_⟩
      · rw [List.mem_singleton.mp hz]
        exact ⟨h2.facts.1, h2.len⟩
      have hp2 := Evl.ex_l e2 hp1
      walk_at "vc"
      intro p3 hp3
      refine k _ _ ?_ ⟨p3, t, rfl, upd_same⟩
      exact Evl.Ex.trans (Evl.Ex.new hp) (Evl.Ex.trans e1 (Evl.Ex.trans e2 (Evl.Ex.new hp3)))
    | work x f as =>
      have ha' : SqL K H a (.str x :: .str "=" :: .str f :: as.map V.str) := ha
      obtain ⟨h1, ⟨c, c1, c2, rfl, hlen⟩, h3⟩ := hl
      have hf := spot_one c1 c2
      walk_at "vc"
      refine s_slL ha' fun p hp => ?_
      rw [cut2]
      walk_at "vc"
      refine ⟨_, rfl, h1.len, fun H1 e1 => ?_⟩
      rw [h1.facts.1]
      have hp1 : SqL K H1 p (.str ⟨#[c]⟩ :: as.map V.str) := Evl.ex_l e1 (SqL.of upd_same)
      walk_at "vc"
      refine ⟨p, ⟨#[c]⟩ :: as, 4, rfl, hp1, by rw [List.length_cons]; omega, by rw [List.length_cons]; omega, by decide, fun z hz => ?_, fun H2 e2 => ?_⟩
      · rcases List.mem_cons.mp hz with rfl | hz
        · exact ⟨hf.facts.1, hf.len⟩
        · exact ⟨(h3 z hz).facts.1, (h3 z hz).len⟩
      have hp2 := Evl.ex_l e2 hp1
      walk_at "vc"
      refine iteF_of (decide_eq_false fun e => ?_) ?_
      · have e' := V.int.inj e
        rw [List.length_cons, List.length_map] at e'
        omega
      walk_at "vc"
      refine s_slL hp2 fun p3 hp3 => ?_
      rw [cut1]
      walk_at "vc"
      intro p4 hp4
      walk_at "vc"
      intro p5 hp5
      have ne : p4 ≠ p5 := ne_of_none upd_same hp5
      refine k _ _ ?_ ⟨p5, t, rfl, p4, upd_same, (upd_ne ne).trans upd_same⟩
      exact Evl.Ex.trans (Evl.Ex.new hp) (Evl.Ex.trans e1 (Evl.Ex.trans e2 (Evl.Ex.trans (Evl.Ex.new hp3) (Evl.Ex.trans (Evl.Ex.new hp4) (Evl.Ex.new hp5)))))
theorem sc_statement_in : FnScope ["words", "at", "found"] ["words", "at"] (defScope s_statement_in) := ⟨rfl, rfl, rfl, by decide +kernel, rfl, by decide +kernel, by decide +kernel⟩
theorem D_statement_in (Z : Zf K mg) : Df P w K mg base "statement_in" (6) ["words", "at"] (spStm (fun _ => True) K) := by
  refine def_ok Z 18 rfl (by decide +kernel) sc_statement_in (fun _ _ _ _ _ _ us hl => match us, hl with | [_, _], _ => rfl) (fun vs H Q E h => ?_) (fun f cdv A outer s H vs Q E hr h => ⟨_, (pss_cons (ps_if (pt_cmpR op_eq (pe_ix ix_list (pv 0) pe_int (fun _ _ => rfl)) pe_str (nomark _)) (pss_cons (ps_asg (pe_ifExp (pt_cmpR op_eq (pe_callB call_lenL (by rfl) (Z.free "len") (by decide +kernel) (pa_cons (pv 0) pa_nil)) pe_int (nomark _)) (pe_callD (D_number_in Z) hr (by omega) rfl (pa_cons (pe_ix ix_list (pv 0) pe_int (fun _ _ => rfl)) (pa_cons pe_int (pa_cons pe_int pa_nil)))) pe_non) (pgn 2 sc_statement_in.nd))
      (pss_one (ps_ret (pe_ifExp (pt_cmpR op_isN (pv 2) pe_non (nomark _)) pe_non (pe_tup (pa_cons pe_str (pa_cons (pv 2) (pa_cons (pv 1) pa_nil)))))))) pss_nil)
      (pss_cons (ps_if (pt_cmpR op_eq (pe_ix ix_list (pv 0) pe_int (fun _ _ => rfl)) pe_str (nomark _)) (pss_cons (ps_if (PW.pt (pw_or (pt_cmpR op_ne (pe_callB call_lenL (by rfl) (Z.free "len") (by decide +kernel) (pa_cons (pv 0) pa_nil)) pe_int (nomark _)) (pw_or (pt_not (pt_val (pe_callD (D_is_array Z) hr (by omega) rfl (pa_cons (pe_ix ix_list (pv 0) pe_int (fun _ _ => rfl)) pa_nil)))) (pw_or (pt_cmpR op_isN (pe_callD (D_offset_in Z) hr (by omega) rfl (pa_cons (pe_ix ix_list (pv 0) pe_int (fun _ _ => rfl)) pa_nil)) pe_non (nomark _)) (pw_or1 (pt_not (pt_val (pe_callD (D_is_name Z) hr (by omega) rfl (pa_cons (pe_ix ix_list (pv 0) pe_int (fun _ _ => rfl)) pa_nil))))))))) (pss_one (ps_ret pe_non)) pss_nil)
      (pss_one (ps_ret (pe_tup (pa_cons pe_str (pa_cons (pe_ix ix_list (pv 0) pe_int (fun _ _ => rfl)) (pa_cons (pe_callD (D_offset_in Z) hr (by omega) rfl (pa_cons (pe_ix ix_list (pv 0) pe_int (fun _ _ => rfl)) pa_nil)) (pa_cons (pe_ix ix_list (pv 0) pe_int (fun _ _ => rfl)) (pa_cons (pv 1) pa_nil))))))))) pss_nil)
      (pss_cons (ps_if (PW.pt (pw_or (pt_cmpR op_lt (pe_callB call_lenL (by rfl) (Z.free "len") (by decide +kernel) (pa_cons (pv 0) pa_nil)) pe_int (nomark _)) (pw_or1 (pt_cmpR op_ne (pe_ix ix_list (pv 0) pe_int (fun _ _ => rfl)) pe_str (nomark _))))) (pss_one (ps_ret pe_non)) pss_nil)
      (pss_one (ps_ret (pe_callD (D_value_in Z) hr (by omega) rfl (pa_cons (pv 0) (pa_cons (pv 1) pa_nil)))))))), ?_⟩)
  · obtain ⟨a, l, t, rfl, _⟩ := h
    rfl
  · obtain ⟨a, l, t, rfl, ha, hl, hv, k⟩ := h
    cases l with
    | step n =>
      have ha' : SqL K H a [.str "step", .str (num n)] := ha
      walk_at "vc"
      refine ⟨n, 1, 4, rfl, by have := hl.1; omega, by have := hl.2; omega, hl.1, hl.2, fun H1 e1 => ?_⟩
      walk_at "vc"
      intro p2 hp2
      exact k _ _ (Evl.Ex.trans e1 (Evl.Ex.new hp2)) ⟨p2, t, rfl, upd_same⟩
    | store A o x =>
      have ha' : SqL K H a [.str "store", .str A, .str (num o), .str x] := ha
      obtain ⟨h1, ⟨c, c1, c2, rfl⟩, h3, h4⟩ := hl
      walk_at "vc"
      refine ⟨c, rfl, ?_⟩
      rw [decide_eq_true (cap_facts c1 c2).1]
      walk_at "vc"
      refine ⟨o, rfl, h3, h4, fun H1 e1 => ?_⟩
      have ha1 := Evl.ex_l e1 ha'
      walk_at "vc"
      refine ⟨_, rfl, h1.len, fun H2 e2 => ?_⟩
      rw [h1.facts.1]
      have ha2 := Evl.ex_l e2 ha1
      walk_at "vc"
      refine ⟨o, rfl, h3, h4, fun H3 e3 => ?_⟩
      have ha3 := Evl.ex_l e3 ha2
      walk_at "vc"
      intro p2 hp2
      exact k _ _ (Evl.Ex.trans e1 (Evl.Ex.trans e2 (Evl.Ex.trans e3 (Evl.Ex.new hp2)))) ⟨p2, t, rfl, upd_same⟩
    | load x A o =>
      have ha' : SqL K H a [.str x, .str "=", .str "load", .str A, .str (num o)] := ha
      walk_at "vc"
      rw [dne (fun e => hl.1.facts.2.2 (by rw [e]; simp [marks]))]
      walk_at "vc"
      rw [dne (fun e => hl.1.facts.2.2 (by rw [e]; simp [marks]))]
      walk_at "vc"
      exact ⟨a, _, t, rfl, ha, hl, trivial, k⟩
    | copy x y =>
      have ha' : SqL K H a [.str x, .str "=", .str y] := ha
      walk_at "vc"
      rw [dne (fun e => hl.1.facts.2.2 (by rw [e]; simp [marks]))]
      walk_at "vc"
      rw [dne (fun e => hl.1.facts.2.2 (by rw [e]; simp [marks]))]
      walk_at "vc"
      exact ⟨a, _, t, rfl, ha, hl, trivial, k⟩
    | work x f as =>
      have ha' : SqL K H a (.str x :: .str "=" :: .str f :: as.map V.str) := ha
      walk_at "vc"
      rw [dne (fun e => hl.1.facts.2.2 (by rw [e]; simp [marks]))]
      walk_at "vc"
      rw [dne (fun e => hl.1.facts.2.2 (by rw [e]; simp [marks]))]
      walk_at "vc"
      exact ⟨a, _, t, rfl, ha, hl, trivial, k⟩
end
end Ov
/-! text OvP2 -/
set_option Elab.async false
set_option linter.all false
set_option maxRecDepth 100000
namespace Ov
open PySem PySem.Spec PyProof.Rows L2
open Rows TL
local macro_rules | `(tactic| walk_at "hp") => `(tactic| first
  | assumption
  | exact upd_same
  | (refine Evl.Ex.new (by assumption) _ _ ?_; walk_at "hp")
  | (refine (by assumption : Evl.Ex _ _) _ _ ?_; walk_at "hp"))
local macro_rules | `(tactic| walk_at "sq") => `(tactic| first
  | assumption
  | exact SqL.of (by walk_at "hp")
  | exact SqT.of (by walk_at "hp")
  | (refine Evl.ex_l (by assumption) ?_; walk_at "sq")
  | (refine Evl.ex_t (by assumption) ?_; walk_at "sq")
  | (refine Evl.ex_l (Evl.Ex.new (by assumption)) ?_; walk_at "sq")
  | (refine Evl.ex_t (Evl.Ex.new (by assumption)) ?_; walk_at "sq"))
local macro_rules | `(tactic| walk_at "ex") => `(tactic| first
  | assumption
  | exact Evl.Ex.refl _
  | (refine Evl.Ex.trans ?_ (Evl.Ex.new (by assumption)); walk_at "ex")
  | (refine Evl.Ex.trans ?_ (by assumption); walk_at "ex"))
local macro_rules | `(tactic| walk_at "s1") => `(tactic| first
  | refine ⟨_, rfl, ?_⟩
  | refine ⟨rfl, ?_⟩
  | refine ⟨_, _, rfl, rfl, ?_⟩
  | refine ⟨_, _, _, rfl, rfl, ?_⟩)
local macro_rules | `(tactic| walk_at "st") => `(tactic| repeat walk_at "s1")
local macro_rules | `(tactic| walk_at "v1") => `(tactic| first
  | ((with_reducible refine' s_var ?vch ?_); (case vch => exact rfl))
  | with_reducible refine' s_c ?_
  | with_reducible refine' s_seq ?_
  | with_reducible refine' s_asg ?_
  | with_reducible refine' s_name ?_
  | with_reducible refine' s_cons ?_
  | with_reducible refine' s_nil ?_
  | with_reducible refine' s_op ?_
  | with_reducible refine' s_rI0 ?_
  | with_reducible refine' s_ret ?_
  | with_reducible refine' s_test ?_
  | with_reducible refine' s_ifS ?_
  | with_reducible refine' s_call ?_
  | with_reducible refine' s_cb ?_
  | ((with_reducible refine' s_rEq ?vch ?_); (case vch => exact rfl))
  | ((with_reducible refine' s_rNe ?vch ?_); (case vch => exact rfl))
  | ((with_reducible refine' s_ixT ?vch ?vca ?_); (case vch => walk_at "sq"); (case vca => first | exact rfl | exact at_nat 0 rfl | exact at_nat 1 rfl | exact at_nat 2 rfl | exact at_nat 3 rfl | exact at_nat 4 rfl))
  | ((with_reducible refine' s_ixL ?vch ?vca ?_); (case vch => walk_at "sq"); (case vca => first | exact rfl | exact at_nat 0 rfl | exact at_nat 1 rfl | exact at_nat 2 rfl | exact at_nat 3 rfl | exact at_nat 4 rfl))
  | with_reducible refine iteT' ?_
  | with_reducible refine iteF' ?_
  | with_reducible refine' ex_bl ?_
  | with_reducible refine' ex_int ?_
  | with_reducible refine' ex_str ?_
  | with_reducible refine' ex_int1 ?_
  | with_reducible refine' ex_str1 ?_
  | with_reducible refine' ex_int2 ?_
  | with_reducible refine' ex_pair ?_
  | with_reducible refine' s_un ?_
  | with_reducible refine' s_B ?_
  | with_reducible refine' s_andV ?_
  | with_reducible refine' s_orV ?_
  | with_reducible refine' s_notV ?_
  | with_reducible refine' s_and ?_
  | with_reducible refine' s_or ?_
  | with_reducible refine' s_not ?_
  | with_reducible refine' s_if ?_
  | with_reducible refine' s_chain ?_
  | with_reducible refine' s_next ?_
  | with_reducible refine' s_break ?_
  | with_reducible refine' s_cont ?_
  | with_reducible refine' s_drop ?_
  | with_reducible refine' s_retN ?_
  | with_reducible refine' s_par ?_
  | ((with_reducible refine' s_aug ?vch ?_); (case vch => exact rfl))
  | with_reducible refine' s_ip ?_
  | with_reducible refine' s_gcons ?_
  | with_reducible refine' s_gnil ?_
  | ((with_reducible refine' s_gtup ?vch ?vca ?_); (case vch => walk_at "sq"); (case vca => exact rfl))
  | with_reducible refine' s_tup ?_
  | with_reducible refine' s_lst ?_
  | with_reducible refine' s_sl ?_
  | with_reducible refine' s_part ?_
  | with_reducible refine' s_nopart ?_
  | with_reducible refine' s_fld ?_
  | with_reducible refine' s_make ?_
  | with_reducible refine' s_meth ?_
  | with_reducible refine' s_prop ?_
  | with_reducible refine' s_makeK ?_
  | with_reducible refine' s_gsub ?_
  | ((with_reducible refine' s_setL ?vch ?vca ?_); (case vch => walk_at "hp"); (case vca => exact rfl))
  | with_reducible refine' s_par3 ?_
  | with_reducible refine' ex_three ?_
  | with_reducible refine' s_star ?_
  | with_reducible refine' s_dnewK ?_
  | with_reducible refine' s_dsetd ?_
  | with_reducible refine' s_methR ?_
  | with_reducible refine' s_fldaug ?_
  | with_reducible refine' s_dictzip ?_
  | with_reducible refine' s_sfld ?_
  | with_reducible refine' s_bm ?_
  | with_reducible refine' s_bm0 ?_
  | with_reducible refine' s_m1 ?_
  | with_reducible refine' s_dget ?_
  | with_reducible refine' s_lc ?_
  | with_reducible refine' s_for ?_
  | with_reducible refine' s_iList ?_
  | with_reducible refine' s_iTup ?_
  | with_reducible refine' s_iStr ?_
  | with_reducible refine' s_iRng1 ?_
  | with_reducible refine' s_iRng2 ?_
  | with_reducible refine' s_yes ?_
  | with_reducible refine' s_rU ?_
  | ((with_reducible refine' s_isiP ?vch ?_); (case vch => exact rfl))
  | ((with_reducible refine' ex_lenL ?vch ?_); (case vch => walk_at "sq"))
  | ((with_reducible refine' ex_lenT ?vch ?_); (case vch => walk_at "sq"))
  | ((with_reducible refine' ex_tupL ?vch ?_); (case vch => walk_at "sq"))
  | ((with_reducible refine' ex_lstT ?vch ?_); (case vch => walk_at "sq"))
  | ((with_reducible refine' ex_srcL ?vch ?_); (case vch => walk_at "sq"))
  | ((with_reducible refine' ex_srcT ?vch ?_); (case vch => walk_at "sq"))
  | ((with_reducible refine' s_mk ?vch ?_); (case vch => exact small_le (Nat.le_of_ble_eq_true rfl)))
  | with_reducible refine' ⟨_, _, rfl, rfl, ?_⟩
  | with_reducible refine' ⟨⟨_, rfl⟩, ?_⟩
  | with_reducible refine' ⟨rfl, ?_⟩
  | ((with_reducible refine' iteT_of ?vch ?_); (case vch => exact rfl))
  | ((with_reducible refine' iteF_of ?vch ?_); (case vch => exact rfl)))
local macro_rules | `(tactic| walk_at "vc") => `(tactic| repeat walk_at "v1")
/-! ### lists of texts, compared -/
def wD (ws : List Str) : PyData := .list (ws.map PyData.str)
theorem wD_lay : ∀ {ws : List Str}, (∀ z ∈ ws, wdB z = true) → PyData.canLayAll0 (ws.map PyData.str) = true
  | [], _ => by simp [PyData.canLayAll0]
  | z :: ws, h => by
    have h1 : (PyData.str z).canLay0 = true := by
      simp only [PyData.canLay0]
      exact wd_ok (h z List.mem_cons_self)
    have h2 := wD_lay (ws := ws) fun y hy => h y (List.mem_cons_of_mem _ hy)
    rw [List.map_cons]
    simp only [PyData.canLayAll0, h1, h2, Bool.and_self]
theorem wD_depth : ∀ ws : List Str, PyData.depthAll (ws.map PyData.str) = 0
  | [] => by simp [PyData.depthAll]
  | z :: ws => by
    rw [List.map_cons]
    simp only [PyData.depthAll, PyData.depth, wD_depth ws]
    rfl
theorem wD_shaped {ws : List Str} (h : ∀ z ∈ ws, wdB z = true) : SeqAt.shaped (wD ws) = true := by
  have h2 : (wD ws).depth ≤ 64 := by
    simp only [wD, PyData.depth, wD_depth]
    decide
  show ((wD ws).canLay0 && decide ((wD ws).depth ≤ 64)) = true
  rw [Bool.and_eq_true]
  exact ⟨by simp only [wD, PyData.canLay0]; exact wD_lay h, decide_eq_true h2⟩
theorem wDs_shaped {wss : List (List Str)} (h : ∀ ws ∈ wss, ∀ z ∈ ws, wdB z = true) : SeqAt.shaped (.list (wss.map wD)) = true := by
  have lay : PyData.canLayAll0 (wss.map wD) = true := by
    induction wss with
    | nil => simp [PyData.canLayAll0]
    | cons ws wss ih =>
      have h1 : (wD ws).canLay0 = true := by
        simp only [wD, PyData.canLay0]
        exact wD_lay (h ws List.mem_cons_self)
      rw [List.map_cons]
      simp only [PyData.canLayAll0, h1, ih fun y hy => h y (List.mem_cons_of_mem _ hy), Bool.and_self]
  have dep : PyData.depthAll (wss.map wD) ≤ 1 := by
    clear lay h
    induction wss with
    | nil => simp [PyData.depthAll]
    | cons ws wss ih =>
      have h1 : (wD ws).depth = 1 := by simp only [wD, PyData.depth, wD_depth]
      rw [List.map_cons]
      simp only [PyData.depthAll]
      omega
  have h2 : PyData.depth (.list (wss.map wD)) ≤ 64 := by
    simp only [PyData.depth]
    omega
  show (PyData.canLay0 (.list (wss.map wD)) && decide (PyData.depth (.list (wss.map wD)) ≤ 64)) = true
  rw [Bool.and_eq_true]
  exact ⟨by simp only [PyData.canLay0]; exact lay, decide_eq_true h2⟩
theorem wD_eqvAll : ∀ a b : List Str, PyData.eqvAll (a.map PyData.str) (b.map PyData.str) = decide (a = b)
  | [], [] => by simp [PyData.eqvAll]
  | [], y :: b => by simp [PyData.eqvAll]
  | x :: a, [] => by simp [PyData.eqvAll]
  | x :: a, y :: b => by
    rw [List.map_cons, List.map_cons]
    simp only [PyData.eqvAll, PyData.eqv, wD_eqvAll a b]
    by_cases h1 : x = y
    · by_cases h2 : a = b
      · simp [h1, h2]
      · simp [h1, h2]
    · have : (x == y) = false := by simpa [beq_iff_eq] using h1
      simp [h1, this]
theorem wD_eqv (a b : List Str) : PyData.eqv (wD a) (wD b) = decide (a = b) := by
  simp only [wD, PyData.eqv]
  exact wD_eqvAll a b
theorem dpAll_str {K : PySem.W.Frag} {H : Hp} : ∀ ws : List Str, DpAll K H (ws.map V.str) (ws.map PyData.str)
  | [] => .nil
  | z :: ws => .cons (.str z) (dpAll_str ws)
theorem dp_words {K : PySem.W.Frag} {H : Hp} {a : Addr} {ws : List Str} (h : SqL K H a (ws.map V.str)) : Dp K H (.ref a) (wD ws) := .lst h (dpAll_str ws)
/-! ### Reader -/
def RdAt (K : PySem.W.Frag) (H : Hp) (x L : Addr) (i : Nat) : Prop := ∃ dx : Addr, H x = some (.ins (He.ga K "Reader") dx [("rows", .ref L), ("at", .int (i : Int))])
def isAt (ls : List (List Str)) (i : Nat) (ws : List Str) : Bool := match ls[i]? with
  | some l => ws.any fun w => decide (([w] : List Str) = l)
  | none => false
section
variable {P : Program} {w : World} {K : PySem.W.Frag} {mg : Str → Option Value} {base : Heap}
def spRInit (K : PySem.W.Frag) : Sp := fun vs H Q _ => ∃ (x dx L : Addr), vs = [.ref x, .ref L] ∧ H x = some (.ins (He.ga K "Reader") dx []) ∧ ∀ H', Ex (hid [x] H) (hid [x] H') → RdAt K H' x L 0 → Q .non H'
theorem sc_Readeru_initu : FnScope ["self", "lines"] ["self", "lines"] (defScope s_Readeru_initu) := ⟨rfl, rfl, rfl, by decide +kernel, rfl, by decide +kernel, by decide +kernel⟩
theorem D_Readeru_initu (Z : Zf K mg) : Mf P w K mg base "Reader" "__init__" (1) ["self", "lines"] (spRInit K) := by
  refine meth_ok Z 19 rfl sc_Readeru_initu (fun _ _ _ _ _ _ us hl => match us, hl with | [_, _], _ => rfl) (fun vs H Q E h => ?_) (fun f cdv A outer s H vs Q E hr h => ⟨_, (pss_cons (ps_fld (pv 0) (pv 1) rfl)
      (pss_one (ps_fld (pv 0) pe_int rfl))), ?_⟩)
  · obtain ⟨x, dx, L, rfl, _⟩ := h
    rfl
  · obtain ⟨x, dx, L, rfl, hx, k⟩ := h
    walk_at "vc"
    refine ex_sfld hx (Z.cls "Reader") (Z.noat "Reader" "rows") (by show 0 < 1000; decide) ?_
    walk_at "vc"
    refine ex_sfld upd_same (Z.cls "Reader") (Z.noat "Reader" "at") (by show 1 < 1000; decide) ?_
    refine k _ ?_ ⟨dx, upd_same⟩
    rw [hid_upd (by simp), hid_upd (by simp)]
    exact Evl.Ex.refl _
def spIsAt (K : PySem.W.Frag) : Sp := fun vs H Q _ => ∃ (x p L : Addr) (i : Nat) (ls : List (List Str)) (ws : List Str), vs = [.ref x, .ref p] ∧ RdAt K H x L i ∧ WordsAt H L ls ∧ (∀ l ∈ ls, LineOk l) ∧ SqT K H p (ws.map V.str) ∧ ws.length ≤ 2 ∧ (∀ z ∈ ws, wdB z = true) ∧ i ≤ ls.length ∧ ∀ H', Ex H H' → Q (.bl (isAt ls i ws)) H'
theorem sc_Reader_is_at : FnScope ["self", "words", "word"] ["self", "words"] (defScope s_Reader_is_at) := ⟨rfl, rfl, rfl, by decide +kernel, rfl, by decide +kernel, by decide +kernel⟩
theorem is_at_body (Z : Zf K mg) (f : Addr) (cdv : Value) (A : Around) (outer : List Env) (s : Shared) (H : Hp) (vs : List V) (Q : VK) (E : XK) (hr : Room 0 (A.deeper (envOfC "Reader.is_at" (defScope s_Reader_is_at) s.heap.objs.size f cdv))) (h : spIsAt K vs H Q E) :
    ∃ t, PSs (cxOf CX0 P w K mg base ["self", "words", "word"] "Reader.is_at" (defScope s_Reader_is_at) f cdv A outer s H E).nox (defBody s_Reader_is_at) t ∧ t { nx := fun _ H' => Q .non H', rt := Q } (start ["self", "words", "word"] vs) H := by
  refine ⟨_, (pss_one (ps_ret (pe_and (pe_cmpR op_lt (pe_fld (pv 0) rfl) (pe_callB call_lenL (by rfl) (Z.free "len") (by decide +kernel) (pa_cons (pe_fld (pv 0) rfl) pa_nil)) (nomark _)) (pe_one (pe_cmpR (op_inD (units65 hr)) (pe_ix ix_list (pe_fld (pv 0) rfl) (pe_fld (pv 0) rfl) (fun _ _ => rfl)) (pe_lc (own := [("word", 2)]) (g := gName 2) (tt := tYes) rfl sc_Reader_is_at.nd (pi_tup (pv 1)) (blkOk_by (own := [("word", 2)]) (N := ["self", "words", "word"]) (sc := defScope s_Reader_is_at) (by decide +kernel)) (fun _ _ _ _ _ => (pgn 2 sc_Reader_is_at.nd)) (fun _ _ _ _ _ => pts_nil) (fun _ _ _ _ _ => (pe_lst (pa_cons (pv 2) pa_nil)))) rfl))))), ?_⟩
  obtain ⟨x, p, L, i, ls, ws, rfl, ⟨dx, hx⟩, hL, hok, hp, hws, hwd, hi, k⟩ := h
  walk_at "vc"
  refine ex_fld hx (Z.cls "Reader") (Z.noat "Reader" "at") rfl ?_
  walk_at "vc"
  refine ex_fld hx (Z.cls "Reader") (Z.noat "Reader" "rows") rfl ?_
  obtain ⟨ps, hLp, hps, hq⟩ := id hL
  walk_at "vc"
  rw [List.length_map, hps]
  by_cases c : i < ls.length
  · refine iteT_of (decide_eq_true (by omega)) ?_
    obtain ⟨xs, a, h1, h2, h3, h4⟩ := hL.get (List.getElem?_eq_getElem c)
    walk_at "vc"
    refine ex_fld hx (Z.cls "Reader") (Z.noat "Reader" "rows") rfl ?_
    walk_at "vc"
    refine ex_fld hx (Z.cls "Reader") (Z.noat "Reader" "at") rfl ?_
    refine s_ixL (SqL.of h1) h3 ?_
    walk_at "vc"
    refine lc_ex walk_tup (j := 2) (fun i => (ws.map V.str).getD i .non) (fun _ => true) (fun i v H => ∀ w, ws[i]? = some w → ∃ a, v = .ref a ∧ H a = some (.lst [.str w])) (fun i v H H' e h w hw => by obtain ⟨a, h1, h2⟩ := h w hw; exact ⟨a, h1, e _ _ h2⟩) ?_ (fun H' e => by walk_at "sq") (show (ws.map V.str).length ≤ 100000 by rw [List.length_map]; omega) (fun _ => rfl) ?_ ?_ ?_
    · rintro i H2 x H' hi ⟨e, hx⟩
      exact ⟨e, by rw [List.getD_eq_getElem?_getD, hx]; rfl⟩
    · intro i H2 _ _ Q1 k1
      exact k1 H2 (Evl.Ex.refl _)
    · intro i H2 hi _ e2 Q1 k1
      rw [List.length_map] at hi
      have e1 : (ws.map V.str).getD i .non = V.str ws[i] := by
        rw [List.getD_eq_getElem?_getD, List.getElem?_map, List.getElem?_eq_getElem hi]
        rfl
      rw [e1]
      walk_at "vc"
      intro p2 hp2
      refine k1 _ _ (Evl.Ex.new hp2) fun w hw => ?_
      rw [List.getElem?_eq_getElem hi] at hw
      cases hw
      exact ⟨p2, rfl, nw_get hp2 upd_same⟩
    · intro D ys H2 hD e2 hy hm
      rw [List.length_map] at hm
      have hm2 : Made (fun _ => true) (fun i v H => ∀ l, (ws.map fun w => [w])[i]? = some l → ∃ a, v = V.ref a ∧ H a = some (.lst (l.map V.str))) (ws.map fun w => [w]).length ys (nw H (hid [D] H2)) := by
        rw [List.length_map]
        have e : (fun (i : Nat) (v : V) (H : Hp) => ∀ l, (ws.map fun w => [w])[i]? = some l → ∃ a, v = V.ref a ∧ H a = some (.lst (l.map V.str))) = (fun i v H => ∀ w, ws[i]? = some w → ∃ a, v = .ref a ∧ H a = some (.lst [.str w])) := by
          funext i v H
          rw [List.getElem?_map]
          cases ws[i]? with
          | none => simp
          | some w => simp
        rw [e]
        exact hm
      obtain ⟨qs, rfl, hqs, hq2⟩ := made_words hm2
      rw [List.length_map] at hqs
      have all : ∀ {qs : List Addr} {ws : List Str}, qs.length = ws.length → (∀ (i : Nat) (a : Addr) (l : List Str), qs[i]? = some a → (ws.map fun w => [w])[i]? = some l → H2 a = some (.lst (l.map V.str))) → DpAll K H2 (qs.map V.ref) ((ws.map fun w => [w]).map wD) := by
        intro qs
        induction qs with
        | nil =>
          intro ws hl _
          cases ws with
          | nil => exact .nil
          | cons => simp at hl
        | cons q qs ih =>
          intro ws hl hh
          cases ws with
          | nil => simp at hl
          | cons w ws => exact .cons (dp_words (SqL.of (hh 0 q [w] rfl rfl))) (ih (by simpa using hl) fun i a l h1 h2 => hh (i + 1) a l h1 h2)
      refine ⟨wD ls[i], (ws.map fun w => [w]).map wD, dp_words (SqL.of (e2 _ _ h4)), .lst (SqL.of hy) (all hqs fun i a l h1 h2 => ex_hid _ _ (ex_nw _ _ (hq2 i a l h1 h2))), wD_shaped (hok _ (List.getElem_mem c)).2.2, wDs_shaped fun l hl z hz => ?_, ?_⟩
      · obtain ⟨y, hy, rfl⟩ := List.mem_map.mp hl
        rw [List.mem_singleton.mp hz]
        exact hwd y hy
      · have e : (((ws.map fun w => [w]).map wD).any fun z => PyData.eqv z (wD ls[i])) = isAt ls i ws := by
          unfold isAt
          rw [List.getElem?_eq_getElem c, List.any_map, List.any_map]
          congr 1
          funext w
          exact wD_eqv [w] ls[i]
        rw [e]
        exact k _ e2
  · refine iteF_of (decide_eq_false (by omega)) ?_
    have e : isAt ls i ws = false := by
      unfold isAt
      rw [List.getElem?_eq_none_iff.mpr (by omega)]
    have k' := k _ (Evl.Ex.refl _)
    rw [e] at k'
    exact k'
def spIsAtR (K : PySem.W.Frag) : Sp := fun vs H Q _ => ∃ (x L : Addr) (i : Nat) (ls : List (List Str)) (ws : List Str), vs = .ref x :: ws.map V.str ∧ RdAt K H x L i ∧ WordsAt H L ls ∧ (∀ l ∈ ls, LineOk l) ∧ ws.length ≤ 2 ∧ (∀ z ∈ ws, wdB z = true) ∧ i ≤ ls.length ∧ ∀ H', Ex H H' → Q (.bl (isAt ls i ws)) H'
theorem RdAt.mono {H H' : Hp} (e : Ex H H') {x L : Addr} {i : Nat} (h : RdAt K H x L i) : RdAt K H' x L i := let ⟨dx, a⟩ := h; ⟨dx, e _ _ a⟩
theorem D_Reader_is_at (Z : Zf K mg) : FnR P w K mg base CX0 1 (He.ma K (He.ga K "Reader") "is_at") (spIsAtR K) := by
  obtain ⟨fd, F⟩ := Z.def_ 20 (d := d_Reader_is_at) rfl
  obtain ⟨oc, od, dV, kV, doc, pm, an, cdv, ct, osl, rfl, lk, hcd, hD, hK⟩ := F.ex
  have hdv : dV = .none := by
    rcases hD with ⟨_, e⟩ | ⟨e, _⟩
    · exact e
    · exact absurd rfl e
  subst hdv
  have hb : ∀ us rest : List Value, us.length = (["self"] : List Str).length → bindArgs (PySem.W.fnOf "is_at" "Reader.is_at" (defArgs s_Reader_is_at) (defBody s_Reader_is_at) (defScope s_Reader_is_at) .none kV doc pm an cdv ct) ⟨us ++ rest, []⟩ = (newTuple rest >>= fun t => pure ((["self"] : List Str).zip us ++ [(("words" : Str), t)])) :=
    StX.bind_star1 (B := fun us => bindArgs (PySem.W.fnOf "is_at" "Reader.is_at" (defArgs s_Reader_is_at) (defBody s_Reader_is_at) (defScope s_Reader_is_at) .none kV doc pm an cdv ct) ⟨us, []⟩) (p1 := "self") (pv := "words") (fun a => by rfl) (fun a r rs => by rfl)
  have G := StX.fn_star (P := P) (w := w) (K := K) (mg := mg) (base := base) (CX := CX0) (k := 0) (N := ["self", "words", "word"]) (ps := ["self"]) (pv := "words") (sp := spIsAt K) lk hcd sc_Reader_is_at StX.cxUp_none hb fun A outer s H vs Q E hr hs => by
    obtain ⟨t, h1, h2⟩ := is_at_body Z _ cdv A outer s H vs Q E hr hs
    exact ⟨t, h1.nox, h2⟩
  refine G.imp fun vs H Q E h => ?_
  obtain ⟨x, L, i, ls, ws, rfl, hx, hL, hok, hws, hwd, hi, k⟩ := h
  refine ⟨[.ref x], ws.map V.str, rfl, rfl, by rw [List.length_map, sizeLine_eq]; omega, fun p hp => ?_⟩
  have e := Evl.Ex.new (o := .tup (ws.map V.str)) hp
  exact ⟨x, p, L, i, ls, ws, rfl, hx.mono e, hL.mono e, hok, SqT.of upd_same, hws, hwd, hi, fun H' e' => k H' (Evl.Ex.trans e e')⟩
/-! ### bound_in -/
def spBound (K : PySem.W.Frag) : Sp := fun vs H Q _ => ∃ (x L : Addr) (i : Nat) (ls : List (List Str)) (w : Str) (b lo : Int), vs = [.ref x, .int lo] ∧ RdAt K H x L i ∧ WordsAt H L ls ∧ ls[i]? = some [w, num b] ∧ 0 ≤ lo ∧ lo ≤ b ∧ b ≤ 12 ∧ ∀ H', Ex H H' → Q (.int b) H'
theorem sc_Reader_bound_in : FnScope ["self", "least", "words"] ["self", "least"] (defScope s_Reader_bound_in) := ⟨rfl, rfl, rfl, by decide +kernel, rfl, by decide +kernel, by decide +kernel⟩
theorem D_Reader_bound_in (Z : Zf K mg) : Mf P w K mg base "Reader" "bound_in" (4) ["self", "least"] (spBound K) := by
  refine meth_ok Z 21 rfl sc_Reader_bound_in (fun _ _ _ _ _ _ us hl => match us, hl with | [_, _], _ => rfl) (fun vs H Q E h => ?_) (fun f cdv A outer s H vs Q E hr h => ⟨_, (pss_cons (ps_asg (pe_ix ix_list (pe_fld (pv 0) rfl) (pe_fld (pv 0) rfl) (fun _ _ => rfl)) (pgn 2 sc_Reader_bound_in.nd))
      (pss_one (ps_ret (pe_ifExp (pt_cmpR op_eq (pe_callB call_lenL (by rfl) (Z.free "len") (by decide +kernel) (pa_cons (pv 2) pa_nil)) pe_int (nomark _)) (pe_callD (D_number_in Z) hr (by omega) rfl (pa_cons (pe_ix ix_list (pv 2) pe_int (fun _ _ => rfl)) (pa_cons (pv 1) (pa_cons (pe_gint rfl (Z.int "MOST_BOUND" 12)) pa_nil)))) pe_non)))), ?_⟩)
  · obtain ⟨x, L, i, ls, w, b, lo, rfl, _⟩ := h
    rfl
  · obtain ⟨x, L, i, ls, w, b, lo, rfl, ⟨dx, hx⟩, hL, hi, h0, h1, h2, k⟩ := h
    walk_at "vc"
    refine ex_fld hx (Z.cls "Reader") (Z.noat "Reader" "rows") rfl ?_
    walk_at "vc"
    refine ex_fld hx (Z.cls "Reader") (Z.noat "Reader" "at") rfl ?_
    obtain ⟨xs, a, q1, q2, q3, q4⟩ := hL.get hi
    refine s_ixL (SqL.of q1) q3 ?_
    have q5 : SqL K H a [.str w, .str (num b)] := SqL.of q4
    walk_at "vc"
    exact ⟨b, lo, 12, rfl, by omega, h2, h1, h2, fun H1 e1 => k H1 e1⟩
end
end Ov
/-! text OvP3 -/
set_option Elab.async false
set_option linter.all false
set_option maxRecDepth 100000
namespace Ov
open PySem PySem.Spec PyProof.Rows L2
open Rows TL
local macro_rules | `(tactic| walk_at "hp") => `(tactic| first
  | assumption
  | exact upd_same
  | (refine Evl.Ex.new (by assumption) _ _ ?_; walk_at "hp")
  | (refine (by assumption : Evl.Ex _ _) _ _ ?_; walk_at "hp"))
local macro_rules | `(tactic| walk_at "sq") => `(tactic| first
  | assumption
  | exact SqL.of (by walk_at "hp")
  | exact SqT.of (by walk_at "hp")
  | (refine Evl.ex_l (by assumption) ?_; walk_at "sq")
  | (refine Evl.ex_t (by assumption) ?_; walk_at "sq")
  | (refine Evl.ex_l (Evl.Ex.new (by assumption)) ?_; walk_at "sq")
  | (refine Evl.ex_t (Evl.Ex.new (by assumption)) ?_; walk_at "sq"))
local macro_rules | `(tactic| walk_at "ex") => `(tactic| first
  | assumption
  | exact Evl.Ex.refl _
  | (refine Evl.Ex.trans ?_ (Evl.Ex.new (by assumption)); walk_at "ex")
  | (refine Evl.Ex.trans ?_ (by assumption); walk_at "ex"))
local macro_rules | `(tactic| walk_at "s1") => `(tactic| first
  | refine ⟨_, rfl, ?_⟩
  | refine ⟨rfl, ?_⟩
  | refine ⟨_, _, rfl, rfl, ?_⟩
  | refine ⟨_, _, _, rfl, rfl, ?_⟩)
local macro_rules | `(tactic| walk_at "st") => `(tactic| repeat walk_at "s1")
local macro_rules | `(tactic| walk_at "v1") => `(tactic| first
  | ((with_reducible refine' s_var ?vch ?_); (case vch => exact rfl))
  | with_reducible refine' s_c ?_
  | with_reducible refine' s_seq ?_
  | with_reducible refine' s_asg ?_
  | with_reducible refine' s_name ?_
  | with_reducible refine' s_cons ?_
  | with_reducible refine' s_nil ?_
  | with_reducible refine' s_op ?_
  | with_reducible refine' s_rI0 ?_
  | with_reducible refine' s_ret ?_
  | with_reducible refine' s_test ?_
  | with_reducible refine' s_ifS ?_
  | with_reducible refine' s_call ?_
  | with_reducible refine' s_cb ?_
  | ((with_reducible refine' s_rEq ?vch ?_); (case vch => exact rfl))
  | ((with_reducible refine' s_rNe ?vch ?_); (case vch => exact rfl))
  | ((with_reducible refine' s_ixT ?vch ?vca ?_); (case vch => walk_at "sq"); (case vca => first | exact rfl | exact at_nat 0 rfl | exact at_nat 1 rfl | exact at_nat 2 rfl | exact at_nat 3 rfl | exact at_nat 4 rfl))
  | ((with_reducible refine' s_ixL ?vch ?vca ?_); (case vch => walk_at "sq"); (case vca => first | exact rfl | exact at_nat 0 rfl | exact at_nat 1 rfl | exact at_nat 2 rfl | exact at_nat 3 rfl | exact at_nat 4 rfl))
  | with_reducible refine iteT' ?_
  | with_reducible refine iteF' ?_
  | with_reducible refine' ex_bl ?_
  | with_reducible refine' ex_int ?_
  | with_reducible refine' ex_str ?_
  | with_reducible refine' ex_int1 ?_
  | with_reducible refine' ex_str1 ?_
  | with_reducible refine' ex_int2 ?_
  | with_reducible refine' ex_pair ?_
  | with_reducible refine' s_un ?_
  | with_reducible refine' s_B ?_
  | with_reducible refine' s_andV ?_
  | with_reducible refine' s_orV ?_
  | with_reducible refine' s_notV ?_
  | with_reducible refine' s_and ?_
  | with_reducible refine' s_or ?_
  | with_reducible refine' s_not ?_
  | with_reducible refine' s_if ?_
  | with_reducible refine' s_chain ?_
  | with_reducible refine' s_next ?_
  | with_reducible refine' s_break ?_
  | with_reducible refine' s_cont ?_
  | with_reducible refine' s_drop ?_
  | with_reducible refine' s_retN ?_
  | with_reducible refine' s_par ?_
  | ((with_reducible refine' s_aug ?vch ?_); (case vch => exact rfl))
  | with_reducible refine' s_ip ?_
  | with_reducible refine' s_gcons ?_
  | with_reducible refine' s_gnil ?_
  | ((with_reducible refine' s_gtup ?vch ?vca ?_); (case vch => walk_at "sq"); (case vca => exact rfl))
  | with_reducible refine' s_tup ?_
  | with_reducible refine' s_lst ?_
  | with_reducible refine' s_sl ?_
  | with_reducible refine' s_part ?_
  | with_reducible refine' s_nopart ?_
  | with_reducible refine' s_fld ?_
  | with_reducible refine' s_make ?_
  | with_reducible refine' s_meth ?_
  | with_reducible refine' s_prop ?_
  | with_reducible refine' s_makeK ?_
  | with_reducible refine' s_gsub ?_
  | ((with_reducible refine' s_setL ?vch ?vca ?_); (case vch => walk_at "hp"); (case vca => exact rfl))
  | with_reducible refine' s_par3 ?_
  | with_reducible refine' ex_three ?_
  | with_reducible refine' s_star ?_
  | with_reducible refine' s_dnewK ?_
  | with_reducible refine' s_dsetd ?_
  | with_reducible refine' s_methR ?_
  | with_reducible refine' s_fldaug ?_
  | with_reducible refine' s_dictzip ?_
  | with_reducible refine' s_sfld ?_
  | with_reducible refine' s_bm ?_
  | with_reducible refine' s_bm0 ?_
  | with_reducible refine' s_m1 ?_
  | with_reducible refine' s_dget ?_
  | with_reducible refine' s_lc ?_
  | with_reducible refine' s_for ?_
  | with_reducible refine' s_iList ?_
  | with_reducible refine' s_iTup ?_
  | with_reducible refine' s_iStr ?_
  | with_reducible refine' s_iRng1 ?_
  | with_reducible refine' s_iRng2 ?_
  | with_reducible refine' s_yes ?_
  | with_reducible refine' s_rU ?_
  | ((with_reducible refine' s_isiP ?vch ?_); (case vch => exact rfl))
  | ((with_reducible refine' ex_lenL ?vch ?_); (case vch => walk_at "sq"))
  | ((with_reducible refine' ex_lenT ?vch ?_); (case vch => walk_at "sq"))
  | ((with_reducible refine' ex_tupL ?vch ?_); (case vch => walk_at "sq"))
  | ((with_reducible refine' ex_lstT ?vch ?_); (case vch => walk_at "sq"))
  | ((with_reducible refine' ex_srcL ?vch ?_); (case vch => walk_at "sq"))
  | ((with_reducible refine' ex_srcT ?vch ?_); (case vch => walk_at "sq"))
  | ((with_reducible refine' s_mk ?vch ?_); (case vch => exact small_le (Nat.le_of_ble_eq_true rfl)))
  | with_reducible refine' ⟨_, _, rfl, rfl, ?_⟩
  | with_reducible refine' ⟨⟨_, rfl⟩, ?_⟩
  | with_reducible refine' ⟨rfl, ?_⟩
  | ((with_reducible refine' iteT_of ?vch ?_); (case vch => exact rfl))
  | ((with_reducible refine' iteF_of ?vch ?_); (case vch => exact rfl)))
local macro_rules | `(tactic| walk_at "vc") => `(tactic| repeat walk_at "v1")
/-! ### what is made of tuples stands while tuples stand -/
def TEx (H H' : Hp) : Prop := ∀ a xs, H a = some (.tup xs) → H' a = some (.tup xs)
theorem TEx.trans {H H' H2 : Hp} (a : TEx H H') (b : TEx H' H2) : TEx H H2 := fun p xs h => b p xs (a p xs h)
theorem tex_of {H H' : Hp} (e : Ex H H') : TEx H H' := fun a xs h => e a _ h
def NoTup (H : Hp) (a : Addr) : Prop := ∀ xs, H a ≠ some (.tup xs)
theorem tex_hid {as bs : List Addr} {H H' : Hp} (e : Ex (hid as H) (hid bs H')) (n : ∀ a ∈ as, NoTup H a) : TEx H H' := fun a xs h => ex_hid _ _ (e _ _ (hid_get h fun m => n a m xs h))
theorem tex_upd {H : Hp} {a : Addr} {o : HO} (n : NoTup H a) : TEx H (upd H a o) := fun b xs h => by
  have ne : b ≠ a := fun e => n xs (by rw [← e]; exact h)
  rw [upd_ne ne]
  exact h
theorem noTup_ins {H : Hp} {a C dx : Addr} {fs : List (Str × V)} (h : H a = some (.ins C dx fs)) : NoTup H a := fun xs q => by rw [h] at q; cases q
theorem noTup_lst {H : Hp} {a : Addr} {ys : List V} (h : H a = some (.lst ys)) : NoTup H a := fun xs q => by rw [h] at q; cases q
theorem noTup_none {H : Hp} {a : Addr} (h : H a = none) : NoTup H a := fun xs q => by rw [h] at q; cases q
theorem ItemLn.tex {H H' : Hp} (e : TEx H H') {v : V} {l : Ln} (h : ItemLn H v l) : ItemLn H' v l := by
  obtain ⟨p, k, hv, h⟩ := h
  refine ⟨p, k, hv, ?_⟩
  cases l with
  | work x f as =>
    obtain ⟨q, h1, h2⟩ := h
    exact ⟨q, e _ _ h1, e _ _ h2⟩
  | load x a o => exact e _ _ h
  | store a o x => exact e _ _ h
  | copy x y => exact e _ _ h
  | step n => exact e _ _ h
theorem ItemsAt.tex {H H' : Hp} (e : TEx H H') : ∀ {r : Rows} {vs : List V}, ItemsAt H r vs → ItemsAt H' r vs
  | .nil, _, h => h
  | .line l r, _, ⟨v, vs', a, b, c⟩ => ⟨v, vs', a, b.tex e, ItemsAt.tex e c⟩
  | .iff b f one two r, _, ⟨p, p1, p2, vs1, vs2, vs', k, a, h, h1, i1, h2, i2, i3⟩ => ⟨p, p1, p2, vs1, vs2, vs', k, a, e _ _ h, e _ _ h1, ItemsAt.tex e i1, e _ _ h2, ItemsAt.tex e i2, ItemsAt.tex e i3⟩
  | .whl b body r, _, ⟨p, p1, vs1, vs', k, a, h, h1, i1, i3⟩ => ⟨p, p1, vs1, vs', k, a, e _ _ h, e _ _ h1, ItemsAt.tex e i1, ItemsAt.tex e i3⟩
/-! ### rows one behind another -/
def app : Rows → Rows → Rows
  | .nil, s => s
  | .line l r, s => .line l (app r s)
  | .iff b e one two r, s => .iff b e one two (app r s)
  | .whl b body r, s => .whl b body (app r s)
theorem app_nil : ∀ r, app r .nil = r
  | .nil => rfl
  | .line l r => by show Rows.line l (app r .nil) = _; rw [app_nil r]
  | .iff b e one two r => by show Rows.iff b e one two (app r .nil) = _; rw [app_nil r]
  | .whl b body r => by show Rows.whl b body (app r .nil) = _; rw [app_nil r]
theorem app_assoc : ∀ r s t, app (app r s) t = app r (app s t)
  | .nil, _, _ => rfl
  | .line l r, s, t => by show Rows.line l (app (app r s) t) = Rows.line l (app r (app s t)); rw [app_assoc r s t]
  | .iff b e one two r, s, t => by show Rows.iff b e one two (app (app r s) t) = Rows.iff b e one two (app r (app s t)); rw [app_assoc r s t]
  | .whl b body r, s, t => by show Rows.whl b body (app (app r s) t) = Rows.whl b body (app r (app s t)); rw [app_assoc r s t]
theorem nl_app : ∀ r s, nl (app r s) = nl r + nl s
  | .nil, s => by show nl s = 0 + nl s; omega
  | .line l r, s => by show 1 + nl (app r s) = 1 + nl r + nl s; rw [nl_app r s]; omega
  | .iff b e one two r, s => by
    show 1 + nl one + (if e then 1 + nl two else 0) + 1 + nl (app r s) = 1 + nl one + (if e then 1 + nl two else 0) + 1 + nl r + nl s
    rw [nl_app r s]; omega
  | .whl b body r, s => by
    show 1 + nl body + 1 + nl (app r s) = 1 + nl body + 1 + nl r + nl s
    rw [nl_app r s]; omega
theorem items_app {H : Hp} : ∀ {r s : Rows} {vs ws : List V}, ItemsAt H r vs → ItemsAt H s ws → ItemsAt H (app r s) (vs ++ ws)
  | .nil, s, vs, ws, h, q => by
    have e : vs = [] := h
    rw [e]; exact q
  | .line l r, s, _, ws, ⟨v, vs', a, b, c⟩, q => ⟨v, vs' ++ ws, by rw [a]; rfl, b, items_app c q⟩
  | .iff b f one two r, s, _, ws, ⟨p, p1, p2, vs1, vs2, vs', k, a, h, h1, i1, h2, i2, i3⟩, q => ⟨p, p1, p2, vs1, vs2, vs' ++ ws, k, by rw [a]; rfl, h, h1, i1, h2, i2, items_app i3 q⟩
  | .whl b body r, s, _, ws, ⟨p, p1, vs1, vs', k, a, h, h1, i1, i3⟩, q => ⟨p, p1, vs1, vs' ++ ws, k, by rw [a]; rfl, h, h1, i1, items_app i3 q⟩
/-! ### flat rows as lists -/
def lns : Rows → List Ln
  | .line l r => l :: lns r
  | _ => []
theorem items_lns {H : Hp} : ∀ {r : Rows} {vs : List V}, Flat r → ItemsAt H r vs → vs.length = (lns r).length ∧ ∀ (i : Nat) (l : Ln), (lns r)[i]? = some l → ∃ v : V, vs[i]? = some v ∧ ItemLn H v l
  | .nil, vs, _, h => by
    have e : vs = [] := h
    subst e
    exact ⟨rfl, fun i l q => by simp [lns] at q⟩
  | .line l r, _, hf, ⟨v, vs', rfl, b, c⟩ => by
    obtain ⟨h1, h2⟩ := items_lns (r := r) hf c
    refine ⟨by simp [lns, h1], fun i l' q => ?_⟩
    cases i with
    | zero =>
      cases (show some l = some l' from q)
      exact ⟨v, rfl, b⟩
    | succ i =>
      obtain ⟨v', e, hv⟩ := h2 i l' (by simpa [lns] using q)
      exact ⟨v', by simpa using e, hv⟩
  | .iff _ _ _ _ _, _, hf, _ => hf.elim
  | .whl _ _ _, _, hf, _ => hf.elim
theorem steps_lns : ∀ {r : Rows}, Flat r → steps r = ((lns r).map Ln.byn).sum
  | .nil, _ => rfl
  | .line l r, h => by
    show l.byn + steps r = ((l :: lns r).map Ln.byn).sum
    rw [steps_lns (r := r) h, List.map_cons, List.sum_cons]
  | .iff _ _ _ _ _, h => h.elim
  | .whl _ _ _, h => h.elim
theorem nl_lns : ∀ {r : Rows}, Flat r → nl r = (lns r).length
  | .nil, _ => rfl
  | .line l r, h => by
    show 1 + nl r = (lns r).length + 1
    rw [nl_lns (r := r) h]; omega
  | .iff _ _ _ _ _, h => h.elim
  | .whl _ _ _, h => h.elim
theorem flat_app : ∀ {r s : Rows}, Flat (app r s) → Flat r ∧ Flat s
  | .nil, _, h => ⟨trivial, h⟩
  | .line l r, s, h => ⟨(flat_app (r := r) (s := s) h).1, (flat_app (r := r) (s := s) h).2⟩
  | .iff _ _ _ _ _, _, h => h.elim
  | .whl _ _ _, _, h => h.elim
theorem all_lns {P : Ln → Prop} : ∀ {r : Rows}, Flat r → AllLn P r → ∀ l ∈ lns r, P l
  | .nil, _, _, l, h => nomatch h
  | .line l0 r, hf, ha, l, h => by
    rcases List.mem_cons.mp h with rfl | h
    · exact ha.1
    · exact all_lns (r := r) hf ha.2 l h
  | .iff _ _ _ _ _, h, _, _, _ => h.elim
  | .whl _ _ _, h, _, _, _ => h.elim
theorem sum_filter (f : Nat → Int) (g : Nat → Bool) (h : ∀ i, g i = false → f i = 0) : ∀ n, (((List.range n).filter g).map f).sum = ((List.range n).map f).sum
  | 0 => rfl
  | n + 1 => by
    rw [List.range_succ, List.filter_append, List.map_append, List.map_append, List.sum_append, List.sum_append, sum_filter f g h n]
    cases c : g n with
    | true => simp [c]
    | false => simp [c, h n c]
theorem range_getD (ls : List Ln) (d : Ln) : (List.range ls.length).map (fun i => (ls.getD i d).byn) = ls.map Ln.byn := by
  apply List.ext_getElem
  · simp
  · intro i h1 h2
    simp only [List.length_map] at h2
    simp [h2]
/-! ### items as data -/
theorem canLay_str {z : Str} (h : wdB z = true) : (PyData.str z).canLay0 = true := by
  simp only [PyData.canLay0]
  exact wd_ok h
theorem item_data {K : PySem.W.Frag} {H : Hp} {v : V} {l : Ln} (hl : LnOk l) (h : ItemLn H v l) : ∃ ds : List PyData, Dp K H v (.tuple ds) ∧ PyData.canLayAll0 ds = true ∧ PyData.depthAll ds ≤ 1 := by
  obtain ⟨p, k, rfl, h⟩ := h
  have w0 : ∀ {z : Str}, wdB z = true → (PyData.str z).canLay0 = true := canLay_str
  have kw : wdB "work" = true ∧ wdB "load" = true ∧ wdB "store" = true ∧ wdB "copy" = true ∧ wdB "step" = true := by decide +kernel
  obtain ⟨k1, k2, k3, k4, k5⟩ := kw
  cases l with
  | work x f as =>
    obtain ⟨q, h1, h2⟩ := h
    obtain ⟨c1, ⟨c, c2, c3, rfl, _⟩, c4⟩ := hl
    refine ⟨[.str "work", .str x, .str ⟨#[c]⟩, .tuple (as.map PyData.str), .int k], .tup (SqT.of h1) (.cons (.str _) (.cons (.str _) (.cons (.str _) (.cons (.tup (SqT.of h2) (dpAll_str as)) (.cons (.int _) .nil))))), ?_, ?_⟩
    · have a1 := w0 k1
      have a2 := w0 c1.facts.2.1
      have a3 := w0 (spot_one c2 c3).facts.2.1
      have a4 := wD_lay (ws := as) fun z hz => (c4 z hz).facts.2.1
      simp only [PyData.canLayAll0, a1, a2, a3, Bool.true_and]
      simp only [PyData.canLay0, a4, Bool.true_and, Bool.and_self]
    · simp only [PyData.depthAll, PyData.depth, wD_depth]
      decide
  | load x a o =>
    obtain ⟨c1, ⟨c, c2, c3, rfl⟩, _⟩ := hl
    refine ⟨[.str "load", .str x, .str ⟨#[c]⟩, .int o, .int k], .tup (SqT.of h) (.cons (.str _) (.cons (.str _) (.cons (.str _) (.cons (.int _) (.cons (.int _) .nil))))), ?_, ?_⟩
    · have a1 := w0 k2
      have a2 := w0 c1.facts.2.1
      have a3 := w0 (cap_facts c2 c3).2
      simp only [PyData.canLayAll0, a1, a2, a3, Bool.true_and]
      simp only [PyData.canLay0, Bool.and_self]
    · simp only [PyData.depthAll, PyData.depth]
      decide
  | store a o x =>
    obtain ⟨c1, ⟨c, c2, c3, rfl⟩, _⟩ := hl
    refine ⟨[.str "store", .str ⟨#[c]⟩, .int o, .str x, .int k], .tup (SqT.of h) (.cons (.str _) (.cons (.str _) (.cons (.int _) (.cons (.str _) (.cons (.int _) .nil))))), ?_, ?_⟩
    · have a1 := w0 k3
      have a2 := w0 c1.facts.2.1
      have a3 := w0 (cap_facts c2 c3).2
      simp only [PyData.canLayAll0, a1, a2, a3, Bool.true_and]
      simp only [PyData.canLay0, Bool.true_and, Bool.and_self]
    · simp only [PyData.depthAll, PyData.depth]
      decide
  | copy x y =>
    refine ⟨[.str "copy", .str x, .str y, .int k], .tup (SqT.of h) (.cons (.str _) (.cons (.str _) (.cons (.str _) (.cons (.int _) .nil)))), ?_, ?_⟩
    · have a1 := w0 k4
      have a2 := w0 hl.1.facts.2.1
      have a3 := w0 hl.2.facts.2.1
      simp only [PyData.canLayAll0, a1, a2, a3, Bool.true_and]
      simp only [PyData.canLay0, Bool.and_self]
    · simp only [PyData.depthAll, PyData.depth]
      decide
  | step n =>
    refine ⟨[.str "step", .int n, .int k], .tup (SqT.of h) (.cons (.str _) (.cons (.int _) (.cons (.int _) .nil))), ?_, ?_⟩
    · have a1 := w0 k5
      simp only [PyData.canLayAll0, a1, Bool.true_and]
      simp only [PyData.canLay0, Bool.and_self]
    · simp only [PyData.depthAll, PyData.depth]
      decide
theorem items_data {K : PySem.W.Frag} {H : Hp} : ∀ {r : Rows} {vs : List V}, Flat r → AllLn LnOk r → ItemsAt H r vs → ∃ ds : List PyData, DpAll K H vs ds ∧ PyData.canLayAll0 ds = true ∧ PyData.depthAll ds ≤ 2 ∧ (ds.any fun z => PyData.eqv z .none) = false
  | .nil, vs, _, _, h => by
    have e : vs = [] := h
    subst e
    exact ⟨[], .nil, by simp [PyData.canLayAll0], by simp [PyData.depthAll], rfl⟩
  | .line l r, _, hf, ha, ⟨v, vs', rfl, b, c⟩ => by
    obtain ⟨ds, d1, d2, d3, d4⟩ := items_data (r := r) hf ha.2 c
    obtain ⟨es, e1, e2, e3⟩ := item_data (K := K) ha.1 b
    refine ⟨.tuple es :: ds, .cons e1 d1, ?_, ?_, ?_⟩
    · simp only [PyData.canLayAll0, PyData.canLay0, e2, d2, Bool.and_self]
    · simp only [PyData.depthAll, PyData.depth]
      omega
    · rw [List.any_cons, d4]
      simp [PyData.eqv]
  | .iff _ _ _ _ _, _, h, _, _ => h.elim
  | .whl _ _ _, _, h, _, _ => h.elim
/-! ### where the reader stands -/
theorem drop_get {ls : List (List Str)} {j : Nat} {l : List Str} {t : List (List Str)} (h : ls.drop j = l :: t) : ls[j]? = some l ∧ ls.drop (j + 1) = t ∧ j < ls.length := by
  have hlt : j < ls.length := by
    by_cases c : j < ls.length
    · exact c
    · rw [List.drop_eq_nil_of_le (by omega)] at h; cases h
  rw [List.drop_eq_getElem_cons hlt] at h
  injection h with h1 h2
  exact ⟨by rw [List.getElem?_eq_getElem hlt, h1], h2, hlt⟩
theorem drop_go {ls : List (List Str)} {j : Nat} {r : Rows} {t : List (List Str)} (h : ls.drop j = wl r ++ t) : ls.drop (j + nl r) = t := by
  rw [← List.drop_drop, h, ← wl_len r, List.drop_left]
theorem WordsAt.hide {H : Hp} {x : Addr} (nx : ∀ ys, H x ≠ some (.lst ys)) {p : Addr} {ls : List (List Str)} (h : WordsAt H p ls) : WordsAt (hid [x] H) p ls := by
  obtain ⟨ps, h1, h2, h3⟩ := h
  have ne : ∀ {a ys}, H a = some (.lst ys) → a ∉ [x] := fun e m => nx _ (by rw [← List.mem_singleton.mp m]; exact e)
  exact ⟨ps, hid_get h1 (ne h1), h2, fun i a ws q1 q2 => hid_get (h3 i a ws q1 q2) (ne (h3 i a ws q1 q2))⟩
end Ov
/-! text OvP4 -/
set_option Elab.async false
set_option linter.all false
set_option maxRecDepth 100000
namespace Ov
open PySem PySem.Spec PyProof.Rows L2
open Rows TL
local macro_rules | `(tactic| walk_at "hp") => `(tactic| first
  | assumption
  | exact upd_same
  | (refine Evl.Ex.new (by assumption) _ _ ?_; walk_at "hp")
  | (refine (by assumption : Evl.Ex _ _) _ _ ?_; walk_at "hp"))
local macro_rules | `(tactic| walk_at "sq") => `(tactic| first
  | assumption
  | exact SqL.of (by walk_at "hp")
  | exact SqT.of (by walk_at "hp")
  | (refine Evl.ex_l (by assumption) ?_; walk_at "sq")
  | (refine Evl.ex_t (by assumption) ?_; walk_at "sq")
  | (refine Evl.ex_l (Evl.Ex.new (by assumption)) ?_; walk_at "sq")
  | (refine Evl.ex_t (Evl.Ex.new (by assumption)) ?_; walk_at "sq"))
local macro_rules | `(tactic| walk_at "ex") => `(tactic| first
  | assumption
  | exact Evl.Ex.refl _
  | (refine Evl.Ex.trans ?_ (Evl.Ex.new (by assumption)); walk_at "ex")
  | (refine Evl.Ex.trans ?_ (by assumption); walk_at "ex"))
local macro_rules | `(tactic| walk_at "s1") => `(tactic| first
  | refine ⟨_, rfl, ?_⟩
  | refine ⟨rfl, ?_⟩
  | refine ⟨_, _, rfl, rfl, ?_⟩
  | refine ⟨_, _, _, rfl, rfl, ?_⟩)
local macro_rules | `(tactic| walk_at "st") => `(tactic| repeat walk_at "s1")
local macro_rules | `(tactic| walk_at "v1") => `(tactic| first
  | ((with_reducible refine' s_var ?vch ?_); (case vch => exact rfl))
  | with_reducible refine' s_c ?_
  | with_reducible refine' s_seq ?_
  | with_reducible refine' s_asg ?_
  | with_reducible refine' s_name ?_
  | with_reducible refine' s_cons ?_
  | with_reducible refine' s_nil ?_
  | with_reducible refine' s_op ?_
  | with_reducible refine' s_rI0 ?_
  | with_reducible refine' s_ret ?_
  | with_reducible refine' s_test ?_
  | with_reducible refine' s_ifS ?_
  | with_reducible refine' s_call ?_
  | with_reducible refine' s_cb ?_
  | ((with_reducible refine' s_rEq ?vch ?_); (case vch => exact rfl))
  | ((with_reducible refine' s_rNe ?vch ?_); (case vch => exact rfl))
  | ((with_reducible refine' s_ixT ?vch ?vca ?_); (case vch => walk_at "sq"); (case vca => first | exact rfl | exact at_nat 0 rfl | exact at_nat 1 rfl | exact at_nat 2 rfl | exact at_nat 3 rfl | exact at_nat 4 rfl))
  | ((with_reducible refine' s_ixL ?vch ?vca ?_); (case vch => walk_at "sq"); (case vca => first | exact rfl | exact at_nat 0 rfl | exact at_nat 1 rfl | exact at_nat 2 rfl | exact at_nat 3 rfl | exact at_nat 4 rfl))
  | with_reducible refine iteT' ?_
  | with_reducible refine iteF' ?_
  | with_reducible refine' ex_bl ?_
  | with_reducible refine' ex_int ?_
  | with_reducible refine' ex_str ?_
  | with_reducible refine' ex_int1 ?_
  | with_reducible refine' ex_str1 ?_
  | with_reducible refine' ex_int2 ?_
  | with_reducible refine' ex_pair ?_
  | with_reducible refine' s_un ?_
  | with_reducible refine' s_B ?_
  | with_reducible refine' s_andV ?_
  | with_reducible refine' s_orV ?_
  | with_reducible refine' s_notV ?_
  | with_reducible refine' s_and ?_
  | with_reducible refine' s_or ?_
  | with_reducible refine' s_not ?_
  | with_reducible refine' s_if ?_
  | with_reducible refine' s_chain ?_
  | with_reducible refine' s_next ?_
  | with_reducible refine' s_break ?_
  | with_reducible refine' s_cont ?_
  | with_reducible refine' s_drop ?_
  | with_reducible refine' s_retN ?_
  | with_reducible refine' s_par ?_
  | ((with_reducible refine' s_aug ?vch ?_); (case vch => exact rfl))
  | with_reducible refine' s_ip ?_
  | with_reducible refine' s_gcons ?_
  | with_reducible refine' s_gnil ?_
  | ((with_reducible refine' s_gtup ?vch ?vca ?_); (case vch => walk_at "sq"); (case vca => exact rfl))
  | with_reducible refine' s_tup ?_
  | with_reducible refine' s_lst ?_
  | with_reducible refine' s_sl ?_
  | with_reducible refine' s_part ?_
  | with_reducible refine' s_nopart ?_
  | with_reducible refine' s_fld ?_
  | with_reducible refine' s_make ?_
  | with_reducible refine' s_meth ?_
  | with_reducible refine' s_prop ?_
  | with_reducible refine' s_makeK ?_
  | with_reducible refine' s_gsub ?_
  | ((with_reducible refine' s_setL ?vch ?vca ?_); (case vch => walk_at "hp"); (case vca => exact rfl))
  | with_reducible refine' s_par3 ?_
  | with_reducible refine' ex_three ?_
  | with_reducible refine' s_star ?_
  | with_reducible refine' s_dnewK ?_
  | with_reducible refine' s_dsetd ?_
  | with_reducible refine' s_methR ?_
  | with_reducible refine' s_fldaug ?_
  | with_reducible refine' s_dictzip ?_
  | with_reducible refine' s_sfld ?_
  | with_reducible refine' s_bm ?_
  | with_reducible refine' s_bm0 ?_
  | with_reducible refine' s_m1 ?_
  | with_reducible refine' s_dget ?_
  | with_reducible refine' s_lc ?_
  | with_reducible refine' s_for ?_
  | with_reducible refine' s_iList ?_
  | with_reducible refine' s_iTup ?_
  | with_reducible refine' s_iStr ?_
  | with_reducible refine' s_iRng1 ?_
  | with_reducible refine' s_iRng2 ?_
  | with_reducible refine' s_yes ?_
  | with_reducible refine' s_rU ?_
  | ((with_reducible refine' s_isiP ?vch ?_); (case vch => exact rfl))
  | ((with_reducible refine' ex_lenL ?vch ?_); (case vch => walk_at "sq"))
  | ((with_reducible refine' ex_lenT ?vch ?_); (case vch => walk_at "sq"))
  | ((with_reducible refine' ex_tupL ?vch ?_); (case vch => walk_at "sq"))
  | ((with_reducible refine' ex_lstT ?vch ?_); (case vch => walk_at "sq"))
  | ((with_reducible refine' ex_srcL ?vch ?_); (case vch => walk_at "sq"))
  | ((with_reducible refine' ex_srcT ?vch ?_); (case vch => walk_at "sq"))
  | ((with_reducible refine' s_mk ?vch ?_); (case vch => exact small_le (Nat.le_of_ble_eq_true rfl)))
  | with_reducible refine' ⟨_, _, rfl, rfl, ?_⟩
  | with_reducible refine' ⟨⟨_, rfl⟩, ?_⟩
  | with_reducible refine' ⟨rfl, ?_⟩
  | ((with_reducible refine' iteT_of ?vch ?_); (case vch => exact rfl))
  | ((with_reducible refine' iteF_of ?vch ?_); (case vch => exact rfl)))
local macro_rules | `(tactic| walk_at "vc") => `(tactic| repeat walk_at "v1")
section
variable {P : Program} {w : World} {K : PySem.W.Frag} {mg : Str → Option Value} {base : Heap}
/-- the reader after some lines -/
structure Rdr (K : PySem.W.Frag) (H : Hp) (x L : Addr) (ls : List (List Str)) (i : Nat) : Prop where
  at_ : RdAt K H x L i
  words : WordsAt H L ls
theorem Rdr.hide {H : Hp} {x L : Addr} {ls : List (List Str)} {i : Nat} (h : Rdr K H x L ls i) : WordsAt (hid [x] H) L ls := by
  obtain ⟨dx, hx⟩ := h.at_
  exact h.words.hide fun ys q => by rw [hx] at q; cases q
theorem Rdr.back {H H' : Hp} {x L : Addr} {ls : List (List Str)} {i : Nat} {as : List Addr} (h : Rdr K H x L ls i) (e : Ex (hid [x] H) (hid as H')) : WordsAt H' L ls := h.hide.mono (Evl.Ex.trans e ex_hid)
theorem byn_zero {l : Ln} (h : lnS l ≠ ("step" : Str)) : l.byn = 0 := by
  cases l <;> first | rfl | exact absurd rfl h
theorem isAt_of {ls : List (List Str)} {j : Nat} {l : List Str} (h : ls[j]? = some l) (ws : List Str) : isAt ls j ws = ws.any fun w => decide (([w] : List Str) = l) := by
  unfold isAt
  rw [h]
theorem lw_two (l : Ln) : ∃ a b r, lw l = a :: b :: r := by
  cases l with
  | work x f as => exact ⟨_, _, _, rfl⟩
  | load x a o => exact ⟨_, _, _, rfl⟩
  | store a o x => exact ⟨_, _, _, rfl⟩
  | copy x y => exact ⟨_, _, _, rfl⟩
  | step n => exact ⟨_, _, _, rfl⟩
theorem any_two (a b : Str) (r : List Str) (ws : List Str) : (ws.any fun w => decide (([w] : List Str) = a :: b :: r)) = false := by
  rw [List.any_eq_false]
  intro w _
  simp
theorem wl_app : ∀ r s, wl (app r s) = wl r ++ wl s
  | .nil, s => rfl
  | .line l r, s => by
    show lw l :: wl (app r s) = lw l :: (wl r ++ wl s)
    rw [wl_app r s]
  | .iff b e one two r, s => by
    show (["if", num b] : List Str) :: (wl one ++ ((if e then (["else"] : List Str) :: wl two else []) ++ ((["end"] : List Str) :: wl (app r s)))) = ((["if", num b] : List Str) :: (wl one ++ ((if e then (["else"] : List Str) :: wl two else []) ++ ((["end"] : List Str) :: wl r)))) ++ wl s
    rw [wl_app r s]
    simp
  | .whl b body r, s => by
    show (["while", num b] : List Str) :: (wl body ++ ((["end"] : List Str) :: wl (app r s))) = ((["while", num b] : List Str) :: (wl body ++ ((["end"] : List Str) :: wl r))) ++ wl s
    rw [wl_app r s]
    simp
theorem lns_app : ∀ {r s : Rows}, Flat (app r s) → lns (app r s) = lns r ++ lns s
  | .nil, _, _ => rfl
  | .line l r, s, h => by
    show l :: lns (app r s) = l :: lns r ++ lns s
    rw [lns_app (r := r) (s := s) h]
    rfl
  | .iff _ _ _ _ _, _, h => h.elim
  | .whl _ _ _, _, h => h.elim
def spRounds (K : PySem.W.Frag) : Sp := fun vs H Q _ => ∃ (x L : Addr) (i : Nat) (ls : List (List Str)) (b : Int) (body : Rows) (rest : List (List Str)), vs = [.ref x] ∧ Rdr K H x L ls i ∧ (∀ l ∈ ls, LineOk l) ∧ ls.length ≤ 400 ∧
  ls.drop i = (["while", num b] : List Str) :: (wl body ++ ((["end"] : List Str) :: rest)) ∧ Flat body ∧ AllLn LnOk body ∧ 1 ≤ b ∧ b ≤ 12 ∧ 1 ≤ steps body ∧ steps body ≤ 8 ∧
  ∀ v H', Ex (hid [x] H) (hid [x] H') → RdAt K H' x L (i + (1 + nl body + 1)) → ItemsAt H' (.whl b body .nil) [v] → Q v H'
def WRounds (K : PySem.W.Frag) (H : Hp) (x q L : Addr) (i : Nat) (b : Int) (body : Rows) (m : Nat) (σ : L2.St) (H' : Hp) : Prop := ∃ r0 r ys, body = app r0 r ∧ m = nl r ∧ σ = [some (.ref x), some (.int b), some (.int (i : Int)), some (.ref q), none] ∧ Ex (hid [x] H) (hid [x, q] H') ∧ RdAt K H' x L (i + 1 + nl r0) ∧ H' q = some (.lst ys) ∧ ItemsAt H' r0 ys
theorem sc_Reader_rounds_in : FnScope ["self", "bound", "begin", "items", "item"] ["self"] (defScope s_Reader_rounds_in) := ⟨rfl, rfl, rfl, by decide +kernel, rfl, by decide +kernel, by decide +kernel⟩
theorem D_Reader_rounds_in (Z : Zf K mg) : Mf P w K mg base "Reader" "rounds_in" (7) ["self"] (spRounds K) := by
  refine meth_ok Z 24 rfl sc_Reader_rounds_in (fun _ _ _ _ _ _ us hl => match us, hl with | [_], _ => rfl) (fun vs H Q E h => ?_) (fun f cdv A outer s H vs Q E hr h => ⟨_, (pss_cons (ps_par (i := 1) (j := 2) (by rfl) sc_Reader_rounds_in.nd rfl rfl (by decide) rfl rfl (pa_cons (pe_methD (D_Reader_bound_in Z) (Z.cls "Reader") (Z.meth "Reader" "bound_in") hr (by omega) (pv 0) (pa_cons pe_int pa_nil)) (pa_cons (pe_fld (pv 0) rfl) pa_nil)) (by rfl))
      (pss_cons (ps_if (pt_cmpR op_isN (pv 1) pe_non (nomark _)) (pss_one (ps_ret pe_non)) pss_nil)
      (pss_cons (ps_fldaug (pv 0) pe_int in_add)
      (pss_cons (ps_asg (pe_lst pa_nil) (pgn 3 sc_Reader_rounds_in.nd))
      (pss_cons (ps_while PassesOwn.never (PW.pt (pw_and (pt_cmpR op_lt (pe_fld (pv 0) rfl) (pe_callB call_lenL (by rfl) (Z.free "len") (by decide +kernel) (pa_cons (pe_fld (pv 0) rfl) pa_nil)) (nomark _)) (pw_and1 (pt_not (pt_val (pe_methS (D_Reader_is_at Z) (Z.cls "Reader") (Z.meth "Reader" "is_at") hr (by omega) (pv 0) (pa_cons pe_str pa_nil))))))) (pss_cons (ps_expr (pe_bm PySem.F.plainAttrs_list PySem.F.slot_list_append PySem.F.type_list_append mt_append (pv 3) (pa_cons (pe_callD (D_statement_in Z) hr (by omega) rfl (pa_cons (pe_ix ix_list (pe_fld (pv 0) rfl) (pe_fld (pv 0) rfl) (fun _ _ => rfl)) (pa_cons (pe_fld (pv 0) rfl) pa_nil))) pa_nil)))
      (pss_one (ps_fldaug (pv 0) pe_int in_add))))
      (pss_cons (ps_if (PW.pt (pw_or (pt_cmpR op_eq (pe_fld (pv 0) rfl) (pe_callB call_lenL (by rfl) (Z.free "len") (by decide +kernel) (pa_cons (pe_fld (pv 0) rfl) pa_nil)) (nomark _)) (pw_or1 (pt_cmpR (op_inD (units65 hr)) pe_non (pv 3) rfl)))) (pss_one (ps_ret pe_non)) pss_nil)
      (pss_cons (ps_if (pt_not (pt_chain op_le op_le pe_int (pe_callB (cr_sum rfl) (by rfl) (Z.free "sum") (by decide +kernel) (pa_cons (pe_lc (own := [("item", 4)]) (g := gName 4)  rfl sc_Reader_rounds_in.nd (pi_list (pv 3)) (blkOk_by (own := [("item", 4)]) (N := ["self", "bound", "begin", "items", "item"]) (sc := defScope s_Reader_rounds_in) (by decide +kernel)) (fun _ _ _ _ _ => (pgn 4 sc_Reader_rounds_in.nd)) (fun _ _ _ _ _ => (pts_one (pt_cmpR op_eq (pe_ix (ixTK (K := K) rfl) (pv 4) pe_int (fun _ _ => rfl)) pe_str (nomark _)))) (fun _ _ _ _ _ => (pe_ix (ixTK (K := K) rfl) (pv 4) pe_int (fun _ _ => rfl)))) pa_nil)) (pe_gint rfl (Z.int "MOST_TOGETHER" 8)))) (pss_one (ps_ret pe_non)) pss_nil)
      (pss_cons (ps_fldaug (pv 0) pe_int in_add)
      (pss_one (ps_ret (pe_tup (pa_cons pe_str (pa_cons (pv 1) (pa_cons (pe_callTy call_tupL (by rfl) (Z.free "tuple") (by decide +kernel) (pa_cons (pv 3) pa_nil)) (pa_cons (pv 2) pa_nil))))))))))))))), ?_⟩)
  · obtain ⟨x, L, i, ls, b, body, rest, rfl, _⟩ := h
    rfl
  · obtain ⟨x, L, i, ls, b, body, rest, rfl, hR, hok, hls, hd, hf, ha, b1, b2, s1, s2, k⟩ := h
    obtain ⟨dx, hx⟩ := hR.at_
    obtain ⟨g1, g2, g3⟩ := drop_get hd
    walk_at "vc"
    refine ⟨x, dx, _, rfl, hx, rfl, ?_⟩
    walk_at "vc"
    refine ⟨x, L, i, ls, "while", b, 1, rfl, hR.at_, hR.words, g1, by decide, b1, b2, fun H1 e1 => ?_⟩
    walk_at "vc"
    refine ex_fld (e1 _ _ hx) (Z.cls "Reader") (Z.noat "Reader" "at") rfl ?_
    walk_at "vc"
    refine ex_faug (e1 _ _ hx) (Z.cls "Reader") (Z.noat "Reader" "at") rfl ?_
    walk_at "vc"
    refine ⟨_, _, rfl, rfl, dx, _, e1 _ _ hx, by show 2 < 1000; decide, ?_⟩
    walk_at "vc"
    intro q hq
    walk_at "vc"
    have hqx : H q = none := ex_none e1 (by rw [upd_ne (fun e => by rw [e, upd_same] at hq; cases hq)] at hq; exact hq)
    have nqx : x ≠ q := ne_of_none hx hqx
    have e0 : Ex (hid [x] H) (hid [x, q] (upd (upd H1 x (.ins (He.ga K "Reader") dx [("rows", .ref L), ("at", .int ((i : Int) + 1))])) q (.lst []))) := by
      rw [hid_upd (by simp), hid_upd (by simp)]
      exact fun c o hc => hid_get (e1 _ _ (hid_some.mp hc).2) (by
        have h1 := (hid_some.mp hc).1
        have h2 := (hid_some.mp hc).2
        simp only [List.mem_cons, List.not_mem_nil, or_false] at h1 ⊢
        rintro (rfl | rfl)
        · exact h1 rfl
        · rw [hqx] at h2; cases h2)
    refine ⟨WRounds K H x q L i b body, ⟨_, .nil, body, [], rfl, rfl, rfl, e0, ⟨dx, ?_⟩, upd_same, rfl⟩, ?_⟩
    · rw [upd_ne nqx, upd_same]
      rfl
    rintro m σ H2 ⟨r0, r, ys, hb, rfl, rfl, e2, hR2, hq2, hi2⟩
    obtain ⟨dx2, hx2⟩ := id hR2
    have hW2 := hR.back e2
    obtain ⟨ps, hLp, hps, _⟩ := id hW2
    have hLs : SqL K H2 L (ps.map V.ref) := SqL.of hLp
    have hdr : ls.drop (i + 1 + nl r0) = wl r ++ ((["end"] : List Str) :: rest) := by
      have q1 : ls.drop (i + 1) = wl r0 ++ (wl r ++ ((["end"] : List Str) :: rest)) := by
        rw [g2, hb, wl_app, List.append_assoc]
      exact drop_go q1
    walk_at "vc"
    refine ex_fld hx2 (Z.cls "Reader") (Z.noat "Reader" "at") rfl ?_
    walk_at "vc"
    refine ex_fld hx2 (Z.cls "Reader") (Z.noat "Reader" "rows") rfl ?_
    walk_at "vc"
    rw [List.length_map, hps]
    have hf' : Flat (app r0 r) := hb ▸ hf
    have hlt : i + 1 + nl r0 < ls.length := by
      cases h : wl r with
      | nil =>
        rw [h] at hdr
        exact (drop_get hdr).2.2
      | cons a t =>
        rw [h] at hdr
        exact (drop_get hdr).2.2
    refine iteT_of (decide_eq_true (by omega)) ?_
    walk_at "vc"
    refine ⟨x, dx2, _, rfl, hx2, rfl, ?_⟩
    walk_at "vc"
    refine ⟨x, L, i + 1 + nl r0, ls, ["end"], rfl, hR2, hW2, hok, by decide, fun z hz => by rw [List.mem_singleton.mp hz]; decide +kernel, Nat.le_of_lt hlt, fun H3 e3 => ?_⟩
    cases r with
    | iff _ _ _ _ _ => exact (flat_app hf').2.elim
    | whl _ _ _ => exact (flat_app hf').2.elim
    | line l r =>
      obtain ⟨d1, d2, _⟩ := drop_get (show ls.drop (i + 1 + nl r0) = lw l :: (wl r ++ ((["end"] : List Str) :: rest)) from hdr)
      obtain ⟨wa, wb, wr, hab⟩ := lw_two l
      rw [isAt_of d1, hab, any_two]
      have hl : LnOk l := all_lns hf ha l (by rw [hb, lns_app hf']; exact List.mem_append_right _ List.mem_cons_self)
      walk_at "vc"
      refine ⟨fun σ' H' => ∃ m', m' < nl (.line l r) ∧ WRounds K H x q L i b body m' σ' H', fun σ' H' h => h, ?_⟩
      have e23 : Ex (hid [x] H) (hid [x, q] H3) := Evl.Ex.trans e2 (hid_mono e3)
      have hx3 := e3 _ _ hx2
      obtain ⟨xs3, a3, u1, u2, u3, u4⟩ := (hW2.mono e3).get d1
      walk_at "vc"
      refine ⟨.inl ⟨rfl, ys, SqL.of (e3 _ _ hq2)⟩, ?_⟩
      walk_at "vc"
      refine ex_fld hx3 (Z.cls "Reader") (Z.noat "Reader" "rows") rfl ?_
      walk_at "vc"
      refine ex_fld hx3 (Z.cls "Reader") (Z.noat "Reader" "at") rfl ?_
      refine s_ixL (SqL.of u1) u3 ?_
      walk_at "vc"
      refine ex_fld hx3 (Z.cls "Reader") (Z.noat "Reader" "at") rfl ?_
      walk_at "vc"
      refine ⟨a3, l, _, rfl, SqL.of u4, hl, trivial, fun v H4 e4 hv => ?_⟩
      have hq4 := e4 _ _ (e3 _ _ hq2)
      have hx4 := e4 _ _ hx3
      refine ⟨q, ys, v, rfl, rfl, hq4, ?_, ?_⟩
      · have := (items_lns (flat_app hf').1 hi2).1
        have h1 := nl_lns (flat_app hf').1
        rw [sizeLine_eq]
        omega
      walk_at "vc"
      have hx5 : (upd H4 q (.lst (ys ++ [v]))) x = some (.ins (He.ga K "Reader") dx2 [("rows", .ref L), ("at", .int ((i + 1 + nl r0 : Nat) : Int))]) := (upd_ne nqx).trans hx4
      refine ex_faug hx5 (Z.cls "Reader") (Z.noat "Reader" "at") rfl ?_
      walk_at "vc"
      refine ⟨_, _, rfl, rfl, dx2, _, hx5, by show 2 < 1000; decide, ?_⟩
      have t1 : TEx H4 (upd H4 q (.lst (ys ++ [v]))) := tex_upd (noTup_lst hq4)
      have t2 : TEx (upd H4 q (.lst (ys ++ [v]))) (upd (upd H4 q (.lst (ys ++ [v]))) x (.ins (He.ga K "Reader") dx2 [("rows", .ref L), ("at", .int (((i + 1 + nl r0 : Nat) : Int) + 1))])) := tex_upd (noTup_ins hx5)
      refine ⟨nl r, by show nl r < 1 + nl r; omega, app r0 (.line l .nil), r, ys ++ [v], by rw [app_assoc]; exact hb, rfl, rfl, ?_, ⟨dx2, ?_⟩, ?_, ?_⟩
      · rw [hid_upd (by simp), hid_upd (by simp)]
        exact Evl.Ex.trans e23 (hid_mono e4)
      · refine upd_same.trans ?_
        rw [nl_app]
        show some (HO.ins (He.ga K "Reader") dx2 [("rows", .ref L), ("at", .int (((i + 1 + nl r0 : Nat) : Int) + 1))]) = some (HO.ins (He.ga K "Reader") dx2 [("rows", .ref L), ("at", .int ((i + 1 + (nl r0 + 1) : Nat) : Int))])
        rw [show ((i + 1 + nl r0 : Nat) : Int) + 1 = ((i + 1 + (nl r0 + 1) : Nat) : Int) by omega]
      · exact (upd_ne nqx.symm).trans upd_same
      · exact items_app ((hi2.mono (Evl.Ex.trans e3 e4)).tex (t1.trans t2)) ⟨v, [], rfl, hv.tex (t1.trans t2), rfl⟩
    | nil =>
      rw [app_nil] at hb
      subst hb
      obtain ⟨d1, d2, _⟩ := drop_get (show ls.drop (i + 1 + nl body) = (["end"] : List Str) :: rest from hdr)
      have et : isAt ls (i + 1 + nl body) ["end"] = true := by
        rw [isAt_of d1]
        decide +kernel
      rw [et]
      have hx3 := e3 _ _ hx2
      have hW3 := hW2.mono e3
      obtain ⟨ps3, hLp3, hps3, _⟩ := id hW3
      have hLs3 : SqL K H3 L (ps3.map V.ref) := SqL.of hLp3
      have hq3 := e3 _ _ hq2
      have hi3 := hi2.mono e3
      walk_at "vc"
      refine ex_fld hx3 (Z.cls "Reader") (Z.noat "Reader" "at") rfl ?_
      walk_at "vc"
      refine ex_fld hx3 (Z.cls "Reader") (Z.noat "Reader" "rows") rfl ?_
      walk_at "vc"
      rw [List.length_map, hps3]
      refine iteF_of (decide_eq_false fun e => by have := V.int.inj e; omega) ?_
      walk_at "vc"
      obtain ⟨ds, w1, w2, w3, w4⟩ := items_data (K := K) hf ha hi3
      refine ⟨.none, ds, .non, .lst (SqL.of hq3) w1, by decide +kernel, ?_, ?_⟩
      · show ((PyData.list ds).canLay0 && decide ((PyData.list ds).depth ≤ 64)) = true
        rw [Bool.and_eq_true]
        refine ⟨by simp only [PyData.canLay0]; exact w2, decide_eq_true ?_⟩
        simp only [PyData.depth]
        omega
      rw [w4]
      walk_at "vc"
      have hyl := items_lns hf hi3
      have hn := nl_lns hf
      refine lc_ex walk_list (j := 4) (fun j => ys.getD j .non) (fun j => decide (lnS ((lns body).getD j (.step 0)) = ("step" : Str))) (fun j v _ => v = V.int ((lns body).getD j (.step 0)).byn) (fun _ _ _ _ _ h => h) ?_ (fun H' e => by walk_at "sq") (show ys.length ≤ 100000 by omega) (fun _ => rfl) ?_ ?_ ?_
      · rintro j H4 v H' hj ⟨e, hx⟩
        exact ⟨e, by rw [List.getD_eq_getElem?_getD, hx]; rfl⟩
      · intro j H4 hj e4 Q1 k1
        have hj' : j < (lns body).length := by rw [← hyl.1]; exact hj
        obtain ⟨v, hv1, hv2⟩ := hyl.2 j _ (List.getElem?_eq_getElem hj')
        obtain ⟨p, y, xs, rfl, hp, _, _, h5⟩ := (hv2.mono e4).get
        have eg : (lns body).getD j (.step 0) = (lns body)[j] := by rw [List.getD_eq_getElem?_getD, List.getElem?_eq_getElem hj']; rfl
        rw [List.getD_eq_getElem?_getD, hv1, Option.getD_some]
        rw [eg] at k1
        walk_at "vc"
        have ed : decide (V.str (lnS (lns body)[j]) = V.str "step") = decide (lnS (lns body)[j] = ("step" : Str)) := by
          by_cases c : lnS (lns body)[j] = ("step" : Str)
          · rw [deq c, decide_eq_true c]
          · rw [dne c, decide_eq_false c]
        rw [ed]
        exact k1 _ (Evl.Ex.refl _)
      · intro j H4 hj hfl e4 Q1 k1
        have hj' : j < (lns body).length := by rw [← hyl.1]; exact hj
        obtain ⟨v, hv1, hv2⟩ := hyl.2 j _ (List.getElem?_eq_getElem hj')
        obtain ⟨p, y, xs, rfl, hp, _, _, h5⟩ := (hv2.mono e4).get
        have eg : (lns body).getD j (.step 0) = (lns body)[j] := by rw [List.getD_eq_getElem?_getD, List.getElem?_eq_getElem hj']; rfl
        rw [List.getD_eq_getElem?_getD, hv1, Option.getD_some]
        rw [eg] at k1 hfl
        have hfl' := of_decide_eq_true hfl
        walk_at "vc"
        rcases h5 with ⟨_, rfl⟩ | ⟨c, _⟩
        · exact k1 _ _ (Evl.Ex.refl _) rfl
        · exact absurd hfl' c
      · intro D ys4 H4 hD e4 hy hm
        have ey := Made.vals hm
        have es : (((List.range ys.length).filter fun j => decide (lnS ((lns body).getD j (.step 0)) = ("step" : Str))).map fun j => ((lns body).getD j (.step 0)).byn).sum = steps body := by
          rw [sum_filter (fun j => ((lns body).getD j (.step 0)).byn) (fun j => decide (lnS ((lns body).getD j (.step 0)) = ("step" : Str))) (fun j hj => byn_zero (of_decide_eq_false hj)), hyl.1, range_getD, ← steps_lns hf]
        refine ⟨D, ((List.range ys.length).filter fun j => decide (lnS ((lns body).getD j (.step 0)) = ("step" : Str))).map fun j => ((lns body).getD j (.step 0)).byn, rfl, SqL.of ?_, ?_⟩
        · rw [hy, ey, List.map_map]
          rfl
        rw [es]
        walk_at "vc"
        rw [decide_eq_true s1]
        walk_at "vc"
        rw [decide_eq_true s2]
        walk_at "vc"
        have hx4 := e4 _ _ hx3
        have hq4 := e4 _ _ hq3
        refine ex_faug hx4 (Z.cls "Reader") (Z.noat "Reader" "at") rfl ?_
        walk_at "vc"
        refine ⟨_, _, rfl, rfl, dx2, _, hx4, by show 2 < 1000; decide, ?_⟩
        have hq5 : SqL K (upd H4 x (.ins (He.ga K "Reader") dx2 (putF "at" (.int (((i + 1 + nl body : Nat) : Int) + 1)) [("rows", .ref L), ("at", .int ((i + 1 + nl body : Nat) : Int))]))) q ys := SqL.of ((upd_ne nqx.symm).trans hq4)
        walk_at "vc"
        intro p1 hp1
        walk_at "vc"
        intro p2 hp2
        have nx1 : x ≠ p1 := fun e => by rw [← e, upd_same] at hp1; cases hp1
        have n12 : p1 ≠ p2 := fun e => by rw [← e, upd_same] at hp2; cases hp2
        have nx2 : x ≠ p2 := fun e => by rw [← e, upd_ne nx1, upd_same] at hp2; cases hp2
        have e5 := Evl.Ex.trans (Evl.Ex.new hp1 (o := .tup ys)) (Evl.Ex.new hp2 (o := .tup [.str "while", .int b, .ref p1, .int (i : Int)]))
        have t5 := (tex_upd (o := .ins (He.ga K "Reader") dx2 (putF "at" (.int (((i + 1 + nl body : Nat) : Int) + 1)) [("rows", .ref L), ("at", .int ((i + 1 + nl body : Nat) : Int))])) (noTup_ins hx4)).trans (tex_of e5)
        refine k _ _ ?_ ⟨dx2, ?_⟩ ⟨p2, p1, ys, [], i, rfl, upd_same, (upd_ne n12).trans upd_same, (hi3.mono e4).tex t5, rfl⟩
        · refine Evl.Ex.trans ?_ (hid_mono e5)
          rw [hid_upd (by simp)]
          refine Evl.Ex.trans e2 (Evl.Ex.trans (hid_more (by simp)) (hid_mono (Evl.Ex.trans e3 e4)))
        · refine (upd_ne nx2).trans ((upd_ne nx1).trans (upd_same.trans ?_))
          show some (HO.ins (He.ga K "Reader") dx2 [("rows", .ref L), ("at", .int (((i + 1 + nl body : Nat) : Int) + 1))]) = some (HO.ins (He.ga K "Reader") dx2 [("rows", .ref L), ("at", .int ((i + (1 + nl body + 1) : Nat) : Int))])
          rw [show ((i + 1 + nl body : Nat) : Int) + 1 = ((i + (1 + nl body + 1) : Nat) : Int) by omega]
end
end Ov
/-! text OvP5 -/
set_option Elab.async false
set_option linter.all false
set_option maxRecDepth 100000
namespace Ov
open PySem PySem.Spec PyProof.Rows L2
open Rows TL
local macro_rules | `(tactic| walk_at "hp") => `(tactic| first
  | assumption
  | exact upd_same
  | (refine Evl.Ex.new (by assumption) _ _ ?_; walk_at "hp")
  | (refine (by assumption : Evl.Ex _ _) _ _ ?_; walk_at "hp"))
local macro_rules | `(tactic| walk_at "sq") => `(tactic| first
  | assumption
  | exact SqL.of (by walk_at "hp")
  | exact SqT.of (by walk_at "hp")
  | (refine Evl.ex_l (by assumption) ?_; walk_at "sq")
  | (refine Evl.ex_t (by assumption) ?_; walk_at "sq")
  | (refine Evl.ex_l (Evl.Ex.new (by assumption)) ?_; walk_at "sq")
  | (refine Evl.ex_t (Evl.Ex.new (by assumption)) ?_; walk_at "sq"))
local macro_rules | `(tactic| walk_at "ex") => `(tactic| first
  | assumption
  | exact Evl.Ex.refl _
  | (refine Evl.Ex.trans ?_ (Evl.Ex.new (by assumption)); walk_at "ex")
  | (refine Evl.Ex.trans ?_ (by assumption); walk_at "ex"))
local macro_rules | `(tactic| walk_at "s1") => `(tactic| first
  | refine ⟨_, rfl, ?_⟩
  | refine ⟨rfl, ?_⟩
  | refine ⟨_, _, rfl, rfl, ?_⟩
  | refine ⟨_, _, _, rfl, rfl, ?_⟩)
local macro_rules | `(tactic| walk_at "st") => `(tactic| repeat walk_at "s1")
local macro_rules | `(tactic| walk_at "v1") => `(tactic| first
  | ((with_reducible refine' s_var ?vch ?_); (case vch => exact rfl))
  | with_reducible refine' s_c ?_
  | with_reducible refine' s_seq ?_
  | with_reducible refine' s_asg ?_
  | with_reducible refine' s_name ?_
  | with_reducible refine' s_cons ?_
  | with_reducible refine' s_nil ?_
  | with_reducible refine' s_op ?_
  | with_reducible refine' s_rI0 ?_
  | with_reducible refine' s_ret ?_
  | with_reducible refine' s_test ?_
  | with_reducible refine' s_ifS ?_
  | with_reducible refine' s_call ?_
  | with_reducible refine' s_cb ?_
  | ((with_reducible refine' s_rEq ?vch ?_); (case vch => exact rfl))
  | ((with_reducible refine' s_rNe ?vch ?_); (case vch => exact rfl))
  | ((with_reducible refine' s_ixT ?vch ?vca ?_); (case vch => walk_at "sq"); (case vca => first | exact rfl | exact at_nat 0 rfl | exact at_nat 1 rfl | exact at_nat 2 rfl | exact at_nat 3 rfl | exact at_nat 4 rfl))
  | ((with_reducible refine' s_ixL ?vch ?vca ?_); (case vch => walk_at "sq"); (case vca => first | exact rfl | exact at_nat 0 rfl | exact at_nat 1 rfl | exact at_nat 2 rfl | exact at_nat 3 rfl | exact at_nat 4 rfl))
  | with_reducible refine iteT' ?_
  | with_reducible refine iteF' ?_
  | with_reducible refine' ex_bl ?_
  | with_reducible refine' ex_int ?_
  | with_reducible refine' ex_str ?_
  | with_reducible refine' ex_int1 ?_
  | with_reducible refine' ex_str1 ?_
  | with_reducible refine' ex_int2 ?_
  | with_reducible refine' ex_pair ?_
  | with_reducible refine' s_un ?_
  | with_reducible refine' s_B ?_
  | with_reducible refine' s_andV ?_
  | with_reducible refine' s_orV ?_
  | with_reducible refine' s_notV ?_
  | with_reducible refine' s_and ?_
  | with_reducible refine' s_or ?_
  | with_reducible refine' s_not ?_
  | with_reducible refine' s_if ?_
  | with_reducible refine' s_chain ?_
  | with_reducible refine' s_next ?_
  | with_reducible refine' s_break ?_
  | with_reducible refine' s_cont ?_
  | with_reducible refine' s_drop ?_
  | with_reducible refine' s_retN ?_
  | with_reducible refine' s_par ?_
  | ((with_reducible refine' s_aug ?vch ?_); (case vch => exact rfl))
  | with_reducible refine' s_ip ?_
  | with_reducible refine' s_gcons ?_
  | with_reducible refine' s_gnil ?_
  | ((with_reducible refine' s_gtup ?vch ?vca ?_); (case vch => walk_at "sq"); (case vca => exact rfl))
  | with_reducible refine' s_tup ?_
  | with_reducible refine' s_lst ?_
  | with_reducible refine' s_sl ?_
  | with_reducible refine' s_part ?_
  | with_reducible refine' s_nopart ?_
  | with_reducible refine' s_fld ?_
  | with_reducible refine' s_make ?_
  | with_reducible refine' s_meth ?_
  | with_reducible refine' s_prop ?_
  | with_reducible refine' s_makeK ?_
  | with_reducible refine' s_gsub ?_
  | ((with_reducible refine' s_setL ?vch ?vca ?_); (case vch => walk_at "hp"); (case vca => exact rfl))
  | with_reducible refine' s_par3 ?_
  | with_reducible refine' ex_three ?_
  | with_reducible refine' s_star ?_
  | with_reducible refine' s_dnewK ?_
  | with_reducible refine' s_dsetd ?_
  | with_reducible refine' s_methR ?_
  | with_reducible refine' s_fldaug ?_
  | with_reducible refine' s_dictzip ?_
  | with_reducible refine' s_sfld ?_
  | with_reducible refine' s_bm ?_
  | with_reducible refine' s_bm0 ?_
  | with_reducible refine' s_m1 ?_
  | with_reducible refine' s_dget ?_
  | with_reducible refine' s_lc ?_
  | with_reducible refine' s_for ?_
  | with_reducible refine' s_iList ?_
  | with_reducible refine' s_iTup ?_
  | with_reducible refine' s_iStr ?_
  | with_reducible refine' s_iRng1 ?_
  | with_reducible refine' s_iRng2 ?_
  | with_reducible refine' s_yes ?_
  | with_reducible refine' s_rU ?_
  | ((with_reducible refine' s_isiP ?vch ?_); (case vch => exact rfl))
  | ((with_reducible refine' ex_lenL ?vch ?_); (case vch => walk_at "sq"))
  | ((with_reducible refine' ex_lenT ?vch ?_); (case vch => walk_at "sq"))
  | ((with_reducible refine' ex_tupL ?vch ?_); (case vch => walk_at "sq"))
  | ((with_reducible refine' ex_lstT ?vch ?_); (case vch => walk_at "sq"))
  | ((with_reducible refine' ex_srcL ?vch ?_); (case vch => walk_at "sq"))
  | ((with_reducible refine' ex_srcT ?vch ?_); (case vch => walk_at "sq"))
  | ((with_reducible refine' s_mk ?vch ?_); (case vch => exact small_le (Nat.le_of_ble_eq_true rfl)))
  | with_reducible refine' ⟨_, _, rfl, rfl, ?_⟩
  | with_reducible refine' ⟨⟨_, rfl⟩, ?_⟩
  | with_reducible refine' ⟨rfl, ?_⟩
  | ((with_reducible refine' iteT_of ?vch ?_); (case vch => exact rfl))
  | ((with_reducible refine' iteF_of ?vch ?_); (case vch => exact rfl)))
local macro_rules | `(tactic| walk_at "vc") => `(tactic| repeat walk_at "v1")
theorem hid_add {x q : Addr} {H H' : Hp} (e : Ex (hid [x] H) (hid [x] H')) : Ex (hid [x, q] H) (hid [x, q] H') := fun a o h => by
  obtain ⟨h1, h2⟩ := hid_some.mp h
  exact hid_get (ex_hid _ _ (e _ _ (hid_get h2 fun m => h1 (by rw [List.mem_singleton.mp m]; exact List.mem_cons_self)))) h1
theorem shape_app : ∀ {r s : Rows} {d : Nat}, Shape (app r s) d → Shape s d
  | .nil, _, _, h => h
  | .line l r, s, d, h => shape_app (r := r) h.2
  | .iff _ _ _ _ r, s, d, h => shape_app (r := r) h.2.2.2.2
  | .whl _ _ r, s, d, h => shape_app (r := r) h.2.2.2.2.2.2
theorem all_app {P : Ln → Prop} : ∀ {r s : Rows}, AllLn P (app r s) → AllLn P s
  | .nil, _, h => h
  | .line l r, s, h => all_app (r := r) h.2
  | .iff _ _ _ _ r, s, h => all_app (r := r) h.2.2
  | .whl _ _ r, s, h => all_app (r := r) h.2
section
variable {P : Program} {w : World} {K : PySem.W.Frag} {mg : Str → Option Value} {base : Heap}
def Stop (rest : List (List Str)) : Prop := rest = [] ∨ ∃ z t, rest = [z] :: t ∧ (z = ("else" : Str) ∨ z = ("end" : Str))
def spLines (K : PySem.W.Frag) (n : Nat) : Sp := fun vs H Q _ => ∃ (x L : Addr) (i : Nat) (ls : List (List Str)) (r : Rows) (rest : List (List Str)) (deep : Int), vs = [.ref x, .int deep] ∧ deep = 3 - (n : Int) ∧ Rdr K H x L ls i ∧ (∀ l ∈ ls, LineOk l) ∧ ls.length ≤ 400 ∧
  ls.drop i = wl r ++ rest ∧ Stop rest ∧ i ≤ ls.length ∧ Shape r n ∧ AllLn LnOk r ∧ ∀ p ys H', Ex (hid [x] H) (hid [x] H') → RdAt K H' x L (i + nl r) → H' p = some (.tup ys) → ItemsAt H' r ys → Q (.ref p) H'
def spChoice (K : PySem.W.Frag) (n : Nat) : Sp := fun vs H Q _ => ∃ (x L : Addr) (i : Nat) (ls : List (List Str)) (b : Int) (e : Bool) (one two : Rows) (rest : List (List Str)) (deep : Int), vs = [.ref x, .int deep] ∧ deep = 3 - (n : Int) ∧ Rdr K H x L ls i ∧ (∀ l ∈ ls, LineOk l) ∧ ls.length ≤ 400 ∧
  ls.drop i = wl (.iff b e one two .nil) ++ rest ∧ Shape (.iff b e one two .nil) n ∧ AllLn LnOk (.iff b e one two .nil) ∧ ∀ p H', Ex (hid [x] H) (hid [x] H') → RdAt K H' x L (i + nl (.iff b e one two .nil)) → ItemsAt H' (.iff b e one two .nil) [.ref p] → Q (.ref p) H'
def WLines (K : PySem.W.Frag) (H : Hp) (x q L : Addr) (i : Nat) (deep : Int) (rows : Rows) (m : Nat) (σ : L2.St) (H' : Hp) : Prop := ∃ r0 r ys v3 v4, rows = app r0 r ∧ m = nl r ∧ σ = [some (.ref x), some (.int deep), some (.ref q), v3, v4] ∧ Ex (hid [x] H) (hid [x, q] H') ∧ RdAt K H' x L (i + nl r0) ∧ H' q = some (.lst ys) ∧ ItemsAt H' r0 ys ∧ ys.length ≤ nl r0
theorem sc_Reader_lines_in : FnScope ["self", "deep", "items", "word", "item"] ["self", "deep"] (defScope s_Reader_lines_in) := ⟨rfl, rfl, rfl, by decide +kernel, rfl, by decide +kernel, by decide +kernel⟩
theorem lines_one (Z : Zf K mg) {n k : Nat} (C : Mf P w K mg base "Reader" "choice_in" k ["self", "deep"] (spChoice K n)) (hk : 7 ≤ k) : Mf P w K mg base "Reader" "lines_in" (k+1) ["self", "deep"] (spLines K n) := by
  refine meth_ok Z 22 rfl sc_Reader_lines_in (fun _ _ _ _ _ _ us hl => match us, hl with | [_, _], _ => rfl) (fun vs H Q E h => ?_) (fun f cdv A outer s H vs Q E hr h => ⟨_, (pss_cons (ps_asg (pe_lst pa_nil) (pgn 2 sc_Reader_lines_in.nd))
      (pss_cons (ps_while PassesOwn.never (PW.pt (pw_and (pt_cmpR op_lt (pe_fld (pv 0) rfl) (pe_callB call_lenL (by rfl) (Z.free "len") (by decide +kernel) (pa_cons (pe_fld (pv 0) rfl) pa_nil)) (nomark _)) (pw_and1 (pt_not (pt_val (pe_methS (D_Reader_is_at Z) (Z.cls "Reader") (Z.meth "Reader" "is_at") hr (by omega) (pv 0) (pa_cons pe_str (pa_cons pe_str pa_nil)))))))) (pss_cons (ps_asg (pe_ix ix_list (pe_ix ix_list (pe_fld (pv 0) rfl) (pe_fld (pv 0) rfl) (fun _ _ => rfl)) pe_int (fun _ _ => rfl)) (pgn 3 sc_Reader_lines_in.nd))
      (C8.pss_cut (ps_if (pt_cmpR op_eq (pv 3) pe_str (nomark _)) (pss_one (ps_asg (pe_methD C (Z.cls "Reader") (Z.meth "Reader" "choice_in") hr (by omega) (pv 0) (pa_cons (pv 1) pa_nil)) (pgn 4 sc_Reader_lines_in.nd))) (pss_one (ps_if (pt_cmpR op_eq (pv 3) pe_str (nomark _)) (pss_one (ps_asg (pe_methD0 (D_Reader_rounds_in Z) (Z.cls "Reader") (Z.meth "Reader" "rounds_in") hr (by omega) (pv 0)) (pgn 4 sc_Reader_lines_in.nd))) (pss_cons (ps_asg (pe_callD (D_statement_in Z) hr (by omega) rfl (pa_cons (pe_ix ix_list (pe_fld (pv 0) rfl) (pe_fld (pv 0) rfl) (fun _ _ => rfl)) (pa_cons (pe_fld (pv 0) rfl) pa_nil))) (pgn 4 sc_Reader_lines_in.nd))
      (pss_one (ps_fldaug (pv 0) pe_int in_add))))))
      (pss_cons (ps_if (pt_cmpR op_isN (pv 4) pe_non (nomark _)) (pss_one (ps_ret pe_non)) pss_nil)
      (pss_one (ps_expr (pe_bm PySem.F.plainAttrs_list PySem.F.slot_list_append PySem.F.type_list_append mt_append (pv 2) (pa_cons (pv 4) pa_nil))))))))
      (pss_one (ps_ret (pe_callTy call_tupL (by rfl) (Z.free "tuple") (by decide +kernel) (pa_cons (pv 2) pa_nil)))))), ?_⟩)
  · obtain ⟨x, L, i, ls, r, rest, deep, rfl, _⟩ := h
    rfl
  · obtain ⟨x, L, i, ls, rows, rest, deep, rfl, hdeep, hR, hok, hls, hd, hstop, hil, hs, ha, k⟩ := h
    obtain ⟨dx, hx⟩ := hR.at_
    walk_at "vc"
    intro q hq
    walk_at "vc"
    have nqx : x ≠ q := ne_of_none hx hq
    have e0 : Ex (hid [x] H) (hid [x, q] (upd H q (.lst []))) := by
      rw [hid_upd (by simp)]
      exact fun c o hc => hid_get (hid_some.mp hc).2 (by
        have h1 := (hid_some.mp hc).1
        have h2 := (hid_some.mp hc).2
        simp only [List.mem_cons, List.not_mem_nil, or_false] at h1 ⊢
        rintro (rfl | rfl)
        · exact h1 rfl
        · rw [hq] at h2; cases h2)
    refine ⟨WLines K H x q L i deep rows, ⟨_, .nil, rows, [], none, none, rfl, rfl, rfl, e0, ⟨dx, ?_⟩, upd_same, rfl, Nat.le_refl _⟩, ?_⟩
    · rw [upd_ne nqx]
      exact hx
    rintro m σ H2 ⟨r0, r, ys, v3, v4, hb, rfl, rfl, e2, hR2, hq2, hi2, hyl⟩
    obtain ⟨dx2, hx2⟩ := id hR2
    have hW2 := hR.back e2
    obtain ⟨ps, hLp, hps, _⟩ := id hW2
    have hLs : SqL K H2 L (ps.map V.ref) := SqL.of hLp
    have hdr : ls.drop (i + nl r0) = wl r ++ rest := by
      have q1 : ls.drop i = wl r0 ++ (wl r ++ rest) := by
        rw [hd, hb, wl_app, List.append_assoc]
      exact drop_go q1
    have hsr : Shape r n := shape_app (r := r0) (hb ▸ hs)
    have har : AllLn LnOk r := all_app (r := r0) (hb ▸ ha)
    walk_at "vc"
    refine ex_fld hx2 (Z.cls "Reader") (Z.noat "Reader" "at") rfl ?_
    walk_at "vc"
    refine ex_fld hx2 (Z.cls "Reader") (Z.noat "Reader" "rows") rfl ?_
    walk_at "vc"
    rw [List.length_map, hps]
    have fin : ∀ H3, r = .nil → Ex H2 H3 → tRet (tCB (fun xs H_1 Q => ∃ p ys, xs = [V.ref p] ∧ SqL K H_1 p ys ∧ ∀ l, H_1 l = none → Q (V.ref l) (upd H_1 l (.tup ys))) (tCons (tVar 2) tNil)) { nx := fun _ H' => Q .non H', rt := Q } [some (.ref x), some (.int deep), some (.ref q), v3, v4] H3 := fun H3 er e3 => by
      subst er
      rw [app_nil] at hb
      subst hb
      have hq3 : SqL K H3 q ys := SqL.of (e3 _ _ hq2)
      walk_at "vc"
      intro p hp
      have nxp : x ≠ p := ne_of_none (e3 _ _ hx2) hp
      refine k p ys _ ?_ ⟨dx2, (upd_ne nxp).trans (e3 _ _ hx2)⟩ upd_same ((hi2.mono e3).mono (Evl.Ex.new hp))
      exact Evl.Ex.trans e2 (Evl.Ex.trans (hid_more (by simp)) (hid_mono (Evl.Ex.trans e3 (Evl.Ex.new hp))))
    by_cases hend : i + nl r0 < ls.length
    · refine iteT_of (decide_eq_true (by omega)) ?_
      walk_at "vc"
      refine ⟨x, dx2, _, rfl, hx2, rfl, ?_⟩
      walk_at "vc"
      refine ⟨x, L, i + nl r0, ls, ["else", "end"], rfl, hR2, hW2, hok, by decide, fun z hz => ?_, Nat.le_of_lt hend, fun H3 e3 => ?_⟩
      · simp only [List.mem_cons, List.not_mem_nil, or_false] at hz
        rcases hz with rfl | rfl <;> decide +kernel
      by_cases hr0 : r = .nil
      · subst hr0
        have hdr' : ls.drop (i + nl r0) = rest := hdr
        rcases hstop with rfl | ⟨z, t, rfl, hz⟩
        · have := List.drop_eq_nil_iff.mp hdr'
          omega
        · obtain ⟨d1, d2, _⟩ := drop_get hdr'
          have et : isAt ls (i + nl r0) ["else", "end"] = true := by
            rw [isAt_of d1]
            rcases hz with rfl | rfl <;> decide +kernel
          rw [et]
          refine ex_bl ?_
          refine iteF' ?_
          exact fin H3 rfl e3
      · obtain ⟨z1, z2, t0, tl0, hhead⟩ : ∃ z1 z2 t0 tl0, ls.drop (i + nl r0) = (z1 :: z2 :: t0) :: tl0 := by
          cases r with
          | nil => exact absurd rfl hr0
          | line l r =>
            obtain ⟨wa, wb, wr, hab⟩ := lw_two l
            exact ⟨wa, wb, wr, _, by rw [← hab]; exact hdr⟩
          | iff b e one two r => exact ⟨_, _, _, _, hdr⟩
          | whl b body r => exact ⟨_, _, _, _, hdr⟩
        obtain ⟨d1, d2, _⟩ := drop_get hhead
        rw [isAt_of d1, any_two]
        walk_at "vc"
        refine ⟨fun σ' H' => ∃ m', m' < nl r ∧ WLines K H x q L i deep rows m' σ' H', fun σ' H' h => h, ?_⟩
        have e23 : Ex (hid [x] H) (hid [x, q] H3) := Evl.Ex.trans e2 (hid_mono e3)
        have hx3 := e3 _ _ hx2
        have hq3 := e3 _ _ hq2
        have hR3 : Rdr K H3 x L ls (i + nl r0) := ⟨⟨dx2, hx3⟩, hW2.mono e3⟩
        obtain ⟨xs3, a3, u1, u2, u3, u4⟩ := hR3.words.get d1
        have u5 : SqL K H3 a3 (.str z1 :: .str z2 :: t0.map V.str) := SqL.of u4
        walk_at "vc"
        refine ex_fld hx3 (Z.cls "Reader") (Z.noat "Reader" "rows") rfl ?_
        walk_at "vc"
        refine ex_fld hx3 (Z.cls "Reader") (Z.noat "Reader" "at") rfl ?_
        refine s_ixL (SqL.of u1) u3 ?_
        walk_at "vc"
        refine ⟨fun σ' H4 => ∃ p r1 r2 v3, r = app r1 r2 ∧ 1 ≤ nl r1 ∧ σ' = [some (.ref x), some (.int deep), some (.ref q), v3, some (.ref p)] ∧ Ex (hid [x] H) (hid [x, q] H4) ∧ RdAt K H4 x L (i + nl r0 + nl r1) ∧ H4 q = some (.lst ys) ∧ ItemsAt H4 r0 ys ∧ ItemsAt H4 r1 [.ref p], ?_, ?_⟩
        · have sub : ∀ {H4 : Hp}, Ex (hid [x] H3) (hid [x] H4) → Ex (hid [x] H) (hid [x, q] H4) ∧ H4 q = some (.lst ys) ∧ ItemsAt H4 r0 ys := fun {H4} e4 =>
            ⟨Evl.Ex.trans e23 (hid_add e4), ex_hid _ _ (e4 _ _ (hid_get hq3 (by simp; exact nqx.symm))), (hi2.mono e3).tex (tex_hid e4 fun a ha => by rw [List.mem_singleton.mp ha]; exact noTup_ins hx3)⟩
          cases r with
          | nil => exact absurd rfl hr0
          | iff b e one two r =>
            have hz1 : z1 = ("if" : Str) := by
              rw [hdr] at hhead
              injection hhead with h1 _
              injection h1 with h1 _
              exact h1.symm
            subst hz1
            walk_at "vc"
            refine ⟨x, dx2, _, rfl, hx3, rfl, ?_⟩
            walk_at "vc"
            refine ⟨x, L, i + nl r0, ls, b, e, one, two, wl r ++ rest, deep, rfl, hdeep, hR3, hok, hls, ?_, ?_, ?_, fun p H4 e4 hr4 hi4 => ?_⟩
            · rw [hdr]
              simp [wl]
            · obtain ⟨y1, y2, y3, y4, _⟩ := hsr
              exact ⟨y1, y2, y3, y4, trivial⟩
            · exact ⟨har.1, har.2.1, trivial⟩
            · obtain ⟨s1, s2, s3⟩ := sub e4
              walk_at "vc"
              exact ⟨p, .iff b e one two .nil, r, _, rfl, by simp only [nl]; omega, rfl, s1, hr4, s2, s3, hi4⟩
          | whl b body r =>
            have hz1 : z1 = ("while" : Str) := by
              rw [hdr] at hhead
              injection hhead with h1 _
              injection h1 with h1 _
              exact h1.symm
            subst hz1
            obtain ⟨y1, y2, y3, y4, y5, y6, y7⟩ := hsr
            walk_at "vc"
            refine ⟨x, dx2, _, rfl, hx3, rfl, ?_⟩
            walk_at "vc"
            refine ⟨x, L, i + nl r0, ls, b, body, wl r ++ rest, rfl, hR3, hok, hls, ?_, y3, har.1, y1, y2, y5, y6, fun v H4 e4 hr4 hi4 => ?_⟩
            · rw [hdr]
              simp [wl]
            · obtain ⟨s1, s2, s3⟩ := sub e4
              obtain ⟨p, p1, vs1, vs', k0, hv, _⟩ := id hi4
              injection hv with hv _
              subst hv
              walk_at "vc"
              exact ⟨p, .whl b body .nil, r, _, rfl, by simp only [nl]; omega, rfl, s1, hr4, s2, s3, hi4⟩
          | line l r =>
            have hz1 : lw l = z1 :: z2 :: t0 := by
              rw [hdr] at hhead
              injection hhead with h1 _
            have hl : LnOk l := har.1
            have hne : z1 ≠ ("if" : Str) ∧ z1 ≠ ("while" : Str) := by
              cases l with
              | work x f as =>
                injection hz1 with h1 _
                subst h1
                exact ⟨fun e => hl.1.facts.2.2 (by rw [e]; simp [marks]), fun e => hl.1.facts.2.2 (by rw [e]; simp [marks])⟩
              | load x a o =>
                injection hz1 with h1 _
                subst h1
                exact ⟨fun e => hl.1.facts.2.2 (by rw [e]; simp [marks]), fun e => hl.1.facts.2.2 (by rw [e]; simp [marks])⟩
              | copy x y =>
                injection hz1 with h1 _
                subst h1
                exact ⟨fun e => hl.1.facts.2.2 (by rw [e]; simp [marks]), fun e => hl.1.facts.2.2 (by rw [e]; simp [marks])⟩
              | store a o x =>
                injection hz1 with h1 _
                subst h1
                decide +kernel
              | step n =>
                injection hz1 with h1 _
                subst h1
                decide +kernel
            walk_at "vc"
            refine iteF_of (dne hne.1) ?_
            walk_at "vc"
            refine iteF_of (dne hne.2) ?_
            walk_at "vc"
            refine ex_fld hx3 (Z.cls "Reader") (Z.noat "Reader" "rows") rfl ?_
            walk_at "vc"
            refine ex_fld hx3 (Z.cls "Reader") (Z.noat "Reader" "at") rfl ?_
            refine s_ixL (SqL.of u1) u3 ?_
            walk_at "vc"
            refine ex_fld hx3 (Z.cls "Reader") (Z.noat "Reader" "at") rfl ?_
            walk_at "vc"
            refine ⟨a3, l, _, rfl, SqL.of (hz1 ▸ u4), hl, trivial, fun v H4 e4 hv => ?_⟩
            have hx4 := e4 _ _ hx3
            walk_at "vc"
            refine ex_faug hx4 (Z.cls "Reader") (Z.noat "Reader" "at") rfl ?_
            walk_at "vc"
            refine ⟨_, _, rfl, rfl, dx2, _, hx4, by show 2 < 1000; decide, ?_⟩
            have t4 := tex_upd (o := .ins (He.ga K "Reader") dx2 (putF "at" (.int (((i + nl r0 : Nat) : Int) + 1)) [("rows", .ref L), ("at", .int ((i + nl r0 : Nat) : Int))])) (noTup_ins hx4)
            have e5 : Ex (hid [x] H3) (hid [x] (upd H4 x (.ins (He.ga K "Reader") dx2 (putF "at" (.int (((i + nl r0 : Nat) : Int) + 1)) [("rows", .ref L), ("at", .int ((i + nl r0 : Nat) : Int))])))) := by
              rw [hid_upd (by simp)]
              exact hid_mono e4
            obtain ⟨s1, s2, s3⟩ := sub e5
            obtain ⟨p, k0, hv1, hv2⟩ := id hv
            subst hv1
            refine ⟨p, .line l .nil, r, _, rfl, by simp only [nl]; omega, rfl, s1, ⟨dx2, ?_⟩, s2, s3, ⟨.ref p, [], rfl, hv.tex t4, rfl⟩⟩
            refine upd_same.trans ?_
            show some (HO.ins (He.ga K "Reader") dx2 [("rows", .ref L), ("at", .int (((i + nl r0 : Nat) : Int) + 1))]) = some (HO.ins (He.ga K "Reader") dx2 [("rows", .ref L), ("at", .int ((i + nl r0 + 1 : Nat) : Int))])
            rfl
        · rintro σ' H4 ⟨p, r1, r2, v3', hr12, h1r, rfl, e4, hr4, hq4, hi4, hip⟩
          walk_at "vc"
          refine ⟨.inl ⟨rfl, ys, SqL.of hq4⟩, ?_⟩
          walk_at "vc"
          have hbnd : nl r0 ≤ 400 := by omega
          refine ⟨q, ys, .ref p, rfl, rfl, hq4, by rw [sizeLine_eq]; omega, ?_⟩
          obtain ⟨dx4, hx4⟩ := id hr4
          have t4 := tex_upd (o := .lst (ys ++ [.ref p])) (noTup_lst hq4)
          walk_at "vc"
          refine ⟨nl r2, by rw [hr12, nl_app]; omega, app r0 r1, r2, ys ++ [.ref p], _, _, by rw [app_assoc, ← hr12]; exact hb, rfl, rfl, ?_, ⟨dx4, (upd_ne nqx).trans ?_⟩, upd_same, items_app (hi4.tex t4) (hip.tex t4), ?_⟩
          · rw [hid_upd (by simp)]
            exact e4
          · rw [nl_app, ← Nat.add_assoc]
            exact hx4
          · rw [List.length_append, List.length_singleton, nl_app]
            omega
    · refine iteF_of (decide_eq_false (by omega)) ?_
      have er : r = .nil := by
        rw [List.drop_eq_nil_of_le (by omega)] at hdr
        have h0 : (wl r).length = 0 := by
          rw [(List.append_eq_nil_iff.mp hdr.symm).1]
          rfl
        rw [wl_len] at h0
        cases r with
        | nil => rfl
        | line l r => simp only [nl] at h0; omega
        | iff b e one two r => simp only [nl] at h0; omega
        | whl b body r => simp only [nl] at h0; omega
      refine iteF' ?_
      exact fin H2 er (Evl.Ex.refl _)
end
end Ov
/-! text OvP6 -/
set_option Elab.async false
set_option linter.all false
set_option maxRecDepth 100000
namespace Ov
open PySem PySem.Spec PyProof.Rows L2
open Rows TL
local macro_rules | `(tactic| walk_at "hp") => `(tactic| first
  | assumption
  | exact upd_same
  | (refine Evl.Ex.new (by assumption) _ _ ?_; walk_at "hp")
  | (refine (by assumption : Evl.Ex _ _) _ _ ?_; walk_at "hp"))
local macro_rules | `(tactic| walk_at "sq") => `(tactic| first
  | assumption
  | exact SqL.of (by walk_at "hp")
  | exact SqT.of (by walk_at "hp")
  | (refine Evl.ex_l (by assumption) ?_; walk_at "sq")
  | (refine Evl.ex_t (by assumption) ?_; walk_at "sq")
  | (refine Evl.ex_l (Evl.Ex.new (by assumption)) ?_; walk_at "sq")
  | (refine Evl.ex_t (Evl.Ex.new (by assumption)) ?_; walk_at "sq"))
local macro_rules | `(tactic| walk_at "ex") => `(tactic| first
  | assumption
  | exact Evl.Ex.refl _
  | (refine Evl.Ex.trans ?_ (Evl.Ex.new (by assumption)); walk_at "ex")
  | (refine Evl.Ex.trans ?_ (by assumption); walk_at "ex"))
local macro_rules | `(tactic| walk_at "s1") => `(tactic| first
  | refine ⟨_, rfl, ?_⟩
  | refine ⟨rfl, ?_⟩
  | refine ⟨_, _, rfl, rfl, ?_⟩
  | refine ⟨_, _, _, rfl, rfl, ?_⟩)
local macro_rules | `(tactic| walk_at "st") => `(tactic| repeat walk_at "s1")
local macro_rules | `(tactic| walk_at "v1") => `(tactic| first
  | ((with_reducible refine' s_var ?vch ?_); (case vch => exact rfl))
  | with_reducible refine' s_c ?_
  | with_reducible refine' s_seq ?_
  | with_reducible refine' s_asg ?_
  | with_reducible refine' s_name ?_
  | with_reducible refine' s_cons ?_
  | with_reducible refine' s_nil ?_
  | with_reducible refine' s_op ?_
  | with_reducible refine' s_rI0 ?_
  | with_reducible refine' s_ret ?_
  | with_reducible refine' s_test ?_
  | with_reducible refine' s_ifS ?_
  | with_reducible refine' s_call ?_
  | with_reducible refine' s_cb ?_
  | ((with_reducible refine' s_rEq ?vch ?_); (case vch => exact rfl))
  | ((with_reducible refine' s_rNe ?vch ?_); (case vch => exact rfl))
  | ((with_reducible refine' s_ixT ?vch ?vca ?_); (case vch => walk_at "sq"); (case vca => first | exact rfl | exact at_nat 0 rfl | exact at_nat 1 rfl | exact at_nat 2 rfl | exact at_nat 3 rfl | exact at_nat 4 rfl))
  | ((with_reducible refine' s_ixL ?vch ?vca ?_); (case vch => walk_at "sq"); (case vca => first | exact rfl | exact at_nat 0 rfl | exact at_nat 1 rfl | exact at_nat 2 rfl | exact at_nat 3 rfl | exact at_nat 4 rfl))
  | with_reducible refine iteT' ?_
  | with_reducible refine iteF' ?_
  | with_reducible refine' ex_bl ?_
  | with_reducible refine' ex_int ?_
  | with_reducible refine' ex_str ?_
  | with_reducible refine' ex_int1 ?_
  | with_reducible refine' ex_str1 ?_
  | with_reducible refine' ex_int2 ?_
  | with_reducible refine' ex_pair ?_
  | with_reducible refine' s_un ?_
  | with_reducible refine' s_B ?_
  | with_reducible refine' s_andV ?_
  | with_reducible refine' s_orV ?_
  | with_reducible refine' s_notV ?_
  | with_reducible refine' s_and ?_
  | with_reducible refine' s_or ?_
  | with_reducible refine' s_not ?_
  | with_reducible refine' s_if ?_
  | with_reducible refine' s_chain ?_
  | with_reducible refine' s_next ?_
  | with_reducible refine' s_break ?_
  | with_reducible refine' s_cont ?_
  | with_reducible refine' s_drop ?_
  | with_reducible refine' s_retN ?_
  | with_reducible refine' s_par ?_
  | ((with_reducible refine' s_aug ?vch ?_); (case vch => exact rfl))
  | with_reducible refine' s_ip ?_
  | with_reducible refine' s_gcons ?_
  | with_reducible refine' s_gnil ?_
  | ((with_reducible refine' s_gtup ?vch ?vca ?_); (case vch => walk_at "sq"); (case vca => exact rfl))
  | with_reducible refine' s_tup ?_
  | with_reducible refine' s_lst ?_
  | with_reducible refine' s_sl ?_
  | with_reducible refine' s_part ?_
  | with_reducible refine' s_nopart ?_
  | with_reducible refine' s_fld ?_
  | with_reducible refine' s_make ?_
  | with_reducible refine' s_meth ?_
  | with_reducible refine' s_prop ?_
  | with_reducible refine' s_makeK ?_
  | with_reducible refine' s_gsub ?_
  | ((with_reducible refine' s_setL ?vch ?vca ?_); (case vch => walk_at "hp"); (case vca => exact rfl))
  | with_reducible refine' s_par3 ?_
  | with_reducible refine' ex_three ?_
  | with_reducible refine' s_star ?_
  | with_reducible refine' s_dnewK ?_
  | with_reducible refine' s_dsetd ?_
  | with_reducible refine' s_methR ?_
  | with_reducible refine' s_fldaug ?_
  | with_reducible refine' s_dictzip ?_
  | with_reducible refine' s_sfld ?_
  | with_reducible refine' s_bm ?_
  | with_reducible refine' s_bm0 ?_
  | with_reducible refine' s_m1 ?_
  | with_reducible refine' s_dget ?_
  | with_reducible refine' s_lc ?_
  | with_reducible refine' s_for ?_
  | with_reducible refine' s_iList ?_
  | with_reducible refine' s_iTup ?_
  | with_reducible refine' s_iStr ?_
  | with_reducible refine' s_iRng1 ?_
  | with_reducible refine' s_iRng2 ?_
  | with_reducible refine' s_yes ?_
  | with_reducible refine' s_rU ?_
  | ((with_reducible refine' s_isiP ?vch ?_); (case vch => exact rfl))
  | ((with_reducible refine' ex_lenL ?vch ?_); (case vch => walk_at "sq"))
  | ((with_reducible refine' ex_lenT ?vch ?_); (case vch => walk_at "sq"))
  | ((with_reducible refine' ex_tupL ?vch ?_); (case vch => walk_at "sq"))
  | ((with_reducible refine' ex_lstT ?vch ?_); (case vch => walk_at "sq"))
  | ((with_reducible refine' ex_srcL ?vch ?_); (case vch => walk_at "sq"))
  | ((with_reducible refine' ex_srcT ?vch ?_); (case vch => walk_at "sq"))
  | ((with_reducible refine' s_mk ?vch ?_); (case vch => exact small_le (Nat.le_of_ble_eq_true rfl)))
  | with_reducible refine' ⟨_, _, rfl, rfl, ?_⟩
  | with_reducible refine' ⟨⟨_, rfl⟩, ?_⟩
  | with_reducible refine' ⟨rfl, ?_⟩
  | ((with_reducible refine' iteT_of ?vch ?_); (case vch => exact rfl))
  | ((with_reducible refine' iteF_of ?vch ?_); (case vch => exact rfl)))
local macro_rules | `(tactic| walk_at "vc") => `(tactic| repeat walk_at "v1")
section
variable {P : Program} {w : World} {K : PySem.W.Frag} {mg : Str → Option Value} {base : Heap}
theorem sc_Reader_choice_in : FnScope ["self", "deep", "bound", "begin", "first", "second"] ["self", "deep"] (defScope s_Reader_choice_in) := ⟨rfl, rfl, rfl, by decide +kernel, rfl, by decide +kernel, by decide +kernel⟩
theorem choice_one (Z : Zf K mg) {n k : Nat} (R : Mf P w K mg base "Reader" "lines_in" k ["self", "deep"] (spLines K n)) (hk : 7 ≤ k) : Mf P w K mg base "Reader" "choice_in" (k+1) ["self", "deep"] (spChoice K (n+1)) := by
  refine meth_ok Z 23 rfl sc_Reader_choice_in (fun _ _ _ _ _ _ us hl => match us, hl with | [_, _], _ => rfl) (fun vs H Q E h => ?_) (fun f cdv A outer s H vs Q E hr h => ⟨_, (pss_cons (ps_par (i := 2) (j := 3) (by rfl) sc_Reader_choice_in.nd rfl rfl (by decide) rfl rfl (pa_cons (pe_methD (D_Reader_bound_in Z) (Z.cls "Reader") (Z.meth "Reader" "bound_in") hr (by omega) (pv 0) (pa_cons pe_int pa_nil)) (pa_cons (pe_fld (pv 0) rfl) pa_nil)) (by rfl))
      (pss_cons (ps_if (PW.pt (pw_or (pt_cmpR op_isN (pv 2) pe_non (nomark _)) (pw_or1 (pt_cmpR op_eq (pv 1) (pe_gint rfl (Z.int "MOST_DEEP" 3)) (nomark _))))) (pss_one (ps_ret pe_non)) pss_nil)
      (pss_cons (ps_fldaug (pv 0) pe_int in_add)
      (pss_cons (ps_par (i := 4) (j := 5) (by rfl) sc_Reader_choice_in.nd rfl rfl (by decide) rfl rfl (pa_cons (pe_methD R (Z.cls "Reader") (Z.meth "Reader" "lines_in") hr (by omega) (pv 0) (pa_cons (pe_op op_add (pv 1) pe_int) pa_nil)) (pa_cons (pe_tup pa_nil) pa_nil)) (by rfl))
      (C8.pss_cut (ps_if (PW.pt (pw_and (pt_cmpR op_notN (pv 4) pe_non (nomark _)) (pw_and1 (pt_val (pe_methS (D_Reader_is_at Z) (Z.cls "Reader") (Z.meth "Reader" "is_at") hr (by omega) (pv 0) (pa_cons pe_str pa_nil)))))) (pss_cons (ps_fldaug (pv 0) pe_int in_add)
      (pss_one (ps_asg (pe_methD R (Z.cls "Reader") (Z.meth "Reader" "lines_in") hr (by omega) (pv 0) (pa_cons (pe_op op_add (pv 1) pe_int) pa_nil)) (pgn 5 sc_Reader_choice_in.nd)))) pss_nil)
      (pss_cons (ps_if (PW.pt (pw_or (pt_cmpR op_isN (pv 4) pe_non (nomark _)) (pw_or (pt_cmpR op_isN (pv 5) pe_non (nomark _)) (pw_or1 (pt_not (pt_val (pe_methS (D_Reader_is_at Z) (Z.cls "Reader") (Z.meth "Reader" "is_at") hr (by omega) (pv 0) (pa_cons pe_str pa_nil)))))))) (pss_one (ps_ret pe_non)) pss_nil)
      (pss_cons (ps_fldaug (pv 0) pe_int in_add)
      (pss_one (ps_ret (pe_tup (pa_cons pe_str (pa_cons (pv 2) (pa_cons (pv 4) (pa_cons (pv 5) (pa_cons (pv 3) pa_nil))))))))))))))), ?_⟩)
  · obtain ⟨x, L, i, ls, b, e, one, two, rest, deep, rfl, _⟩ := h
    rfl
  · obtain ⟨x, L, i, ls, b, e, one, two, rest, deep, rfl, hdeep, hR, hok, hls, hd, hs, ha, k⟩ := h
    obtain ⟨dx, hx⟩ := hR.at_
    obtain ⟨b0, b1, he2, ⟨d', hd', s1, s2⟩, _⟩ := hs
    obtain rfl : n = d' := by omega
    obtain ⟨a1, a2, _⟩ := ha
    have hd1 : ls.drop i = (["if", num b] : List Str) :: (wl one ++ ((if e then (["else"] : List Str) :: wl two else []) ++ ((["end"] : List Str) :: rest))) := by
      rw [hd]
      simp [wl]
    obtain ⟨g1, g2, g3⟩ := drop_get hd1
    have hstop1 : Stop ((if e then (["else"] : List Str) :: wl two else []) ++ ((["end"] : List Str) :: rest)) := by
      cases e with
      | true => exact .inr ⟨_, _, rfl, .inl rfl⟩
      | false => exact .inr ⟨_, _, rfl, .inr rfl⟩
    walk_at "vc"
    refine ⟨x, dx, _, rfl, hx, rfl, ?_⟩
    walk_at "vc"
    refine ⟨x, L, i, ls, "if", b, 0, rfl, hR.at_, hR.words, g1, by decide, b0, b1, fun H1 e1 => ?_⟩
    have hx1 := e1 _ _ hx
    walk_at "vc"
    refine ex_fld hx1 (Z.cls "Reader") (Z.noat "Reader" "at") rfl ?_
    walk_at "vc"
    refine iteF_of (decide_eq_false fun q => by have := V.int.inj q; omega) ?_
    walk_at "vc"
    refine ex_faug hx1 (Z.cls "Reader") (Z.noat "Reader" "at") rfl ?_
    walk_at "vc"
    refine ⟨_, _, rfl, rfl, dx, _, hx1, by show 2 < 1000; decide, ?_⟩
    have hx2 : (upd H1 x (.ins (He.ga K "Reader") dx (putF "at" (.int ((i : Int) + 1)) [("rows", .ref L), ("at", .int (i : Int))]))) x = some (.ins (He.ga K "Reader") dx [("rows", .ref L), ("at", .int ((i + 1 : Nat) : Int))]) := upd_same
    have e2 : Ex (hid [x] H) (hid [x] (upd H1 x (.ins (He.ga K "Reader") dx (putF "at" (.int ((i : Int) + 1)) [("rows", .ref L), ("at", .int (i : Int))])))) := by
      rw [hid_upd (by simp)]
      exact hid_mono e1
    generalize upd H1 x (.ins (He.ga K "Reader") dx (putF "at" (.int ((i : Int) + 1)) [("rows", .ref L), ("at", .int (i : Int))])) = H2 at hx2 e2 ⊢
    walk_at "vc"
    refine ⟨x, dx, _, rfl, hx2, rfl, ?_⟩
    walk_at "vc"
    refine ⟨x, L, i + 1, ls, one, _, _, rfl, by omega, ⟨⟨dx, hx2⟩, hR.back e2⟩, hok, hls, g2, hstop1, by omega, s1, a1, fun p1 ys1 H3 e3 hr3 hp1 hi1 => ?_⟩
    have d3 : ls.drop (i + 1 + nl one) = (if e then (["else"] : List Str) :: wl two else []) ++ ((["end"] : List Str) :: rest) := drop_go g2
    obtain ⟨dx3, hx3⟩ := id hr3
    walk_at "vc"
    intro p2 hp2
    have n12 : p1 ≠ p2 := ne_of_none hp1 hp2
    have e4 := Evl.Ex.new (o := .tup []) hp2
    have hx4 := e4 _ _ hx3
    have hp14 := e4 _ _ hp1
    have hi4 := hi1.mono e4
    have e34 : Ex (hid [x] H) (hid [x] (upd H3 p2 (.tup []))) := Evl.Ex.trans e2 (Evl.Ex.trans e3 (hid_mono e4))
    have hp24 : upd H3 p2 (.tup []) p2 = some (.tup []) := upd_same
    generalize upd H3 p2 (.tup []) = H4 at e4 hx4 hp14 hi4 e34 hp24 ⊢
    have hW4 := hR.back e34
    walk_at "vc"
    refine ⟨fun σ' H' => ∃ p1 p2 ys1 ys2, σ' = [some (.ref x), some (.int deep), some (.int b), some (.int (i : Int)), some (.ref p1), some (.ref p2)] ∧ Ex (hid [x] H) (hid [x] H') ∧ RdAt K H' x L (i + 1 + nl one + (if e then 1 + nl two else 0)) ∧ H' p1 = some (.tup ys1) ∧ ItemsAt H' one ys1 ∧ H' p2 = some (.tup ys2) ∧ ItemsAt H' two ys2, ?_, ?_⟩
    · walk_at "vc"
      refine ⟨x, dx3, _, rfl, hx4, rfl, ?_⟩
      walk_at "vc"
      have hlt : i + 1 + nl one < ls.length := by
        cases e with
        | true => exact (drop_get d3).2.2
        | false => exact (drop_get d3).2.2
      refine ⟨x, L, i + 1 + nl one, ls, ["else"], rfl, ⟨dx3, hx4⟩, hW4, hok, by decide, fun z hz => by rw [List.mem_singleton.mp hz]; decide +kernel, Nat.le_of_lt hlt, fun H5 e5 => ?_⟩
      cases e with
      | false =>
        have et : isAt ls (i + 1 + nl one) ["else"] = false := by
          rw [isAt_of (drop_get (show ls.drop (i + 1 + nl one) = (["end"] : List Str) :: rest from d3)).1]
          decide +kernel
        rw [et]
        walk_at "vc"
        have et2 := he2 rfl
        subst et2
        exact ⟨p1, p2, ys1, [], rfl, Evl.Ex.trans e34 (hid_mono e5), ⟨dx3, e5 _ _ hx4⟩, e5 _ _ hp14, hi4.mono e5, e5 _ _ hp24, rfl⟩
      | true =>
        have d4 : ls.drop (i + 1 + nl one) = (["else"] : List Str) :: (wl two ++ ((["end"] : List Str) :: rest)) := d3
        obtain ⟨q1, q2, _⟩ := drop_get d4
        have et : isAt ls (i + 1 + nl one) ["else"] = true := by
          rw [isAt_of q1]
          decide +kernel
        rw [et]
        have hx5 := e5 _ _ hx4
        walk_at "vc"
        refine ex_faug hx5 (Z.cls "Reader") (Z.noat "Reader" "at") rfl ?_
        walk_at "vc"
        refine ⟨_, _, rfl, rfl, dx3, _, hx5, by show 2 < 1000; decide, ?_⟩
        have hx6 : (upd H5 x (.ins (He.ga K "Reader") dx3 (putF "at" (.int (((i + 1 + nl one : Nat) : Int) + 1)) [("rows", .ref L), ("at", .int ((i + 1 + nl one : Nat) : Int))]))) x = some (.ins (He.ga K "Reader") dx3 [("rows", .ref L), ("at", .int ((i + 1 + nl one + 1 : Nat) : Int))]) := upd_same
        have e6 : Ex (hid [x] H4) (hid [x] (upd H5 x (.ins (He.ga K "Reader") dx3 (putF "at" (.int (((i + 1 + nl one : Nat) : Int) + 1)) [("rows", .ref L), ("at", .int ((i + 1 + nl one : Nat) : Int))])))) := by
          rw [hid_upd (by simp)]
          exact hid_mono e5
        generalize upd H5 x (.ins (He.ga K "Reader") dx3 (putF "at" (.int (((i + 1 + nl one : Nat) : Int) + 1)) [("rows", .ref L), ("at", .int ((i + 1 + nl one : Nat) : Int))])) = H6 at hx6 e6 ⊢
        walk_at "vc"
        refine ⟨x, dx3, _, rfl, hx6, rfl, ?_⟩
        walk_at "vc"
        have e46 := Evl.Ex.trans e34 e6
        refine ⟨x, L, i + 1 + nl one + 1, ls, two, _, _, rfl, by omega, ⟨⟨dx3, hx6⟩, hR.back e46⟩, hok, hls, q2, .inr ⟨_, _, rfl, .inr rfl⟩, by omega, s2, a2, fun p7 ys7 H7 e7 hr7 hp7 hi7 => ?_⟩
        walk_at "vc"
        have t47 : TEx H4 H7 := (tex_hid e6 fun a ha => by rw [List.mem_singleton.mp ha]; exact noTup_ins hx4).trans (tex_hid e7 fun a ha => by rw [List.mem_singleton.mp ha]; exact noTup_ins hx6)
        refine ⟨p1, p7, ys1, ys7, rfl, Evl.Ex.trans e46 e7, ?_, t47 _ _ hp14, hi4.tex t47, hp7, hi7⟩
        rw [show i + 1 + nl one + (if true = true then 1 + nl two else 0) = i + 1 + nl one + 1 + nl two by rw [if_pos rfl]; omega]
        exact hr7
    · rintro σ' H5 ⟨p1, p2, ys1, ys2, rfl, e5, hr5, hp1, hi1, hp2, hi2⟩
      obtain ⟨dx5, hx5⟩ := id hr5
      walk_at "vc"
      refine ⟨x, dx5, _, rfl, hx5, rfl, ?_⟩
      walk_at "vc"
      have d5 : ls.drop (i + 1 + nl one + (if e then 1 + nl two else 0)) = (["end"] : List Str) :: rest := by
        cases e with
        | false => exact d3
        | true =>
          have q2 := (drop_get (show ls.drop (i + 1 + nl one) = (["else"] : List Str) :: (wl two ++ ((["end"] : List Str) :: rest)) from d3)).2.1
          have q3 := drop_go q2
          rw [show i + 1 + nl one + (if true = true then 1 + nl two else 0) = i + 1 + nl one + 1 + nl two by rw [if_pos rfl]; omega]
          exact q3
      obtain ⟨q1, _, q3⟩ := drop_get d5
      have et : isAt ls (i + 1 + nl one + (if e then 1 + nl two else 0)) ["end"] = true := by
        rw [isAt_of q1]
        decide +kernel
      refine ⟨x, L, _, ls, ["end"], rfl, hr5, hR.back e5, hok, by decide, fun z hz => by rw [List.mem_singleton.mp hz]; decide +kernel, Nat.le_of_lt q3, fun H6 e6 => ?_⟩
      rw [et]
      have hx6 := e6 _ _ hx5
      walk_at "vc"
      refine ex_faug hx6 (Z.cls "Reader") (Z.noat "Reader" "at") rfl ?_
      walk_at "vc"
      refine ⟨_, _, rfl, rfl, dx5, _, hx6, by show 2 < 1000; decide, ?_⟩
      walk_at "vc"
      intro p7 hp7
      have nx7 : x ≠ p7 := fun q => by rw [← q, upd_same] at hp7; cases hp7
      have t7 := (tex_upd (o := .ins (He.ga K "Reader") dx5 (putF "at" (.int (((i + 1 + nl one + (if e then 1 + nl two else 0) : Nat) : Int) + 1)) [("rows", .ref L), ("at", .int ((i + 1 + nl one + (if e then 1 + nl two else 0) : Nat) : Int))])) (noTup_ins hx6)).trans (tex_of (Evl.Ex.new hp7 (o := .tup [.str "if", .int b, .ref p1, .ref p2, .int (i : Int)])))
      refine k p7 _ ?_ ⟨dx5, (upd_ne nx7).trans (upd_same.trans ?_)⟩ ⟨p7, p1, p2, ys1, ys2, [], i, rfl, upd_same, t7 _ _ (e6 _ _ hp1), (hi1.mono e6).tex t7, t7 _ _ (e6 _ _ hp2), (hi2.mono e6).tex t7, rfl⟩
      · refine Evl.Ex.trans (Evl.Ex.trans e5 (hid_mono e6)) ?_
        have hh := hid_mono (as := [x]) (Evl.Ex.new hp7 (o := .tup [.str "if", .int b, .ref p1, .ref p2, .int (i : Int)]))
        rw [hid_upd (by simp)] at hh
        exact hh
      · show some (HO.ins (He.ga K "Reader") dx5 [("rows", .ref L), ("at", .int (((i + 1 + nl one + (if e then 1 + nl two else 0) : Nat) : Int) + 1))]) = some (HO.ins (He.ga K "Reader") dx5 [("rows", .ref L), ("at", .int ((i + (1 + nl one + (if e then 1 + nl two else 0) + 1 + 0) : Nat) : Int))])
        rw [show ((i + 1 + nl one + (if e then 1 + nl two else 0) : Nat) : Int) + 1 = ((i + (1 + nl one + (if e then 1 + nl two else 0) + 1 + 0) : Nat) : Int) by omega]
end
/-! ### together -/
theorem meth_none {P : Program} {w : World} {K : PySem.W.Frag} {mg : Str → Option Value} {base : Heap} {ps : List Str} {sp : Sp} (Z : Zf K mg) (k i : Nat) {C m q : Str} {st : Stmt} (h : fns[i]? = some ⟨.meth C m, m, q, defArgs st, defBody st, defScope st, [], []⟩)
    (bind : ∀ (kV doc pm : Value) (an : Option Addr) (cdv ct : Value) (us : List Value), us.length = ps.length → bindArgs (PySem.W.fnOf m q (defArgs st) (defBody st) (defScope st) .none kV doc pm an cdv ct) ⟨us, []⟩ = pure (ps.zip us))
    (no : ∀ vs H Q E, ¬ sp vs H Q E) : Mf P w K mg base C m k ps sp := by
  obtain ⟨fd, F⟩ := Z.def_ i h
  exact ⟨fd, ⟨fun vs H Q E h => absurd h (no vs H Q E), fun A outer s H args us vs Q E _ _ _ _ h => absurd h (no vs H Q E)⟩, F.bindsN bind⟩
section
variable {P : Program} {w : World} {K : PySem.W.Frag} {mg : Str → Option Value} {base : Heap}
theorem D_choice (Z : Zf K mg) : ∀ n : Nat, Mf P w K mg base "Reader" "choice_in" (2 * n + 7) ["self", "deep"] (spChoice K n)
  | 0 => meth_none Z 7 23 (st := s_Reader_choice_in) rfl (fun _ _ _ _ _ _ us hl => match us, hl with | [_, _], _ => rfl) (fun vs H Q E ⟨_, _, _, _, _, _, _, _, _, _, _, _, _, _, _, _, hs, _⟩ => by
    obtain ⟨_, _, _, ⟨d', h, _⟩, _⟩ := hs
    omega)
  | n + 1 => by
    rw [show 2 * (n + 1) + 7 = (2 * n + 7 + 1) + 1 by omega]
    exact choice_one Z (lines_one Z (D_choice Z n) (by omega)) (by omega)
theorem D_lines (Z : Zf K mg) (n : Nat) : Mf P w K mg base "Reader" "lines_in" (2 * n + 8) ["self", "deep"] (spLines K n) := lines_one Z (D_choice Z n) (by omega)
end
end Ov
/-! text OvP7 -/
set_option Elab.async false
set_option linter.all false
set_option maxRecDepth 100000
namespace Ov
open PySem PySem.Spec PyProof.Rows L2
open Rows TL
local macro_rules | `(tactic| walk_at "hp") => `(tactic| first
  | assumption
  | exact upd_same
  | (refine Evl.Ex.new (by assumption) _ _ ?_; walk_at "hp")
  | (refine (by assumption : Evl.Ex _ _) _ _ ?_; walk_at "hp"))
local macro_rules | `(tactic| walk_at "sq") => `(tactic| first
  | assumption
  | exact SqL.of (by walk_at "hp")
  | exact SqT.of (by walk_at "hp")
  | (refine Evl.ex_l (by assumption) ?_; walk_at "sq")
  | (refine Evl.ex_t (by assumption) ?_; walk_at "sq")
  | (refine Evl.ex_l (Evl.Ex.new (by assumption)) ?_; walk_at "sq")
  | (refine Evl.ex_t (Evl.Ex.new (by assumption)) ?_; walk_at "sq"))
local macro_rules | `(tactic| walk_at "ex") => `(tactic| first
  | assumption
  | exact Evl.Ex.refl _
  | (refine Evl.Ex.trans ?_ (Evl.Ex.new (by assumption)); walk_at "ex")
  | (refine Evl.Ex.trans ?_ (by assumption); walk_at "ex"))
local macro_rules | `(tactic| walk_at "s1") => `(tactic| first
  | refine ⟨_, rfl, ?_⟩
  | refine ⟨rfl, ?_⟩
  | refine ⟨_, _, rfl, rfl, ?_⟩
  | refine ⟨_, _, _, rfl, rfl, ?_⟩)
local macro_rules | `(tactic| walk_at "st") => `(tactic| repeat walk_at "s1")
local macro_rules | `(tactic| walk_at "v1") => `(tactic| first
  | ((with_reducible refine' s_var ?vch ?_); (case vch => exact rfl))
  | with_reducible refine' s_c ?_
  | with_reducible refine' s_seq ?_
  | with_reducible refine' s_asg ?_
  | with_reducible refine' s_name ?_
  | with_reducible refine' s_cons ?_
  | with_reducible refine' s_nil ?_
  | with_reducible refine' s_op ?_
  | with_reducible refine' s_rI0 ?_
  | with_reducible refine' s_ret ?_
  | with_reducible refine' s_test ?_
  | with_reducible refine' s_ifS ?_
  | with_reducible refine' s_call ?_
  | with_reducible refine' s_cb ?_
  | ((with_reducible refine' s_rEq ?vch ?_); (case vch => exact rfl))
  | ((with_reducible refine' s_rNe ?vch ?_); (case vch => exact rfl))
  | ((with_reducible refine' s_ixT ?vch ?vca ?_); (case vch => walk_at "sq"); (case vca => first | exact rfl | exact at_nat 0 rfl | exact at_nat 1 rfl | exact at_nat 2 rfl | exact at_nat 3 rfl | exact at_nat 4 rfl))
  | ((with_reducible refine' s_ixL ?vch ?vca ?_); (case vch => walk_at "sq"); (case vca => first | exact rfl | exact at_nat 0 rfl | exact at_nat 1 rfl | exact at_nat 2 rfl | exact at_nat 3 rfl | exact at_nat 4 rfl))
  | with_reducible refine iteT' ?_
  | with_reducible refine iteF' ?_
  | with_reducible refine' ex_bl ?_
  | with_reducible refine' ex_int ?_
  | with_reducible refine' ex_str ?_
  | with_reducible refine' ex_int1 ?_
  | with_reducible refine' ex_str1 ?_
  | with_reducible refine' ex_int2 ?_
  | with_reducible refine' ex_pair ?_
  | with_reducible refine' s_un ?_
  | with_reducible refine' s_B ?_
  | with_reducible refine' s_andV ?_
  | with_reducible refine' s_orV ?_
  | with_reducible refine' s_notV ?_
  | with_reducible refine' s_and ?_
  | with_reducible refine' s_or ?_
  | with_reducible refine' s_not ?_
  | with_reducible refine' s_if ?_
  | with_reducible refine' s_chain ?_
  | with_reducible refine' s_next ?_
  | with_reducible refine' s_break ?_
  | with_reducible refine' s_cont ?_
  | with_reducible refine' s_drop ?_
  | with_reducible refine' s_retN ?_
  | with_reducible refine' s_par ?_
  | ((with_reducible refine' s_aug ?vch ?_); (case vch => exact rfl))
  | with_reducible refine' s_ip ?_
  | with_reducible refine' s_gcons ?_
  | with_reducible refine' s_gnil ?_
  | ((with_reducible refine' s_gtup ?vch ?vca ?_); (case vch => walk_at "sq"); (case vca => exact rfl))
  | with_reducible refine' s_tup ?_
  | with_reducible refine' s_lst ?_
  | with_reducible refine' s_sl ?_
  | with_reducible refine' s_part ?_
  | with_reducible refine' s_nopart ?_
  | with_reducible refine' s_fld ?_
  | with_reducible refine' s_make ?_
  | with_reducible refine' s_meth ?_
  | with_reducible refine' s_prop ?_
  | with_reducible refine' s_makeK ?_
  | with_reducible refine' s_gsub ?_
  | ((with_reducible refine' s_setL ?vch ?vca ?_); (case vch => walk_at "hp"); (case vca => exact rfl))
  | with_reducible refine' s_par3 ?_
  | with_reducible refine' ex_three ?_
  | with_reducible refine' s_star ?_
  | with_reducible refine' s_dnewK ?_
  | with_reducible refine' s_dsetd ?_
  | with_reducible refine' s_methR ?_
  | with_reducible refine' s_fldaug ?_
  | with_reducible refine' s_dictzip ?_
  | with_reducible refine' s_sfld ?_
  | with_reducible refine' s_bm ?_
  | with_reducible refine' s_bm0 ?_
  | with_reducible refine' s_m1 ?_
  | with_reducible refine' s_dget ?_
  | with_reducible refine' s_lc ?_
  | with_reducible refine' s_for ?_
  | with_reducible refine' s_iList ?_
  | with_reducible refine' s_iTup ?_
  | with_reducible refine' s_iStr ?_
  | with_reducible refine' s_iRng1 ?_
  | with_reducible refine' s_iRng2 ?_
  | with_reducible refine' s_yes ?_
  | with_reducible refine' s_rU ?_
  | ((with_reducible refine' s_isiP ?vch ?_); (case vch => exact rfl))
  | ((with_reducible refine' ex_lenL ?vch ?_); (case vch => walk_at "sq"))
  | ((with_reducible refine' ex_lenT ?vch ?_); (case vch => walk_at "sq"))
  | ((with_reducible refine' ex_tupL ?vch ?_); (case vch => walk_at "sq"))
  | ((with_reducible refine' ex_lstT ?vch ?_); (case vch => walk_at "sq"))
  | ((with_reducible refine' ex_srcL ?vch ?_); (case vch => walk_at "sq"))
  | ((with_reducible refine' ex_srcT ?vch ?_); (case vch => walk_at "sq"))
  | ((with_reducible refine' s_mk ?vch ?_); (case vch => exact small_le (Nat.le_of_ble_eq_true rfl)))
  | with_reducible refine' ⟨_, _, rfl, rfl, ?_⟩
  | with_reducible refine' ⟨⟨_, rfl⟩, ?_⟩
  | with_reducible refine' ⟨rfl, ?_⟩
  | ((with_reducible refine' iteT_of ?vch ?_); (case vch => exact rfl))
  | ((with_reducible refine' iteF_of ?vch ?_); (case vch => exact rfl)))
local macro_rules | `(tactic| walk_at "vc") => `(tactic| repeat walk_at "v1")
/-- all lines, outer to inner -/
def al : Rows → List Ln
  | .nil => []
  | .line l r => l :: al r
  | .iff _ _ one two r => al one ++ al two ++ al r
  | .whl _ body r => al body ++ al r
theorem al_len : ∀ {r : Rows} {d : Nat}, Shape r d → (al r).length ≤ nl r
  | .nil, _, _ => Nat.le_refl _
  | .line l r, d, h => by
    have := al_len (r := r) h.2
    show (al r).length + 1 ≤ 1 + nl r
    omega
  | .iff b e one two r, d, h => by
    obtain ⟨_, _, he, ⟨d', _, h1, h2⟩, h3⟩ := h
    have q1 := al_len h1
    have q2 := al_len h2
    have q3 := al_len h3
    simp only [al, nl, List.length_append]
    cases e with
    | true =>
      simp only [if_true]
      omega
    | false =>
      have e2 := he rfl
      subst e2
      simp only [al, List.length_nil]
      omega
  | .whl b body r, d, h => by
    obtain ⟨_, _, _, h1, _, _, h3⟩ := h
    have q1 := al_len h1
    have q3 := al_len h3
    simp only [al, nl, List.length_append]
    omega
theorem al_flat : ∀ {r : Rows}, Flat r → al r = lns r
  | .nil, _ => rfl
  | .line l r, h => by
    show l :: al r = l :: lns r
    rw [al_flat (r := r) h]
  | .iff _ _ _ _ _, h => h.elim
  | .whl _ _ _, h => h.elim
theorem al_all {P : Ln → Prop} : ∀ {r : Rows}, AllLn P r → ∀ l ∈ al r, P l
  | .nil, _, l, h => nomatch h
  | .line l0 r, ha, l, h => by
    rcases List.mem_cons.mp h with rfl | h
    · exact ha.1
    · exact al_all (r := r) ha.2 l h
  | .iff b e one two r, ha, l, h => by
    simp only [al, List.mem_append] at h
    rcases h with (h | h) | h
    · exact al_all ha.1 l h
    · exact al_all ha.2.1 l h
    · exact al_all ha.2.2 l h
  | .whl b body r, ha, l, h => by
    simp only [al, List.mem_append] at h
    rcases h with h | h
    · exact al_all ha.1 l h
    · exact al_all ha.2 l h
def LnsAt (H : Hp) : List V → List Ln → Prop
  | [], [] => True
  | v :: vs, l :: ls => ItemLn H v l ∧ LnsAt H vs ls
  | _, _ => False
theorem LnsAt.tex {H H' : Hp} (e : TEx H H') : ∀ {vs : List V} {ls : List Ln}, LnsAt H vs ls → LnsAt H' vs ls
  | [], [], _ => trivial
  | _ :: _, _ :: _, h => ⟨h.1.tex e, LnsAt.tex e h.2⟩
  | [], _ :: _, h => h.elim
  | _ :: _, [], h => h.elim
theorem LnsAt.app {H : Hp} : ∀ {vs ws : List V} {ls ms : List Ln}, LnsAt H vs ls → LnsAt H ws ms → LnsAt H (vs ++ ws) (ls ++ ms)
  | [], _, [], _, _, q => q
  | _ :: _, _, _ :: _, _, h, q => ⟨h.1, LnsAt.app h.2 q⟩
  | [], _, _ :: _, _, h, _ => h.elim
  | _ :: _, _, [], _, h, _ => h.elim
theorem LnsAt.len {H : Hp} : ∀ {vs : List V} {ls : List Ln}, LnsAt H vs ls → vs.length = ls.length
  | [], [], _ => rfl
  | _ :: _, _ :: _, h => by rw [List.length_cons, List.length_cons, LnsAt.len h.2]
  | [], _ :: _, h => h.elim
  | _ :: _, [], h => h.elim
theorem LnsAt.get {H : Hp} : ∀ {vs : List V} {ls : List Ln}, LnsAt H vs ls → ∀ (i : Nat) (v : V), vs[i]? = some v → ∃ l, ls[i]? = some l ∧ ItemLn H v l
  | [], [], _, i, v, h => by simp at h
  | v :: vs, l :: ls, h, 0, v', e => ⟨l, rfl, by cases e; exact h.1⟩
  | v :: vs, l :: ls, h, i + 1, v', e => by
    obtain ⟨l', h1, h2⟩ := LnsAt.get h.2 i v' (by simpa using e)
    exact ⟨l', by simpa using h1, h2⟩
  | [], _ :: _, h, _, _, _ => h.elim
  | _ :: _, [], h, _, _, _ => h.elim
theorem lns_of_items {H : Hp} : ∀ {r : Rows} {vs : List V}, Flat r → ItemsAt H r vs → LnsAt H vs (lns r)
  | .nil, vs, _, h => by
    have e : vs = [] := h
    subst e
    exact trivial
  | .line l r, _, hf, ⟨v, vs', rfl, b, c⟩ => ⟨b, lns_of_items (r := r) hf c⟩
  | .iff _ _ _ _ _, _, h, _ => h.elim
  | .whl _ _ _, _, h, _ => h.elim
section
variable {P : Program} {w : World} {K : PySem.W.Frag} {mg : Str → Option Value} {base : Heap}
/-! ### statements_of -/
def spStms (n : Nat) : Sp := fun vs H Q _ => ∃ (a : Addr) (ys : List V) (r : Rows) (d : Nat), vs = [.ref a] ∧ H a = some (.tup ys) ∧ ItemsAt H r ys ∧ dep r < n ∧ Shape r d ∧ nl r ≤ 400 ∧ ∀ p zs H', Ex H H' → H p = none → H' p = some (.lst zs) → LnsAt H' zs (al r) → Q (.ref p) H'
theorem sc_statements_of : FnScope ["items", "found", "item"] ["items"] (defScope s_statements_of) := ⟨rfl, rfl, rfl, by decide +kernel, rfl, by decide +kernel, by decide +kernel⟩
theorem stms_one (Z : Zf K mg) {n : Nat} (R : Df P w K mg base "statements_of" n ["items"] (spStms n)) : Df P w K mg base "statements_of" (n+1) ["items"] (spStms (n+1)) := by
  refine def_ok Z 25 rfl (by decide +kernel) sc_statements_of (fun _ _ _ _ _ _ us hl => match us, hl with | [_], _ => rfl) (fun vs H Q E h => ?_) (fun f cdv A outer s H vs Q E hr h => ⟨_, (pss_cons (ps_asg (pe_lst pa_nil) (pgn 1 sc_statements_of.nd))
      (pss_cons (ps_for PassesOwn.never rfl (pi_tup (pv 0)) (pgn 2 sc_statements_of.nd)
      (pss_one (ps_if (pt_cmpR op_eq (pe_ix ix_tup (pv 2) pe_int (fun _ _ => rfl)) pe_str (nomark _)) (pss_one (ps_expr (pe_bm PySem.F.plainAttrs_list PySem.F.slot_list_extend PySem.F.type_list_extend mt_extend (pv 1) (pa_cons (pe_op op_cat (pe_callD R hr (by omega) rfl (pa_cons (pe_ix ix_tup (pv 2) pe_int (fun _ _ => rfl)) pa_nil)) (pe_callD R hr (by omega) rfl (pa_cons (pe_ix ix_tup (pv 2) pe_int (fun _ _ => rfl)) pa_nil))) pa_nil)))) (pss_one (ps_if (pt_cmpR op_eq (pe_ix ix_tup (pv 2) pe_int (fun _ _ => rfl)) pe_str (nomark _)) (pss_one (ps_expr (pe_bm PySem.F.plainAttrs_list PySem.F.slot_list_extend PySem.F.type_list_extend mt_extT (pv 1) (pa_cons (pe_ix ix_tup (pv 2) pe_int (fun _ _ => rfl)) pa_nil)))) (pss_one (ps_expr (pe_bm PySem.F.plainAttrs_list PySem.F.slot_list_append PySem.F.type_list_append mt_append (pv 1) (pa_cons (pv 2) pa_nil)))))))))
      (pss_one (ps_ret (pv 1))))), ?_⟩)
  · obtain ⟨a, ys, r, d, rfl, _⟩ := h
    rfl
  · obtain ⟨a, ys, rows, d, rfl, ha, hi, hd, hs, hnl, k⟩ := h
    have hal := al_len hs
    walk_at "vc"
    intro p hp
    walk_at "vc"
    refine for_rows walk_tup (ItemsAt H) items_nil (fun r σ H' => Ex H H' ∧ dep r ≤ dep rows ∧ (∃ d, Shape r d) ∧ nl r ≤ 400 ∧ ∃ zs done v, σ = [some (.ref a), some (.ref p), v] ∧ H' p = some (.lst zs) ∧ LnsAt H' zs done ∧ al rows = done ++ al r) rows hi ⟨Evl.Ex.new hp, Nat.le_refl _, ⟨d, hs⟩, hnl, [], [], _, rfl, upd_same, trivial, rfl⟩ (fun r σ H' ⟨e, _⟩ => by walk_at "sq") ?_ ?_
    · rintro r x vs' σ H' ⟨e, hdr, ⟨d', hsr⟩, hnr, zs, done, v, rfl, hp', hz, hal'⟩ hx
      have hlen := hz.len
      have hl2 : (al rows).length = done.length + (al r).length := by rw [hal', List.length_append]
      rcases r with _ | ⟨l, r⟩ | ⟨b, f, one, two, r⟩ | ⟨b, body, r⟩
      · cases hx
      · obtain ⟨x', vs2, e1, hl, hr⟩ := hx
        cases e1
        obtain ⟨q, y, xs, rfl, hq, n1, n2, _⟩ := hl.get
        simp only [dep, nl] at hdr hnr
        walk_at "vc"
        refine iteF_of (dne n1) ?_
        walk_at "vc"
        refine iteF_of (dne n2) ?_
        walk_at "vc"
        refine ⟨.inl ⟨rfl, zs, SqL.of hp'⟩, ?_⟩
        walk_at "vc"
        refine ⟨p, zs, _, rfl, rfl, hp', by rw [sizeLine_eq]; omega, ?_⟩
        have t1 := tex_upd (o := .lst (zs ++ [V.ref q])) (noTup_lst hp')
        have e' : Ex H (upd H' p (.lst (zs ++ [V.ref q]))) := ex_upd e hp
        walk_at "vc"
        exact ⟨r, hr, e', hdr, ⟨d', hsr.2⟩, by omega, zs ++ [.ref q], done ++ [l], _, rfl, upd_same, LnsAt.app (hz.tex t1) ⟨(hl.mono e).tex t1, trivial⟩, by rw [hal']; simp [al]⟩
      · obtain ⟨q, q1, q2, vs1, vs2, vs3, k0, e1, hq, h1, i1, h2, i2, hr⟩ := hx
        cases e1
        obtain ⟨_, _, he2, ⟨d2, _, s1, s2⟩, s3⟩ := hsr
        have b1 := al_len s1
        have b2 := al_len s2
        simp only [dep, nl] at hdr hnr
        walk_at "vc"
        refine ⟨.inl ⟨rfl, zs, SqL.of hp'⟩, ?_⟩
        walk_at "vc"
        have n2 : nl two ≤ 400 := by
          cases f with
          | true => simp only [if_true] at hnr; omega
          | false =>
            rw [he2 rfl]
            decide
        refine ⟨q1, vs1, one, d2, rfl, e _ _ h1, i1.mono e, by omega, s1, by omega, fun p4 zs4 H4 e4 _ hp4 hz4 => ?_⟩
        walk_at "vc"
        have e04 := Evl.Ex.trans e e4
        refine ⟨q2, vs2, two, d2, rfl, e04 _ _ h2, i2.mono e04, by omega, s2, n2, fun p5 zs5 H5 e5 _ hp5 hz5 => ?_⟩
        have l4 := hz4.len
        have l5 := hz5.len
        refine ⟨p4, p5, zs4, zs5, rfl, rfl, e5 _ _ hp4, hp5, by rw [sizeLine_eq]; omega, fun p6 hp6 => ?_⟩
        walk_at "vc"
        have e46 : Ex H' (upd H5 p6 (.lst (zs4 ++ zs5))) := Evl.Ex.trans e4 (Evl.Ex.trans e5 (Evl.Ex.new hp6))
        have hp6' : p ≠ p6 := ne_of_none (e5 _ _ (e4 _ _ hp')) hp6
        refine ⟨p, p6, zs, zs4 ++ zs5, rfl, rfl, e46 _ _ hp', upd_same, ?_, ?_⟩
        · rw [List.length_append, sizeLine_eq]
          simp only [al, List.length_append] at hl2
          omega
        have t1 := tex_upd (o := .lst (zs ++ (zs4 ++ zs5))) (noTup_lst (e46 _ _ hp'))
        have e' := ex_upd (o := .lst (zs ++ (zs4 ++ zs5))) (Evl.Ex.trans e e46) hp
        walk_at "vc"
        refine ⟨r, hr, e', by omega, ⟨_, s3⟩, by omega, zs ++ (zs4 ++ zs5), done ++ (al one ++ al two), _, rfl, upd_same, ?_, by rw [hal']; simp [al]⟩
        exact (LnsAt.app (hz.tex (tex_of e46)) (LnsAt.app (hz4.tex (tex_of (Evl.Ex.trans e5 (Evl.Ex.new hp6)))) (hz5.tex (tex_of (Evl.Ex.new hp6))))).tex t1
      · obtain ⟨q, q1, vs1, vs3, k0, e1, hq, h1, i1, hr⟩ := hx
        cases e1
        obtain ⟨_, _, hf, s1, _, _, s3⟩ := hsr
        have b1 := al_len s1
        simp only [dep, nl] at hdr hnr
        walk_at "vc"
        refine ⟨.inl ⟨rfl, zs, SqL.of hp'⟩, ?_⟩
        walk_at "vc"
        have hz1 := lns_of_items hf i1
        have l1 := hz1.len
        have ef := al_flat hf
        refine ⟨p, q1, zs, vs1, rfl, rfl, hp', SqT.of (e _ _ h1), ?_, ?_⟩
        · rw [sizeLine_eq]
          simp only [al, List.length_append, ef] at hl2
          omega
        have t1 := tex_upd (o := .lst (zs ++ vs1)) (noTup_lst hp')
        have e' := ex_upd (o := .lst (zs ++ vs1)) e hp
        walk_at "vc"
        exact ⟨r, hr, e', by omega, ⟨_, s3⟩, by omega, zs ++ vs1, done ++ al body, _, rfl, upd_same, LnsAt.app (hz.tex t1) ((ef ▸ hz1.tex (tex_of e)).tex t1), by rw [hal']; simp [al]⟩
    · rintro σ H' ⟨e, _, _, _, zs, done, v, rfl, hp', hz, hal'⟩
      walk_at "vc"
      have e0 : al rows = done := by rw [hal']; simp [al]
      rw [← e0] at hz
      exact k p zs H' e hp hp' hz
theorem D_stms (Z : Zf K mg) : ∀ n : Nat, Df P w K mg base "statements_of" n ["items"] (spStms n)
  | 0 => df_none Z 25 (st := s_statements_of) rfl (by decide +kernel) (fun _ _ _ _ _ _ us hl => match us, hl with | [_], _ => rfl) (fun vs H Q E ⟨_, _, _, _, _, _, _, h, _⟩ => absurd h (Nat.not_lt_zero _))
  | n + 1 => stms_one Z (D_stms Z n)
/-! ### places_of -/
def pls : Ln → List Str
  | .work x _ as => x :: as
  | .load x _ _ => [x]
  | .store _ _ x => [x]
  | .copy x y => [x, y]
  | .step _ => []
def spPlaces : Sp := fun vs H Q _ => ∃ (v : V) (l : Ln), vs = [v] ∧ ItemLn H v l ∧ (pls l).length ≤ 10 ∧ ∀ p H', Ex H H' → H' p = some (.lst ((pls l).map V.str)) → Q (.ref p) H'
theorem sc_places_of : FnScope ["item"] ["item"] (defScope s_places_of) := ⟨rfl, rfl, rfl, by decide +kernel, rfl, by decide +kernel, by decide +kernel⟩
theorem D_places_of (Z : Zf K mg) : Df P w K mg base "places_of" (1) ["item"] spPlaces := by
  refine def_ok Z 26 rfl (by decide +kernel) sc_places_of (fun _ _ _ _ _ _ us hl => match us, hl with | [_], _ => rfl) (fun vs H Q E h => ?_) (fun f cdv A outer s H vs Q E hr h => ⟨_, (pss_cons (ps_if (pt_cmpR op_eq (pe_ix ix_tup (pv 0) pe_int (fun _ _ => rfl)) pe_str (nomark _)) (pss_one (ps_ret (pe_lst (pa_cons (pe_ix ix_tup (pv 0) pe_int (fun _ _ => rfl)) (StX.pa_star (pe_ix ix_tup (pv 0) pe_int (fun _ _ => rfl)) pa_nil))))) pss_nil)
      (pss_cons (ps_if (pt_cmpR op_eq (pe_ix ix_tup (pv 0) pe_int (fun _ _ => rfl)) pe_str (nomark _)) (pss_one (ps_ret (pe_lst (pa_cons (pe_ix ix_tup (pv 0) pe_int (fun _ _ => rfl)) (pa_cons (pe_ix ix_tup (pv 0) pe_int (fun _ _ => rfl)) pa_nil))))) pss_nil)
      (pss_cons (ps_if (pt_cmpR op_eq (pe_ix ix_tup (pv 0) pe_int (fun _ _ => rfl)) pe_str (nomark _)) (pss_one (ps_ret (pe_lst (pa_cons (pe_ix ix_tup (pv 0) pe_int (fun _ _ => rfl)) pa_nil)))) pss_nil)
      (pss_one (ps_ret (pe_ifExp (pt_cmpR op_eq (pe_ix ix_tup (pv 0) pe_int (fun _ _ => rfl)) pe_str (nomark _)) (pe_lst (pa_cons (pe_ix ix_tup (pv 0) pe_int (fun _ _ => rfl)) pa_nil)) (pe_lst pa_nil))))))), ?_⟩)
  · obtain ⟨v, l, rfl, _⟩ := h
    rfl
  · obtain ⟨v, l, rfl, ⟨p, k0, rfl, hp⟩, hl, k⟩ := h
    cases l with
    | work x f as =>
      obtain ⟨q, h1, h2⟩ := hp
      walk_at "vc"
      refine ⟨q, _, rfl, .inl (SqT.of h2), ?_⟩
      walk_at "vc"
      refine ⟨by simp only [pls, List.length_cons] at hl; simp; rw [sizeLine_eq]; omega, fun p2 hp2 => ?_⟩
      exact k p2 _ (Evl.Ex.new hp2) (upd_same.trans (by simp [pls]))
    | load x a o =>
      walk_at "vc"
      intro p2 hp2
      exact k p2 _ (Evl.Ex.new hp2) upd_same
    | store a o x =>
      walk_at "vc"
      intro p2 hp2
      exact k p2 _ (Evl.Ex.new hp2) upd_same
    | copy x y =>
      walk_at "vc"
      intro p2 hp2
      exact k p2 _ (Evl.Ex.new hp2) upd_same
    | step n =>
      walk_at "vc"
      intro p2 hp2
      exact k p2 _ (Evl.Ex.new hp2) upd_same
/-! ### widths_of -/
def spWidths (K : PySem.W.Frag) : Sp := fun vs H Q _ => ∃ (a : Addr) (ys : List V) (g : Str → Int), vs = [.ref a] ∧ SqL K H a ys ∧ ys.length ≤ 400 ∧ (∀ y ∈ ys, ∃ q f, y = .ref q ∧ H q = some (.tup [.str f, .int (g f)])) ∧ ∀ d H', Ex H H' → Q (.ref d) H'
theorem sc_widths_of : FnScope ["works", "widths", "word", "many"] ["works"] (defScope s_widths_of) := ⟨rfl, rfl, rfl, by decide +kernel, rfl, by decide +kernel, by decide +kernel⟩
theorem D_widths_of (Z : Zf K mg) : Df P w K mg base "widths_of" (1) ["works"] (spWidths K) := by
  refine def_ok Z 15 rfl (by decide +kernel) sc_widths_of (fun _ _ _ _ _ _ us hl => match us, hl with | [_], _ => rfl) (fun vs H Q E h => ?_) (fun f cdv A outer s H vs Q E hr h => ⟨_, (pss_cons (ps_asg (pe_dnewK) (pgn 1 sc_widths_of.nd))
      (pss_cons (ps_for PassesOwn.never rfl (pi_list (pv 0)) (pg_tup (by rfl) (pgs_cons (pgn 2 sc_widths_of.nd) (pgs_cons (pgn 3 sc_widths_of.nd) pgs_nil)))
      (pss_one (ps_if (pt_cmpR op_ne (pe_dsetd (pv 1) (pv 2) (pv 3) ⟨rfl, rfl, rfl, rfl⟩) (pv 3) (nomark _)) (pss_one (ps_ret pe_non)) pss_nil)))
      (pss_one (ps_ret (pv 1))))), ?_⟩)
  · obtain ⟨a, ys, g, rfl, _⟩ := h
    rfl
  · obtain ⟨a, ys, g, rfl, ha, hl, hy, k⟩ := h
    walk_at "vc"
    intro d hd
    walk_at "vc"
    refine ⟨a, rfl, ⟨_, Evl.ex_l (Evl.Ex.new hd) ha⟩, ?_⟩
    refine for_go walk_list (fun i σ H' => Ex H H' ∧ ∃ kvs v1 v2, H' d = some (.dK kvs) ∧ kvs.length ≤ i ∧ (∀ z v, valV kvs (Sum.inr z) = some v → v = .int (g z)) ∧ σ = [some (.ref a), some (.ref d), v1, v2]) ⟨Evl.Ex.new hd, [], _, _, upd_same, Nat.le_refl _, (fun z v h => nomatch h), rfl⟩ (fun i σ H' _ h => Evl.ex_l h.1 ha) ?_ ?_
    · rintro i y σ H1 H2 hi ⟨e1, kvs, v1, v2, hkv, hkl, hg, rfl⟩ ⟨eH, hyi⟩
      rw [eH]
      obtain ⟨q, f, rfl, hq⟩ := hy y (List.mem_of_getElem? hyi)
      walk_at "vc"
      refine ⟨d, rfl, .inl ⟨kvs, .inl hkv⟩, ?_⟩
      walk_at "vc"
      refine ⟨kvs, .inr f, hkv, rfl, by rw [sizeLine_eq]; omega, fun v hv => ?_, fun hv => ?_⟩
      · rw [hg f v hv]
        walk_at "vc"
        refine iteF_of (by rw [decide_eq_true rfl]; rfl) ?_
        walk_at "vc"
        exact ⟨e1, kvs, _, _, hkv, by omega, hg, rfl⟩
      · walk_at "vc"
        refine iteF_of (by rw [decide_eq_true rfl]; rfl) ?_
        walk_at "vc"
        refine ⟨ex_upd e1 hd, _, _, _, upd_same, Nat.le_trans (length_putK _ _ _) (by omega), fun z v hz => ?_, rfl⟩
        rw [valV_put] at hz
        by_cases c : (Sum.inr z : Key) = Sum.inr f
        · rw [if_pos c] at hz
          cases c
          cases hz
          rfl
        · rw [if_neg c] at hz
          exact hg z v hz
    · rintro σ H1 ⟨e1, kvs, v1, v2, hkv, hkl, hg, rfl⟩
      walk_at "vc"
      exact k d H1 e1
end
end Ov
/-! text OvSet -/
set_option Elab.async false
set_option linter.all false
set_option maxRecDepth 100000
/-! set(a list of texts), its length, sorted: what the hand layer lacks. -/
namespace Ov
open PySem PySem.Spec PyProof.Rows L2 Froz
/-- met the first time, the last one first -/
def metS (xs : List Str) : List Str := xs.foldl (fun l k => if k ∈ l then l else k :: l) []
theorem met_snoc (xs : List Str) (k : Str) : metS (xs ++ [k]) = if k ∈ metS xs then metS xs else k :: metS xs := by
  unfold metS
  rw [List.foldl_append]
  rfl
theorem fold_nodup : ∀ (xs l : List Str), l.Nodup → (xs.foldl (fun l k => if k ∈ l then l else k :: l) l).Nodup
  | [], l, h => h
  | k :: xs, l, h => by
    rw [List.foldl_cons]
    by_cases c : k ∈ l
    · rw [if_pos c]; exact fold_nodup xs l h
    · rw [if_neg c]; exact fold_nodup xs _ (List.nodup_cons.mpr ⟨c, h⟩)
theorem fold_mem : ∀ (xs l : List Str) (k : Str), k ∈ xs.foldl (fun l k => if k ∈ l then l else k :: l) l → k ∈ l ∨ k ∈ xs
  | [], l, k, h => .inl h
  | y :: xs, l, k, h => by
    rw [List.foldl_cons] at h
    rcases fold_mem xs _ k h with h | h
    · by_cases c : y ∈ l
      · rw [if_pos c] at h; exact .inl h
      · rw [if_neg c] at h
        rcases List.mem_cons.mp h with rfl | h
        · exact .inr List.mem_cons_self
        · exact .inl h
    · exact .inr (List.mem_cons_of_mem _ h)
theorem fold_len : ∀ (xs l : List Str), (xs.foldl (fun l k => if k ∈ l then l else k :: l) l).length ≤ l.length + xs.length
  | [], l => Nat.le_refl _
  | k :: xs, l => by
    rw [List.foldl_cons, List.length_cons]
    by_cases c : k ∈ l
    · rw [if_pos c]
      have := fold_len xs l
      omega
    · rw [if_neg c]
      have := fold_len xs (k :: l)
      rw [List.length_cons] at this
      omega
/-- distinct texts among U are no more than U has -/
theorem nodup_le : ∀ (l U : List Str), l.Nodup → (∀ x ∈ l, x ∈ U) → l.length ≤ U.length
  | [], _, _, _ => Nat.zero_le _
  | x :: l, U, h, hs => by
    obtain ⟨h1, h2⟩ := List.nodup_cons.mp h
    have hx := hs x List.mem_cons_self
    have q := nodup_le l (U.erase x) h2 fun y hy => by
      have ne : y ≠ x := fun e => h1 (e ▸ hy)
      exact (List.mem_erase_of_ne ne).mpr (hs y (List.mem_cons_of_mem _ hy))
    rw [List.length_erase_of_mem hx] at q
    have : 0 < U.length := List.length_pos_of_mem hx
    rw [List.length_cons]
    omega
section
variable {P : Program} {w : World} {A : Around} {E : Value → Shared → Prop} {s : Shared}
/-- beside TxOk: in what order its table stands, and that it is told -/
def SideOk (w : World) (D : SD) : Prop := Ris D.2.2.place.toList ∧ (w.params.followText "set-order" = true ∨ D.2.2.led = true)
theorem side_tail {ep ep' : Nat} {es1 : Array (Int × Value)} {t2 : SetTable} {wd : Bool} (q : SideOk w (es1, ep', t2)) : SideOk w (tailTx ep es1 t2 wd) := by
  unfold tailTx
  by_cases c : (!wd && t2.tooFull) = true
  · rw [if_pos c]
    exact ⟨relayAll_ris t2 es1 _, q.2.imp id fun z => (relayAll_led t2 es1 _).trans z⟩
  · rw [if_neg c]
    exact q
theorem side_add {D : SD} (h : Int) (v : Value) (q : SideOk w D) : SideOk w (addTx h v D) := by
  obtain ⟨es, ep, t⟩ := D
  obtain ⟨q1, q2⟩ := q
  have r1 := layNew_ris t es h v q1
  have r2 := layNew_led t es h v
  refine side_tail (ep' := ep) ?_
  by_cases c : (layNew t es h v).2.1.plain = true
  · show SideOk w ((layNew t es h v).1, ep, if (layNew t es h v).2.1.plain = true then { (layNew t es h v).2.1 with plain := false } else (layNew t es h v).2.1)
    rw [if_pos c]
    exact ⟨r1, q2.imp id fun z => r2.trans z⟩
  · show SideOk w ((layNew t es h v).1, ep, if (layNew t es h v).2.1.plain = true then { (layNew t es h v).2.1 with plain := false } else (layNew t es h v).2.1)
    rw [if_neg c]
    exact ⟨r1, q2.imp id fun z => r2.trans z⟩
/-- a text that is there already -/
theorem same_x {a : Addr} {T : String} {D : SD} {l : List Str} {k : Str} {u : Tok} {Q : Bool → Shared → Prop} (ho : s.heap.get? a = some (sObj T D)) (F : TxOk P w D l) (hk : k ∈ l) (hb : l.length < scanBound) (h : Q false s) : wpAny (model P w) A (setAddHashed a (.str k u) (hashStr w k)) Q E s := by
  obtain ⟨es, ep, t⟩ := D
  have hsz : es.size = l.length := F.sz
  obtain ⟨e, he, pe⟩ := (F.mem k).mp hk
  unfold setAddHashed setAddHashedIn
  refine wpAny_holding (wpAny_bind (wpAny_setState_of ho (show (sObj T (es, ep, t)).data = .set es ep t from rfl) (show t.fits es.size = true from F.fit) ?_))
  dsimp only
  rw [byScan_of (knd := strKind P w) (by rfl) (by omega) (show ElemsOf (strKind P w) es.toList from F.el)]
  simp only [↓reduceIte]
  unfold setAddByScan
  refine wpAny_bind (wpAny_bind (wpAny_rule ?_))
  refine wpAny_bind (wpAny_setScan_of (knd := strKind P w) (k := k) (is_str k u) ho (show (sObj T (es, ep, t)).data = .set es ep t from rfl) (show t.fits es.size = true from F.fit) (show ElemsOf (strKind P w) es.toList from F.el) ?_)
  cases hf : List.findIdx? (fun e => (strKind P w).is k e.2) es.toList with
  | none =>
    have c := List.findIdx?_eq_none_iff.mp hf e he
    rw [pe] at c
    cases c
  | some j => exact wpAny_pure (wpAny_pure h)
/-- add, there or not -/
def stepD (w : World) (k : Str) (u : Tok) (l : List Str) (D : SD) : SD := if k ∈ l then D else addTx (hashStr w k) (.str k u) D
theorem step_ok {D : SD} {l : List Str} {k : Str} (u : Tok) (F : TxOk P w D l) (q : SideOk w D) : TxOk P w (stepD w k u l D) (if k ∈ l then l else k :: l) ∧ SideOk w (stepD w k u l D) := by
  unfold stepD
  by_cases c : k ∈ l
  · rw [if_pos c, if_pos c]; exact ⟨F, q⟩
  · rw [if_neg c, if_neg c]; exact ⟨add_ok u F, side_add _ _ q⟩
theorem step_x {a : Addr} {D : SD} {l : List Str} {k : Str} {u : Tok} {Q : Bool → Shared → Prop} (ho : s.heap.get? a = some (sObj "set" D)) (F : TxOk P w D l) (hb : l.length + 1 < scanBound)
    (h : ∀ b h', Heap.SameBut a s.heap h' → h'.get? a = some (sObj "set" (stepD w k u l D)) → Q b { s with heap := h' }) : wpAny (model P w) A (setAddHashed a (.str k u) (hashStr w k)) Q E s := by
  unfold stepD at h
  by_cases c : k ∈ l
  · rw [if_pos c] at h
    exact same_x ho F c (by omega) (h false s.heap (Heap.SameBut.refl _ _) ho)
  · rw [if_neg c] at h
    exact add_x ho F c hb (h true _ (Heap.SameBut.update _ _ _) (get_upd _ ho rfl))
/-- the loop of set(xs) -/
theorem strs_loop {R : Result → Shared → Prop} {I : Addr} {fp wr : List Addr} {G : Array GenState → Array GenState → Prop} {n : Nat} {Pv : Nat → Value → Prop} {St : Nat → Shared → Prop} (W : WalksS P w A.in1 I fp wr G n Pv St) (S : Addr) (hSf : S ∉ fp) (xs : List Str) (hn : n = xs.length)
    (hval : ∀ i v, Pv i v → ∃ t, v = .str (xs.getD i Str.empty) t) (hb : n + 1 < scanBound) : ∀ (k i : Nat) (s : Shared) (D : SD), n - i = k → i ≤ n → St i s → s.heap.get? S = some (sObj "set" D) → TxOk P w D (metS (xs.take i)) → SideOk w D →
      (∀ s' D', Moved (S :: wr) G s s' → s'.heap.get? S = some (sObj "set" D') → TxOk P w D' (metS xs) → SideOk w D' → R (.ok (.ret .none)) s') → codeAny (model P w) A (.builtin "set.update.loop" ⟨[.ref S, .ref I], []⟩) R s := by
  have hSw : S ∉ wr := fun h => hSf (W.sub _ h)
  have more : ∀ b ∈ wr, b ∈ S :: wr := fun b hb => List.mem_cons_of_mem _ hb
  intro k
  induction k with
  | zero =>
    intro i s D hk hi hst ho F q hR
    have ei : i = n := by omega
    subst ei
    rw [hn, List.take_length] at F
    refine codeAny_builtin PyProof.Rows.F.entry_set_update_loop ?_
    rw [Around.under_plainId PyProof.Rows.F.plain_set_update_loop _]
    show wpAny _ A.in1 (pyNext (Value.ref I) >>= _) _ _ s
    refine wpAny_bind (W.done s _ _ hst fun s' hm => ?_)
    show wpAny _ A.in1 (ret Value.none) _ _ s'
    exact wpAny_pure (hR s' D (hm.mono more) (hm.heap S _ hSw ho) F q)
  | succ k ih =>
    intro i s D hk hi hst ho F q hR
    have hlt : i < n := by omega
    refine codeAny_builtin PyProof.Rows.F.entry_set_update_loop ?_
    rw [Around.under_plainId PyProof.Rows.F.plain_set_update_loop _]
    show wpAny _ A.in1 (pyNext (Value.ref I) >>= _) _ _ s
    refine wpAny_bind (W.item i s _ _ hlt hst fun v s' hP hst' hm => ?_)
    obtain ⟨t, rfl⟩ := hval i v hP
    have ho' := hm.heap S _ hSw ho
    show wpAny _ A.in1 (holding [Value.str (xs.getD i Str.empty) t] (setAdd S (.str (xs.getD i Str.empty) t)) >>= fun _ => _) _ _ s'
    refine wpAny_bind (wpAny_holding ?_)
    unfold setAdd
    refine wpAny_holding (wpAny_bind ((strKind P w).pyHash (k := xs.getD i Str.empty) (is_str _ _) ?_))
    have hl : (metS (xs.take i)).length ≤ i := by
      have := fold_len (xs.take i) []
      rw [List.length_take, List.length_nil] at this
      exact Nat.le_trans this (by omega)
    have ok := step_ok (k := xs.getD i Str.empty) t F q
    refine step_x (s := { s' with toks := s'.toks + 1 }) (D := D) (l := metS (xs.take i)) (u := t) ho' F (by omega) fun b h' sb ho2 => ?_
    have et : xs.take (i + 1) = xs.take i ++ [xs.getD i Str.empty] := by
      rw [List.take_add_one, List.getD_eq_getElem?_getD, List.getElem?_eq_getElem (by omega)]
      rfl
    have F2 : TxOk P w (stepD w (xs.getD i Str.empty) t (metS (xs.take i)) D) (metS (xs.take (i + 1))) := by
      rw [et, met_snoc]
      exact ok.1
    refine wpAny_pure ⟨plainId_quiet PyProof.Rows.F.plain_set_update_loop _, ih (i + 1) _ _ (by omega) hlt (W.frame _ s' _ _ hst' (Nat.le_succ _) fun b hb o e => ?_) ho2 F2 ok.2 fun s2 D2 hm2 h2 F3 q3 => ?_⟩
    · exact (sb.2 b fun e => hSf (e ▸ hb)).trans e
    · refine hR s2 D2 (Moved.trans W.gtrans ((hm.mono more).then_heap (Nat.le_succ _) fun b o hb e => ?_) hm2) h2 F3 q3
      exact (sb.2 b fun e => hb (by rw [e]; exact List.mem_cons_self)).trans e
set_option maxHeartbeats 3200000 in
/-- set(a list of texts) -/
theorem call_set_strs {l : Addr} {items : Array Value} (xs : List Str) {Q : Value → Shared → Prop} (hh : A.handled = none) (hl : s.heap.IsList l items) (hit : StrsAre items.toList xs) (hb : xs.length + 1 < scanBound)
    (h : ∀ (h' : Heap) (tk : Nat) D, h'.get? s.heap.objs.size = some (sObj "set" D) → TxOk P w D (metS xs) → SideOk w D → (∀ b o, s.heap.get? b = some o → h'.get? b = some o) → Q (.ref s.heap.objs.size) { s with heap := h', toks := tk }) :
    wpAny (model P w) A (call (.type "set") [.ref l]) Q E s := by
  have hisz : items.size = xs.length := by rw [← Array.length_toList, hit.length]
  obtain ⟨c, tl, hmro⟩ := PySem.F.called_set.mro
  have hmade := PySem.F.called_set.made
  have hsub := PySem.F.called_set.sub
  refine wpAny_call (codeAny_of_tree ?_)
  show wpAny _ _ (callAny (Value.type "set") _) _ _ _
  refine wpAny_pure ⟨Code.quiet_builtin _ (by decide +kernel), codeAny_builtin PySem.F.entry_type_call ?_⟩
  rw [Around.under_plain (weight_type_call_type "set" [.ref l] []) rfl]
  have h1 := PySem.F.called_set.notType
  have h2 := PySem.F.called_set.canCreate
  have hct := PySem.F.typeCall_set_1 (.ref l)
  repeat (any_goals (first | assumption | wp_step))
  refine codeAny_mono (code_set_led1 (.ref l) (E := E) (Q₁ := fun obj s₁ => obj = .ref s.heap.objs.size ∧ s₁ = { s with heap := s.heap.push { cls := .type "set", dict := none, data := .set #[] 0 (.fresh 0 0 (!w.params.followText "set-order")) } }) ⟨rfl, rfl⟩) fun r s₁ hr => ?_
  cases r with
  | error e => exact hr
  | ok fl =>
    cases fl with
    | next => exact hr.elim
    | brk => exact hr.elim
    | cont => exact hr.elim
    | ret obj =>
      obtain ⟨rfl, rfl⟩ := hr
      have hS : (s.heap.push { cls := .type "set", dict := none, data := .set #[] 0 (.fresh 0 0 (!w.params.followText "set-order")) }).get? s.heap.objs.size = some { cls := .type "set", dict := none, data := .set #[] 0 (.fresh 0 0 (!w.params.followText "set-order")) } := Heap.get?_push_size _ rfl
      have hT : Shared.TypeIs { s with heap := s.heap.push { cls := .type "set", dict := none, data := .set #[] 0 (.fresh 0 0 (!w.params.followText "set-order")) } } (.ref s.heap.objs.size) "set" := ⟨_, hS, rfl⟩
      have hli := PySem.F.called_set.init.lookup
      have hbi := PySem.F.called_set.init.bind (.ref s.heap.objs.size)
      repeat (any_goals (first | assumption | wp_step))
      refine codeAny_mono (codeAny_call_builtin (R := wants (fun r s₂ => r = .none ∧ ∃ h' tk D, s₂ = { s with heap := h', toks := tk } ∧ h'.get? s.heap.objs.size = some (sObj "set" D) ∧ TxOk P w D (metS xs) ∧ SideOk w D ∧ (∀ b o, s.heap.get? b = some o → h'.get? b = some o)) E) PySem.F.called_set.init.plain PySem.F.entry_set_init (check_set_init_1 hT ?_)) fun r₂ s₂ hr₂ => ?_
      · obtain ⟨⟨oc, od, odat, osl⟩, hol, hcl, nl, hdl⟩ := id hl
        simp only at hcl hdl
        subst hcl
        subst hdl
        have hol' : (s.heap.push { cls := .type "set", dict := none, data := .set #[] 0 (.fresh 0 0 (!w.params.followText "set-order")) }).get? l = some { cls := .type "list", dict := od, data := .seq items nl, slots := osl } := Heap.get?_push_of_some _ hol
        have hsls := PySem.F.sub_list_set
        have hslf := PySem.F.sub_list_frozenset
        have hne : (Value.type "list" == Value.type "dict") = false := by decide
        have hl1 : (s.heap.push { cls := .type "set", dict := none, data := .set #[] 0 (.fresh 0 0 (!w.params.followText "set-order")) }).IsList l items := ⟨_, hol', rfl, nl, rfl⟩
        unfold Builtin.«set.__init__» noKeywords Builtin.Frozenset.updateFrom
        generalize hPI : pyIter = PI
        wp_walk
        subst hPI
        refine wpAny_pyIter_list hl1 (wpAny_bind (wpAny_runValue ?_))
        have hlS : l < s.heap.objs.size := Heap.lt_size hol
        have hneI : l ≠ (s.heap.push { cls := .type "set", dict := none, data := .set #[] 0 (.fresh 0 0 (!w.params.followText "set-order")) }).objs.size := by rw [Heap.size_push]; exact Nat.ne_of_lt (Nat.lt_succ_of_lt hlS)
        have hSf : s.heap.objs.size ∉ [(s.heap.push { cls := .type "set", dict := none, data := .set #[] 0 (.fresh 0 0 (!w.params.followText "set-order")) }).objs.size, l] := by
          rw [Heap.size_push]
          simp only [List.mem_cons, List.not_mem_nil, or_false, not_or]
          exact And.intro (Nat.ne_of_lt (Nat.lt_succ_self _)) (Nat.ne_of_gt hlS)
        have hval : ∀ (i : Nat) (v : Value), items[i]? = some v → ∃ t, v = .str (xs.getD i Str.empty) t := fun i v hv => by
          have e : items.toList[i]? = some v := by rw [Array.getElem?_toList]; exact hv
          have gen : ∀ {us : List Value} {zs : List Str}, StrsAre us zs → ∀ (i : Nat) (v : Value), us[i]? = some v → ∃ t, v = .str (zs.getD i Str.empty) t := by
            intro us zs hz
            induction hz with
            | nil => intro i v h; simp at h
            | cons y k hz ih =>
              intro i v h
              cases i with
              | zero => exact ⟨k, by simpa using h.symm⟩
              | succ i => exact ih i v (by simpa using h)
          exact gen hit i v e
        refine strs_loop ((Walks.list (show A.in1.in1.in1.handled = none by simp [hh]) _ l hneI items).toS) s.heap.objs.size hSf xs hisz hval (by omega) (items.size - 0) 0 _ (#[], 0, .fresh 0 0 (!w.params.followText "set-order")) (by omega) (Nat.zero_le _) ⟨⟨_, Heap.get?_push_size _ rfl, rfl, rfl⟩, (hl1.push _)⟩ (Heap.get?_push_of_some _ hS) (TxOk.nil (by rfl)) ⟨List.Pairwise.nil, ?_⟩ ?_
        · show _ ∨ (!w.params.followText "set-order") = true
          cases w.params.followText "set-order"
          · exact .inr rfl
          · exact .inl rfl
        · intro s' D hm hS' F q
          obtain ⟨h', g2, d', tk', os'⟩ := s'
          have eg : g2 = s.gens := hm.gens
          have ed : d' = s.drawn := hm.drawn
          have eo : os' = s.os := hm.os
          subst eg ed eo
          show wpAny _ _ _ _ _ _
          refine wpAny_pure ?_
          show wpAny _ _ (ret Value.none) _ _ _
          refine wpAny_pure ⟨rfl, h', tk', D, rfl, hS', F, q, fun b o e => ?_⟩
          have hb' := Heap.lt_size e
          refine hm.heap b o ?_ (Heap.get?_push_of_some _ (Heap.get?_push_of_some _ e))
          rw [Heap.size_push]
          simp only [List.mem_cons, List.not_mem_nil, or_false, not_or]
          exact And.intro (Nat.ne_of_lt hb') (Nat.ne_of_lt (Nat.lt_succ_of_lt hb'))
      · cases r₂ with
        | error e => exact hr₂
        | ok fl₂ =>
          cases fl₂ with
          | next => exact hr₂.elim
          | brk => exact hr₂.elim
          | cont => exact hr₂.elim
          | ret r =>
            obtain ⟨rfl, h', tk, D, rfl, hS', F, q, hk'⟩ := hr₂
            repeat (any_goals (first | assumption | wp_step))
            exact h _ _ D hS' F q hk'
end
end Ov
/-! text OvSet2 -/
set_option Elab.async false
set_option linter.all false
set_option maxRecDepth 100000
namespace Ov
open PySem PySem.Spec PyProof.Rows L2 Froz
/-- the set of texts at a -/
def SetSO (P : Program) (w : World) (a : Addr) (l : List Str) : HO := .ext fun h => ∃ D, h.get? a = some (sObj "set" D) ∧ TxOk P w D l ∧ SideOk w D
section
variable {X : Cx}
theorem setSO_new {P : Program} {w : World} {H : Hp} {h : Heap} {a : Addr} {l : List Str} {D : SD} (ho : h.get? a = some (sObj "set" D)) (F : TxOk P w D l) (q : SideOk w D) : ObjOk P w H h a (SetSO P w a l) :=
  ⟨⟨D, ho, F, q⟩, ⟨_, ho⟩, fun h1 h2 p k => let ⟨D, a, b, c⟩ := p; ⟨D, k _ a, b, c⟩⟩
theorem setSO_get {pins : List (Addr × Obj)} {σ : L2.St} {H : Hp} {s : Shared} {a : Addr} {l : List Str} (I : Inv X pins σ H s) (ha : H a = some (SetSO X.prog X.w a l)) : ∃ D, s.heap.get? a = some (sObj "set" D) ∧ TxOk X.prog X.w D l ∧ SideOk X.w D := (I.hok a _ ha).1
theorem call_setS (hc : X.calm = true) : CallR X (.type "set") (fun vs H Q => ∃ a xs, vs = [V.ref a] ∧ SqL X.K H a (xs.map V.str) ∧ xs.length ≤ 4000 ∧ ∀ p, H p = none → Q (.ref p) (upd H p (SetSO X.prog X.w p (metS xs)))) := by
  intro pins s σ H vs us Q I r h
  obtain ⟨a, xs, rfl, hq, hl, q⟩ := h
  rw [Vals.ref1 r]
  obtain ⟨its, rv, pl, _⟩ := I.list hq
  refine call_set_strs xs (I.ok.hd hc) pl.isList (by simpa using rv.strs) (by unfold scanBound; omega) fun h' tk D ho F sd k => ?_
  exact ⟨.ref s.heap.objs.size, upd H s.heap.objs.size (SetSO X.prog X.w s.heap.objs.size (metS xs)), I.laid (t' := tk) k (Nat.le_refl _) (setSO_new ho F sd), rfl, q _ (I.hok.fresh (Nat.le_refl _))⟩
theorem call_lenSS : CallR X (.builtin "len") (fun vs H Q => ∃ a l, vs = [V.ref a] ∧ H a = some (SetSO X.prog X.w a l) ∧ l.length ≤ 4000 ∧ Q (.int (l.length : Nat)) H) := by
  intro pins s σ H vs us Q I r h
  obtain ⟨a, l, rfl, ha, hl, q⟩ := h
  rw [Vals.ref1 r]
  obtain ⟨D, ho, F, sd⟩ := setSO_get I ha
  have hsz := F.sz
  exact call_len_set ho ⟨rfl, rfl, rfl⟩ rfl F.fit (by rw [hsz]; omega) ⟨.int l.length, H, I.tok _, ⟨_, by rw [hsz]⟩, q⟩
theorem strs_some : ∀ {us : List Value}, (∀ u ∈ us, ∃ k tk, u = Value.str k tk) → ∃ ks : List Str, StrsAre us ks
  | [], _ => ⟨[], .nil⟩
  | u :: us, h => by
    obtain ⟨ks, r⟩ := strs_some (us := us) fun x hx => h x (List.mem_cons_of_mem _ hx)
    obtain ⟨k, tk, rfl⟩ := h u List.mem_cons_self
    exact ⟨k :: ks, .cons k tk r⟩
theorem cr_sortedSS (hc : X.calm = true) : CallR X (.builtin "sorted") (fun vs H Q => ∃ a l, vs = [V.ref a] ∧ H a = some (SetSO X.prog X.w a l) ∧ l.length < 64 ∧ ∀ (ys : List Str) (p : Addr), ys.length = l.length → H p = none → Q (.ref p) (upd H p (.lst (ys.map V.str)))) := by
  intro pins s σ H vs us Q I r h
  obtain ⟨a, l, rfl, ha, h64, q⟩ := h
  rw [Vals.ref1 r]
  obtain ⟨⟨es, ep, t⟩, ho, F, sd⟩ := setSO_get I ha
  have hsz : es.size = l.length := F.sz
  refine Calls.call_function_entry kind_sorted plain_sorted entry_sorted (args_sorted1 _) ?_
  unfold Builtin.«sorted»
  refine wpAny_bind (m := checkCount "sorted" 1 1 _) (wpAny_pure ?_)
  refine wpAny_bind (collect_set (A := X.A.in1) (I.ok.hd hc) ⟨_, ho, rfl, rfl⟩ F.fit (show es.size < scanBound by unfold scanBound; omega) sd.1 sd.2 fun s1 vs k1 hz g1 o1 pm => ?_)
  have hvl : vs.length = l.length := by rw [pm.length_eq, List.length_map, Array.length_toList]; exact hsz
  obtain ⟨ks, hS⟩ : ∃ ks : List Str, StrsAre vs ks := strs_some fun v hv => by
    obtain ⟨e, he, rfl⟩ := List.mem_map.mp (pm.mem_iff.mp hv)
    obtain ⟨⟨k, hk, _⟩, _⟩ := F.el e he
    obtain ⟨tk, ev⟩ := Value.isStrOf_shape (x := k) (v := e.2) hk
    exact ⟨k, tk, ev⟩
  refine wpAny_bind (wpAny_newList ?_ (by rw [hvl, sizeLine_eq]; omega))
  have hoL : (s1.heap.push (seqObj "list" vs.toArray 0)).get? s1.heap.objs.size = some (seqObj "list" vs.toArray 0) := Heap.get?_push_size _ rfl
  refine wpAny_bind (wpAny_holding (wpAny_call_entry PyProof.Rows.slot_list_sort ⟨_, hoL, rfl⟩ PyProof.Rows.entry_list_sort
    (list_sort_treeK strKind_oneLt (s := { s1 with heap := s1.heap.push (seqObj "list" vs.toArray 0) }) hoL hS.keysOf (fun v₁ v₂ rest e => keyKind_strs (by rw [← e]; exact hS)) (by rw [hvl]; exact h64) fun st' hp hs => ⟨_, rfl, ?_⟩) (PyProof.Rows.args_list_sort _)))
  obtain ⟨ys, b1, b2, b3⟩ := sorted_out_str hS hp hs
  obtain ⟨e', he'⟩ := PyProof.Rows.sortedHeap_at (vs := vs) (out := (arrOf st').map (·.2)) hoL
  have hys : ys.length = l.length := by rw [b2.length_eq, ← hS.length, hvl]
  have hlen : (ys.map V.str).length ≤ sizeLine := by rw [List.length_map, hys]; exact Nat.le_trans (Nat.le_of_lt h64) (by decide)
  have hn : H s1.heap.objs.size = none := I.hok.fresh hz
  have old : ∀ b u, s.heap.get? b = some u → (PyProof.Rows.sortedHeap (s1.heap.push (seqObj "list" vs.toArray 0)) s1.heap.objs.size vs ((arrOf st').map (·.2))).get? b = some u := fun b u e => by
    have e1 := k1 b u e
    have hlt := Heap.lt_size e1
    rw [PyProof.Rows.sortedHeap_old (Nat.ne_of_lt hlt) (by rw [size_push']; exact Nat.lt_succ_of_lt hlt)]
    exact Heap.get?_push_of_some _ e1
  have J : Inv X pins σ (upd H s1.heap.objs.size (.lst (ys.map V.str))) { s with heap := PyProof.Rows.sortedHeap (s1.heap.push (seqObj "list" vs.toArray 0)) s1.heap.objs.size vs ((arrOf st').map (·.2)), gens := s1.gens, drawn := s1.drawn, toks := s1.toks } :=
    I.call (ch := []) (Un.laid old hz hn) (I.hok.laid old hz ⟨hlen, ((arrOf st').map (·.2)).toList, e', vals_of_strs b1, by rw [Array.toArray_toList]; exact he'⟩) (by rw [g1]; exact I.bare) (fun _ z => nomatch z)
  have e : ({ s1 with heap := PyProof.Rows.sortedHeap (s1.heap.push (seqObj "list" vs.toArray 0)) s1.heap.objs.size vs ((arrOf st').map (·.2)) } : Shared) = { s with heap := PyProof.Rows.sortedHeap (s1.heap.push (seqObj "list" vs.toArray 0)) s1.heap.objs.size vs ((arrOf st').map (·.2)), gens := s1.gens, drawn := s1.drawn, toks := s1.toks } := by
    cases s1
    cases s
    cases o1
    rfl
  refine wpAny_pure ⟨_, rfl, ?_⟩
  show EP X pins σ Q _ { s1 with heap := PyProof.Rows.sortedHeap (s1.heap.push (seqObj "list" vs.toArray 0)) s1.heap.objs.size vs ((arrOf st').map (·.2)) }
  rw [e]
  exact ⟨.ref s1.heap.objs.size, _, J, rfl, q ys _ hys hn⟩
end
end Ov
/-! text OvP8 -/
set_option Elab.async false
set_option linter.all false
set_option maxRecDepth 100000
namespace Ov
open PySem PySem.Spec PyProof.Rows L2
open Rows TL
local macro_rules | `(tactic| walk_at "hp") => `(tactic| first
  | assumption
  | exact upd_same
  | (refine Evl.Ex.new (by assumption) _ _ ?_; walk_at "hp")
  | (refine (by assumption : Evl.Ex _ _) _ _ ?_; walk_at "hp"))
local macro_rules | `(tactic| walk_at "sq") => `(tactic| first
  | assumption
  | exact SqL.of (by walk_at "hp")
  | exact SqT.of (by walk_at "hp")
  | (refine Evl.ex_l (by assumption) ?_; walk_at "sq")
  | (refine Evl.ex_t (by assumption) ?_; walk_at "sq")
  | (refine Evl.ex_l (Evl.Ex.new (by assumption)) ?_; walk_at "sq")
  | (refine Evl.ex_t (Evl.Ex.new (by assumption)) ?_; walk_at "sq"))
local macro_rules | `(tactic| walk_at "ex") => `(tactic| first
  | assumption
  | exact Evl.Ex.refl _
  | (refine Evl.Ex.trans ?_ (Evl.Ex.new (by assumption)); walk_at "ex")
  | (refine Evl.Ex.trans ?_ (by assumption); walk_at "ex"))
local macro_rules | `(tactic| walk_at "s1") => `(tactic| first
  | refine ⟨_, rfl, ?_⟩
  | refine ⟨rfl, ?_⟩
  | refine ⟨_, _, rfl, rfl, ?_⟩
  | refine ⟨_, _, _, rfl, rfl, ?_⟩)
local macro_rules | `(tactic| walk_at "st") => `(tactic| repeat walk_at "s1")
local macro_rules | `(tactic| walk_at "v1") => `(tactic| first
  | ((with_reducible refine' s_var ?vch ?_); (case vch => exact rfl))
  | with_reducible refine' s_c ?_
  | with_reducible refine' s_seq ?_
  | with_reducible refine' s_asg ?_
  | with_reducible refine' s_name ?_
  | with_reducible refine' s_cons ?_
  | with_reducible refine' s_nil ?_
  | with_reducible refine' s_op ?_
  | with_reducible refine' s_rI0 ?_
  | with_reducible refine' s_ret ?_
  | with_reducible refine' s_test ?_
  | with_reducible refine' s_ifS ?_
  | with_reducible refine' s_call ?_
  | with_reducible refine' s_cb ?_
  | ((with_reducible refine' s_rEq ?vch ?_); (case vch => exact rfl))
  | ((with_reducible refine' s_rNe ?vch ?_); (case vch => exact rfl))
  | ((with_reducible refine' s_ixT ?vch ?vca ?_); (case vch => walk_at "sq"); (case vca => first | exact rfl | exact at_nat 0 rfl | exact at_nat 1 rfl | exact at_nat 2 rfl | exact at_nat 3 rfl | exact at_nat 4 rfl))
  | ((with_reducible refine' s_ixL ?vch ?vca ?_); (case vch => walk_at "sq"); (case vca => first | exact rfl | exact at_nat 0 rfl | exact at_nat 1 rfl | exact at_nat 2 rfl | exact at_nat 3 rfl | exact at_nat 4 rfl))
  | with_reducible refine iteT' ?_
  | with_reducible refine iteF' ?_
  | with_reducible refine' ex_bl ?_
  | with_reducible refine' ex_int ?_
  | with_reducible refine' ex_str ?_
  | with_reducible refine' ex_int1 ?_
  | with_reducible refine' ex_str1 ?_
  | with_reducible refine' ex_int2 ?_
  | with_reducible refine' ex_pair ?_
  | with_reducible refine' s_un ?_
  | with_reducible refine' s_B ?_
  | with_reducible refine' s_andV ?_
  | with_reducible refine' s_orV ?_
  | with_reducible refine' s_notV ?_
  | with_reducible refine' s_and ?_
  | with_reducible refine' s_or ?_
  | with_reducible refine' s_not ?_
  | with_reducible refine' s_if ?_
  | with_reducible refine' s_chain ?_
  | with_reducible refine' s_next ?_
  | with_reducible refine' s_break ?_
  | with_reducible refine' s_cont ?_
  | with_reducible refine' s_drop ?_
  | with_reducible refine' s_retN ?_
  | with_reducible refine' s_par ?_
  | ((with_reducible refine' s_aug ?vch ?_); (case vch => exact rfl))
  | with_reducible refine' s_ip ?_
  | with_reducible refine' s_gcons ?_
  | with_reducible refine' s_gnil ?_
  | ((with_reducible refine' s_gtup ?vch ?vca ?_); (case vch => walk_at "sq"); (case vca => exact rfl))
  | with_reducible refine' s_tup ?_
  | with_reducible refine' s_lst ?_
  | with_reducible refine' s_sl ?_
  | with_reducible refine' s_part ?_
  | with_reducible refine' s_nopart ?_
  | with_reducible refine' s_fld ?_
  | with_reducible refine' s_make ?_
  | with_reducible refine' s_meth ?_
  | with_reducible refine' s_prop ?_
  | with_reducible refine' s_makeK ?_
  | with_reducible refine' s_gsub ?_
  | ((with_reducible refine' s_setL ?vch ?vca ?_); (case vch => walk_at "hp"); (case vca => exact rfl))
  | with_reducible refine' s_par3 ?_
  | with_reducible refine' ex_three ?_
  | with_reducible refine' s_star ?_
  | with_reducible refine' s_dnewK ?_
  | with_reducible refine' s_dsetd ?_
  | with_reducible refine' s_methR ?_
  | with_reducible refine' s_fldaug ?_
  | with_reducible refine' s_dictzip ?_
  | with_reducible refine' s_sfld ?_
  | with_reducible refine' s_bm ?_
  | with_reducible refine' s_bm0 ?_
  | with_reducible refine' s_m1 ?_
  | with_reducible refine' s_dget ?_
  | with_reducible refine' s_lc ?_
  | with_reducible refine' s_for ?_
  | with_reducible refine' s_iList ?_
  | with_reducible refine' s_iTup ?_
  | with_reducible refine' s_iStr ?_
  | with_reducible refine' s_iRng1 ?_
  | with_reducible refine' s_iRng2 ?_
  | with_reducible refine' s_yes ?_
  | with_reducible refine' s_rU ?_
  | ((with_reducible refine' s_isiP ?vch ?_); (case vch => exact rfl))
  | ((with_reducible refine' ex_lenL ?vch ?_); (case vch => walk_at "sq"))
  | ((with_reducible refine' ex_lenT ?vch ?_); (case vch => walk_at "sq"))
  | ((with_reducible refine' ex_tupL ?vch ?_); (case vch => walk_at "sq"))
  | ((with_reducible refine' ex_lstT ?vch ?_); (case vch => walk_at "sq"))
  | ((with_reducible refine' ex_srcL ?vch ?_); (case vch => walk_at "sq"))
  | ((with_reducible refine' ex_srcT ?vch ?_); (case vch => walk_at "sq"))
  | ((with_reducible refine' s_mk ?vch ?_); (case vch => exact small_le (Nat.le_of_ble_eq_true rfl)))
  | with_reducible refine' ⟨_, _, rfl, rfl, ?_⟩
  | with_reducible refine' ⟨⟨_, rfl⟩, ?_⟩
  | with_reducible refine' ⟨rfl, ?_⟩
  | ((with_reducible refine' iteT_of ?vch ?_); (case vch => exact rfl))
  | ((with_reducible refine' iteF_of ?vch ?_); (case vch => exact rfl)))
local macro_rules | `(tactic| walk_at "vc") => `(tactic| repeat walk_at "v1")
/-- a comprehension over a list of pairs that stands still -/
theorem lc_ex2 {K : PySem.W.Frag} {J : It} {n : Nat} {G : Hp → Prop} {Y : Nat → Hp → V → Hp → Prop} (w : Walk J n G Y) {j k : Nat} {tt : TT} {te : TE} {vs : List Nat} {σ : L2.St} {H1 : Hp} {Qf : VK} (src : Nat → Addr) (one two : Nat → V) (Pr : Nat → V → Hp → Prop) (mono : Mono Pr)
    (hY : ∀ i H x H', i < n → Y i H x H' → H' = H ∧ x = .ref (src i)) (hG : ∀ H, Ex H1 H → G H) (hn : n ≤ 100000) (hs : ∀ i H, i < n → Ex H1 H → SqT K H (src i) [one i, two i]) (hw : ∀ x y, wipe (((wipe σ vs).set j (some x)).set k (some y)) vs = wipe σ vs)
    (ht : ∀ i H, i < n → Ex H1 H → ∀ Q : Bool → Hp → Prop, (∀ H', Ex H H' → Q true H') → tt (((wipe σ vs).set j (some (one i))).set k (some (two i))) H Q)
    (he : ∀ i H, i < n → Ex H1 H → ∀ Q : VK, (∀ v H', Ex H H' → Pr i v (nw H H') → Q v H') → te (((wipe σ vs).set j (some (one i))).set k (some (two i))) H Q)
    (hd : ∀ D ys H', H1 D = none → Ex H1 H' → H' D = some (.lst ys) → Made (fun _ => true) Pr n ys (nw H1 (hid [D] H')) → Qf (.ref D) H') :
    LcGo J (gTup K 2 (gCons (gName j) (gCons (gName k) gNil))) tt te vs σ H1 Qf := by
  intro D hD
  refine lc_it w (fun i H => i ≤ n ∧ Ex H1 H ∧ ∃ ys, H D = some (.lst ys) ∧ Made (fun _ => true) Pr i ys (nw H1 (hid [D] H))) ?_ ?_ ?_ ?_
  · exact ⟨Nat.zero_le _, Evl.Ex.new hD, [], upd_same, rfl⟩
  · exact fun i H _ h => hG H h.2.1
  · rintro i x H H' hi ⟨_, e, ys, hys, hm⟩ hy
    obtain ⟨rfl, rfl⟩ := hY i H x H' hi hy
    refine s_gtup (hs i _ hi e) rfl (s_gcons (s_name (s_gcons (s_name (s_gnil ⟨hw _ _, ht i _ hi e _ fun H3 e3 => ?_⟩)))))
    rw [if_pos rfl]
    refine he i H3 hi (Evl.Ex.trans e e3) _ fun v H4 e4 p => ?_
    have ys4 := e4 _ _ (e3 _ _ hys)
    have l := Made.len hm
    refine ⟨ys, ys4, by rw [sizeLine_eq]; omega, hi, ex_upd (Evl.Ex.trans e (Evl.Ex.trans e3 e4)) hD, _, upd_same, ?_⟩
    simp only [Made]
    rw [if_pos trivial, hid_upd (by simp)]
    refine ⟨ys, v, rfl, Made.mono mono (nw_mono (hid_mono (Evl.Ex.trans e3 e4))) hm, mono _ _ _ _ (nw_call (Evl.Ex.trans e e3) (fun l m => ?_) ex_nw) p⟩
    have em : l = D := by simpa using m
    rw [em]
    exact ⟨_, e3 _ _ hys⟩
  · rintro H ⟨_, e, ys, hys, hm⟩
    exact hd D ys H hD e hys hm
/-- what a comprehension made of one thing each -/
theorem made_refs {α : Type} {xs : List α} {R : α → Addr → Hp → Prop} {H : Hp} {ys : List V} (h : Made (fun _ => true) (fun i v H => ∀ q, xs[i]? = some q → ∃ a, v = .ref a ∧ R q a H) xs.length ys H) : ∃ as : List Addr, ys = as.map V.ref ∧ as.length = xs.length ∧ ∀ (i : Nat) (a : Addr) (q : α), as[i]? = some a → xs[i]? = some q → R q a H := by
  obtain ⟨hl, hq⟩ := Made.all h
  have hr : ∀ y ∈ ys, ∃ a, y = V.ref a := fun y hy => by
    obtain ⟨i, hi⟩ := List.mem_iff_getElem?.mp hy
    have hlt : i < xs.length := by rw [← hl]; exact (List.getElem?_eq_some_iff.mp hi).1
    obtain ⟨a, e, _⟩ := hq i y hi _ (List.getElem?_eq_getElem hlt)
    exact ⟨a, e⟩
  have : ∃ as : List Addr, ys = as.map V.ref := by
    clear hq hl h
    induction ys with
    | nil => exact ⟨[], rfl⟩
    | cons y ys ih =>
      obtain ⟨as, e⟩ := ih fun z hz => hr z (List.mem_cons_of_mem _ hz)
      obtain ⟨a, rfl⟩ := hr y List.mem_cons_self
      exact ⟨a :: as, by rw [e]; rfl⟩
  obtain ⟨as, rfl⟩ := this
  rw [List.length_map] at hl
  refine ⟨as, rfl, hl, fun i a q h1 h2 => ?_⟩
  obtain ⟨b, e, hb⟩ := hq i (.ref a) (by rw [List.getElem?_map, h1]; rfl) q h2
  cases e
  exact hb
theorem Made.each {flag : Nat → Bool} {Pr : Nat → V → Hp → Prop} {H : Hp} : ∀ {n : Nat} {ys : List V}, Made flag Pr n ys H → ∀ y ∈ ys, ∃ i, Pr i y H
  | 0, ys, h, y, hy => by
    have e : ys = [] := h
    rw [e] at hy
    cases hy
  | n + 1, ys, h, y, hy => by
    simp only [Made] at h
    by_cases c : flag n = true
    · rw [if_pos c] at h
      obtain ⟨ys0, y0, rfl, b, d⟩ := h
      rcases List.mem_append.mp hy with hy | hy
      · exact Made.each b y hy
      · rw [List.mem_singleton.mp hy]
        exact ⟨n, d⟩
    · rw [if_neg c] at h
      exact Made.each h y hy
theorem range_get {α β : Type} (f : α → β) (d : α) (l : List α) : (List.range l.length).map (fun i => f (l.getD i d)) = l.map f := by
  apply List.ext_getElem
  · simp
  · intro i h1 h2
    simp only [List.length_map] at h2
    simp [h2]
theorem pls_ok {l : Ln} (h : LnOk l) : (pls l).length ≤ 4 ∧ ∀ z ∈ pls l, Spot z := by
  cases l with
  | work x f as =>
    obtain ⟨h1, ⟨c, c1, c2, _, c3⟩, h3⟩ := h
    refine ⟨by simp only [pls, List.length_cons]; omega, fun z hz => ?_⟩
    rcases List.mem_cons.mp hz with rfl | hz
    · exact h1
    · exact h3 z hz
  | load x a o => exact ⟨by simp [pls], fun z hz => by rw [List.mem_singleton.mp hz]; exact h.1⟩
  | store a o x => exact ⟨by simp [pls], fun z hz => by rw [List.mem_singleton.mp hz]; exact h.1⟩
  | copy x y =>
    refine ⟨by simp [pls], fun z hz => ?_⟩
    simp only [pls, List.mem_cons, List.not_mem_nil, or_false] at hz
    rcases hz with rfl | rfl
    · exact h.1
    · exact h.2
  | step n => exact ⟨by simp [pls], fun z hz => nomatch hz⟩
theorem met_small {xs : List Str} (h : ∀ z ∈ xs, Spot z) : (metS xs).length ≤ 52 := by
  refine nodup_le (metS xs) spotsL (fold_nodup xs [] List.nodup_nil) fun z hz => ?_
  rcases fold_mem xs [] z hz with q | q
  · cases q
  · exact h z q
/-- how many a function's letter takes -/
def wid (f : Str) : Int := match tl f with
  | [c] => ((1 + (122 - c) / 9 : Nat) : Int)
  | _ => 0
section
variable {P : Program} {w : World} {K : PySem.W.Frag} {mg : Str → Option Value} {base : Heap}
def spUnlike (K : PySem.W.Frag) : Sp := fun vs H Q _ => ∃ (a : Addr) (xs : List Str), vs = [.ref a] ∧ SqL K H a (xs.map V.str) ∧ xs.length ≤ 100 ∧ (metS xs).length = xs.length ∧ ∀ H', Ex H H' → Q (.bl true) H'
theorem sc_are_unlike : FnScope ["words"] ["words"] (defScope s_are_unlike) := ⟨rfl, rfl, rfl, by decide +kernel, rfl, by decide +kernel, by decide +kernel⟩
theorem D_are_unlike (Z : Zf K mg) : Df P w K mg base "are_unlike" (1) ["words"] (spUnlike K) := by
  refine def_ok Z 13 rfl (by decide +kernel) sc_are_unlike (fun _ _ _ _ _ _ us hl => match us, hl with | [_], _ => rfl) (fun vs H Q E h => ?_) (fun f cdv A outer s H vs Q E hr h => ⟨_, (pss_one (ps_ret (pe_cmpR op_eq (pe_callB call_lenSS (by rfl) (Z.free "len") (by decide +kernel) (pa_cons (pe_callTy (by exact call_setS rfl) (by rfl) (Z.free "set") (by decide +kernel) (pa_cons (pv 0) pa_nil)) pa_nil)) (pe_callB call_lenL (by rfl) (Z.free "len") (by decide +kernel) (pa_cons (pv 0) pa_nil)) (nomark _)))), ?_⟩)
  · obtain ⟨a, xs, rfl, _⟩ := h
    rfl
  · obtain ⟨a, xs, rfl, ha, hl, hm, k⟩ := h
    walk_at "vc"
    refine ⟨a, xs, rfl, ha, by omega, fun p hp => ?_⟩
    walk_at "vc"
    refine ⟨p, _, rfl, upd_same, by omega, ?_⟩
    walk_at "vc"
    refine ⟨a, _, rfl, Evl.ex_l (Evl.Ex.new hp) ha, ?_⟩
    rw [List.length_map, hm]
    walk_at "vc"
    rw [decide_eq_true rfl]
    exact k _ (Evl.Ex.new hp)
/-! ### parts_of_program -/
def takeW (q : Str × Str) : List Str := ["take", q.1, q.2]
def spParts : Sp := fun vs H Q _ => ∃ (tks : List (Str × Str)) (r : Rows) (oz : Option (List Str)), vs = [.str (textT (tks.map takeW ++ (wl r ++ oz.toList.map fun zs => (("out" : Str) :: zs))))] ∧ r ≠ .nil ∧ Shape r 3 ∧ AllLn LnOk r ∧ nl r ≤ 300 ∧ tks.length ≤ 4 ∧
  (∀ q ∈ tks, Spot q.1 ∧ (Spot q.2 ∨ q.2 = "x@1")) ∧ (metS (tks.map (·.1))).length = tks.length ∧ (∀ zs, oz = some zs → 1 ≤ zs.length ∧ zs.length ≤ 4 ∧ ∀ z ∈ zs, Spot z) ∧
  ∀ t b x y z ys H', Ex H H' → H' t = some (.tup [x, .ref b, y, z]) → H' b = some (.tup ys) → ItemsAt H' r ys → Q (.ref t) H'
theorem lineOk_take {q : Str × Str} (h : Spot q.1 ∧ (Spot q.2 ∨ q.2 = "x@1")) : LineOk (takeW q) := ⟨by simp [takeW], by simp [takeW], fun z hz => by
  simp only [takeW, List.mem_cons, List.not_mem_nil, or_false] at hz
  rcases hz with rfl | rfl | rfl
  · decide +kernel
  · exact h.1.facts.2.1
  · rcases h.2 with q | q
    · exact q.facts.2.1
    · rw [q]; decide +kernel⟩
theorem lineOk_out {zs : List Str} (h : zs.length ≤ 4 ∧ ∀ z ∈ zs, Spot z) : LineOk ("out" :: zs) := ⟨by simp, by rw [List.length_cons]; omega, fun z hz => by
  rcases List.mem_cons.mp hz with rfl | hz
  · decide +kernel
  · exact (h.2 z hz).facts.2.1⟩
theorem wl_heads : ∀ {r : Rows}, AllLn LnOk r → ∀ ws ∈ wl r, ∃ z t, ws = z :: t ∧ z ≠ ("out" : Str) ∧ z ≠ ("take" : Str)
  | .nil, _, ws, h => nomatch h
  | .line l r, ha, ws, h => by
    rcases List.mem_cons.mp h with rfl | h
    · have no : ∀ {z : Str}, Spot z → z ≠ ("out" : Str) ∧ z ≠ ("take" : Str) := fun q => ⟨fun e => q.facts.2.2 (by rw [e]; simp [marks]), fun e => q.facts.2.2 (by rw [e]; simp [marks])⟩
      have hl := ha.1
      cases l with
      | work x f as => exact ⟨_, _, rfl, no hl.1⟩
      | load x a o => exact ⟨_, _, rfl, no hl.1⟩
      | copy x y => exact ⟨_, _, rfl, no hl.1⟩
      | store a o x => exact ⟨_, _, rfl, by decide +kernel, by decide +kernel⟩
      | step n => exact ⟨_, _, rfl, by decide +kernel, by decide +kernel⟩
    · exact wl_heads ha.2 ws h
  | .iff b e one two r, ha, ws, h => by
    simp only [wl, List.mem_cons, List.mem_append] at h
    rcases h with rfl | h | h | rfl | h
    · exact ⟨_, _, rfl, by decide +kernel, by decide +kernel⟩
    · exact wl_heads ha.1 ws h
    · cases e with
      | false => simp at h
      | true =>
        rcases List.mem_cons.mp (by simpa using h) with rfl | h
        · exact ⟨_, _, rfl, by decide +kernel, by decide +kernel⟩
        · exact wl_heads ha.2.1 ws h
    · exact ⟨_, _, rfl, by decide +kernel, by decide +kernel⟩
    · exact wl_heads ha.2.2 ws h
  | .whl b body r, ha, ws, h => by
    simp only [wl, List.mem_cons, List.mem_append] at h
    rcases h with rfl | h | rfl | h
    · exact ⟨_, _, rfl, by decide +kernel, by decide +kernel⟩
    · exact wl_heads ha.1 ws h
    · exact ⟨_, _, rfl, by decide +kernel, by decide +kernel⟩
    · exact wl_heads ha.2 ws h
theorem wl_ne {r : Rows} (h : r ≠ .nil) : wl r ≠ [] := by
  cases r with
  | nil => exact absurd rfl h
  | line l r => simp [wl]
  | iff b e one two r => simp [wl]
  | whl b body r => simp [wl]
theorem WordsAt.last {H : Hp} {L : Addr} {ls : List (List Str)} {ws : List Str} (h : WordsAt H L (ls ++ [ws])) : ∃ (xs : List V) (a : Addr), H L = some (.lst (xs ++ [.ref a])) ∧ H a = some (.lst (ws.map V.str)) ∧ xs.length = ls.length ∧ ∀ H' L', Ex H H' → H' L' = some (.lst xs) → WordsAt H' L' ls := by
  obtain ⟨ps, h1, h2, h3⟩ := h
  rw [List.length_append, List.length_singleton] at h2
  have hne : ps ≠ [] := fun e => by rw [e] at h2; simp at h2
  have e := List.dropLast_concat_getLast hne
  have hl : ps.dropLast.length = ls.length := by rw [List.length_dropLast, h2]; omega
  refine ⟨ps.dropLast.map V.ref, ps.getLast hne, ?_, ?_, by rw [List.length_map, hl], fun H' L' ee h' => ⟨ps.dropLast, h', hl, fun i a ws' q1 q2 => ?_⟩⟩
  · rw [h1]
    conv => lhs; rw [← e]
    rw [List.map_append]
    rfl
  · refine h3 ls.length _ _ ?_ (by rw [List.getElem?_append_right (Nat.le_refl _), Nat.sub_self]; rfl)
    conv => lhs; rw [← e]
    rw [List.getElem?_append_right (by omega), hl, Nat.sub_self]
    rfl
  · have hi : i < ls.length := (List.getElem?_eq_some_iff.mp q2).1
    refine ee _ _ (h3 i a ws' ?_ (by rw [List.getElem?_append_left hi]; exact q2))
    rw [← e, List.getElem?_append_left (by omega)]
    exact q1
def WTk (tx : Str) (Lx o2 : Addr) (n : Nat) (Ha : Hp) (m : Nat) (σ : L2.St) (H' : Hp) : Prop := ∃ j : Nat, j ≤ n ∧ m = n - j ∧ σ = [some (.str tx), some (.ref Lx), some (.ref o2), some (.int (j : Int)), none, none, none, none, none, none, none, none, none] ∧ Ex Ha H'
theorem sc_parts_of_program : FnScope ["text", "lines", "outs", "many", "takes", "reader", "body", "places", "statements", "item", "words", "place", "value"] ["text"] (defScope s_parts_of_program) := ⟨rfl, rfl, rfl, by decide +kernel, rfl, by decide +kernel, by decide +kernel⟩
theorem D_parts_of_program (Z : Zf K mg) : Df P w K mg base "parts_of_program" (15) ["text"] spParts := by
  refine def_ok Z 27 rfl (by decide +kernel) sc_parts_of_program (fun _ _ _ _ _ _ us hl => match us, hl with | [_], _ => rfl) (fun vs H Q E h => ?_) (fun f cdv A outer s H vs Q E hr h => ⟨_, (pss_cons (ps_par3 (i := 1) (j := 2) (l := 3) (by rfl) sc_parts_of_program.nd rfl rfl rfl (by decide) (by decide) (by decide) rfl rfl rfl (pa_cons (pe_callD (D_words_of_lines Z) hr (by omega) rfl (pa_cons (pv 0) pa_nil)) (pa_cons (pe_lst pa_nil) (pa_cons pe_int pa_nil))) (by rfl))
      (pss_cons (ps_if (pt_cmpR op_gt (pe_callB call_lenL (by rfl) (Z.free "len") (by decide +kernel) (pa_cons (pv 1) pa_nil)) (pe_gint rfl (Z.int "MOST_LINES" 400)) (nomark _)) (pss_one (ps_ret pe_non)) pss_nil)
      (C8.pss_cut (ps_if (pt_cmpR op_eq (pe_ix ix_list (pe_ix ix_list (pv 1) (pe_un un_neg pe_int) (fun _ _ => rfl)) pe_int (fun _ _ => rfl)) pe_str (nomark _)) (pss_cons (ps_par (i := 2) (j := 1) (by rfl) sc_parts_of_program.nd rfl rfl (by decide) rfl rfl (pa_cons (pe_slice sl_list (pe_ix ix_list (pv 1) (pe_un un_neg pe_int) (fun _ _ => rfl)) (po_some pe_int) po_none) (pa_cons (pe_slice sl_list (pv 1) po_none (po_some (pe_un un_neg pe_int))) pa_nil)) (by rfl))
      (pss_one (ps_if (pt_not (pt_val (pe_callD (D_are_names Z) hr (by omega) rfl (pa_cons (pv 2) (pa_cons pe_int pa_nil))))) (pss_one (ps_ret pe_non)) pss_nil))) pss_nil)
      (C8.pss_cut (ps_while PassesOwn.never (PW.pt (pw_and (pt_cmpR op_lt (pv 3) (pe_callB call_lenL (by rfl) (Z.free "len") (by decide +kernel) (pa_cons (pv 1) pa_nil)) (nomark _)) (pw_and1 (pt_val (pe_callD (D_is_take Z) hr (by omega) rfl (pa_cons (pe_ix ix_list (pv 1) (pv 3) (fun _ _ => rfl)) pa_nil)))))) (pss_one (ps_aug (i := 3) sc_parts_of_program.nd rfl (by first | exact Or.inl rfl | exact Or.inr rfl) pe_int ip_add)))
      (pss_cons (ps_par (i := 4) (j := 5) (by rfl) sc_parts_of_program.nd rfl rfl (by decide) rfl rfl (pa_cons (pe_callTy call_tupL (by rfl) (Z.free "tuple") (by decide +kernel) (pa_cons (pe_lc (own := [("words", 10)]) (g := gName 10) (tt := tYes) rfl sc_parts_of_program.nd (pi_list (pe_slice sl_list (pv 1) po_none (po_some (pv 3)))) (blkOk_by (own := [("words", 10)]) (N := ["text", "lines", "outs", "many", "takes", "reader", "body", "places", "statements", "item", "words", "place", "value"]) (sc := defScope s_parts_of_program) (by decide +kernel)) (fun _ _ _ _ _ => (pgn 10 sc_parts_of_program.nd)) (fun _ _ _ _ _ => pts_nil) (fun _ _ _ _ _ => (pe_tup (pa_cons (pe_ix (ixLK (K := K) rfl) (pv 10) pe_int (fun _ _ => rfl)) (pa_cons (pe_ix (ixLK (K := K) rfl) (pv 10) pe_int (fun _ _ => rfl)) pa_nil))))) pa_nil)) (pa_cons (pe_makeD (D_Readeru_initu Z) (Z.mkr "Reader") (Z.glo "Reader") hr (by omega) rfl (pa_cons (pv 1) pa_nil)) pa_nil)) (by rfl))
      (pss_cons (ps_fld (pv 5) (pv 3) rfl)
      (pss_cons (ps_asg (pe_methD (D_lines Z 3) (Z.cls "Reader") (Z.meth "Reader" "lines_in") hr (by omega) (pv 5) (pa_cons pe_int pa_nil)) (pgn 6 sc_parts_of_program.nd))
      (pss_cons (ps_if (PW.pt (pw_or (pt_cmpR op_eq (pv 3) (pe_callB call_lenL (by rfl) (Z.free "len") (by decide +kernel) (pa_cons (pv 1) pa_nil)) (nomark _)) (pw_or (pt_cmpR op_isN (pv 6) pe_non (nomark _)) (pw_or1 (pt_cmpR op_lt (pe_fld (pv 5) rfl) (pe_callB call_lenL (by rfl) (Z.free "len") (by decide +kernel) (pa_cons (pv 1) pa_nil)) (nomark _)))))) (pss_one (ps_ret pe_non)) pss_nil)
      (pss_cons (ps_setLc (i := 7) (own := [("place", 11), ("value", 12)]) (g := gTup K 2 (gCons (gName 11) (gCons (gName 12) gNil))) (tt := tYes) rfl sc_parts_of_program.nd rfl rfl (sw_true rfl rfl rfl (by decide +kernel)) (pi_tup (pv 4)) (blkOk_by (own := [("place", 11), ("value", 12)]) (N := ["text", "lines", "outs", "many", "takes", "reader", "body", "places", "statements", "item", "words", "place", "value"]) (sc := defScope s_parts_of_program) (by decide +kernel)) (fun _ _ _ _ _ => (pg_tup (by rfl) (pgs_cons (pgn 11 sc_parts_of_program.nd) (pgs_cons (pgn 12 sc_parts_of_program.nd) pgs_nil)))) (fun _ _ _ _ _ => pts_nil) (fun _ _ _ _ _ => (pv 11)))
      (pss_cons (ps_if (pt_not (pt_val (pe_callD (D_are_unlike Z) hr (by omega) rfl (pa_cons (pv 7) pa_nil)))) (pss_one (ps_ret pe_non)) pss_nil)
      (pss_cons (ps_asg (pe_callD (D_stms Z 5) hr (by omega) rfl (pa_cons (pv 6) pa_nil)) (pgn 8 sc_parts_of_program.nd))
      (pss_cons (ps_if (pt_cmpR op_isN (pe_callD (D_widths_of Z) hr (by omega) rfl (pa_cons (pe_lc (own := [("item", 9)]) (g := gName 9)  rfl sc_parts_of_program.nd (pi_list (pv 8)) (blkOk_by (own := [("item", 9)]) (N := ["text", "lines", "outs", "many", "takes", "reader", "body", "places", "statements", "item", "words", "place", "value"]) (sc := defScope s_parts_of_program) (by decide +kernel)) (fun _ _ _ _ _ => (pgn 9 sc_parts_of_program.nd)) (fun _ _ _ _ _ => (pts_one (pt_cmpR op_eq (pe_ix (ixTK (K := K) rfl) (pv 9) pe_int (fun _ _ => rfl)) pe_str (nomark _)))) (fun _ _ _ _ _ => (pe_tup (pa_cons (pe_ix (ixTK (K := K) rfl) (pv 9) pe_int (fun _ _ => rfl)) (pa_cons (pe_callB (lenTK (K := K) rfl) (by rfl) (Z.free "len") (by decide +kernel) (pa_cons (pe_ix (ixTK (K := K) rfl) (pv 9) pe_int (fun _ _ => rfl)) pa_nil)) pa_nil))))) pa_nil)) pe_non (nomark _)) (pss_one (ps_ret pe_non)) pss_nil)
      (C8.pss_cut (ps_for PassesOwn.never rfl (pi_list (pv 8)) (pgn 9 sc_parts_of_program.nd)
      (pss_one (ps_expr (pe_bm PySem.F.plainAttrs_list PySem.F.slot_list_extend PySem.F.type_list_extend mt_extend (pv 7) (pa_cons (pe_callD (D_places_of Z) hr (by omega) rfl (pa_cons (pv 9) pa_nil)) pa_nil)))))
      (pss_cons (ps_asg (pe_callTy call_tupL (by rfl) (Z.free "tuple") (by decide +kernel) (pa_cons (pe_callB (by exact cr_sortedSS rfl) (by rfl) (Z.free "sorted") (by decide +kernel) (pa_cons (pe_callTy (by exact call_setS rfl) (by rfl) (Z.free "set") (by decide +kernel) (pa_cons (pe_op op_cat (pv 7) (pv 2)) pa_nil)) pa_nil)) pa_nil)) (pgn 7 sc_parts_of_program.nd))
      (pss_one (ps_ret (pe_ifExp (pt_cmpR op_gt (pe_callB call_lenT (by rfl) (Z.free "len") (by decide +kernel) (pa_cons (pv 7) pa_nil)) (pe_gint rfl (Z.int "MOST_PLACES" 80)) (nomark _)) pe_non (pe_tup (pa_cons (pv 4) (pa_cons (pv 6) (pa_cons (pe_callTy call_tupL (by rfl) (Z.free "tuple") (by decide +kernel) (pa_cons (pv 2) pa_nil)) (pa_cons (pv 7) pa_nil)))))))))))))))))))))), ?_⟩)
  · obtain ⟨tks, r, oz, rfl, _⟩ := h
    rfl
  · obtain ⟨tks, r, oz, rfl, hr0, hs, ha, hnl, ht4, htk, hmet, hoz, k⟩ := h
    have hwl := wl_ne hr0
    have hlines : ∀ ws ∈ tks.map takeW ++ (wl r ++ oz.toList.map fun zs => (("out" : Str) :: zs)), LineOk ws := fun ws hw => by
      rcases List.mem_append.mp hw with hw | hw
      · obtain ⟨q, hq, rfl⟩ := List.mem_map.mp hw
        exact lineOk_take (htk q hq)
      · rcases List.mem_append.mp hw with hw | hw
        · exact wl_ok ha hs ws hw
        · obtain ⟨zs, hz, rfl⟩ := List.mem_map.mp hw
          exact lineOk_out (hoz zs (by simpa using hz)).2
    have hlen : (tks.map takeW ++ (wl r ++ oz.toList.map fun zs => (("out" : Str) :: zs))).length ≤ 400 := by
      rw [List.length_append, List.length_append, List.length_map, List.length_map, wl_len]
      cases oz <;> simp <;> omega
    have hne : tks.map takeW ++ (wl r ++ oz.toList.map fun zs => (("out" : Str) :: zs)) ≠ [] := fun e => hwl (List.append_eq_nil_iff.mp (List.append_eq_nil_iff.mp e).2).1
    walk_at "vc"
    refine ⟨_, rfl, hne, hlen, hlines, fun L H1 e1 hL => ?_⟩
    obtain ⟨ps, hLp, hps, hpq⟩ := id hL
    walk_at "vc"
    intro o ho
    have hLs := SqL.of (K := K) hLp
    walk_at "vc"
    rw [List.length_map, hps]
    refine iteF_of (decide_eq_false (by omega)) ?_
    walk_at "vc"
    have eo := Evl.Ex.new (o := .lst []) ho
    have e2 := Evl.Ex.trans e1 eo
    refine ⟨fun σ' H' => ∃ (L2 o2 : Addr) (zs : List Str), σ' = [some (.str (textT (tks.map takeW ++ (wl r ++ oz.toList.map fun zs => (("out" : Str) :: zs))))), some (.ref L2), some (.ref o2), some (.int 0), none, none, none, none, none, none, none, none, none] ∧ Ex H H' ∧ WordsAt H' L2 (tks.map takeW ++ wl r) ∧ H' o2 = some (.lst (zs.map V.str)) ∧ zs.length ≤ 4 ∧ ∀ z ∈ zs, Spot z, ?_, ?_⟩
    · cases oz with
      | none =>
        have el : tks.map takeW ++ (wl r ++ (none : Option (List Str)).toList.map fun zs => (("out" : Str) :: zs)) = (tks.map takeW ++ (wl r).dropLast) ++ [(wl r).getLast hwl] := by
          rw [List.append_assoc, List.dropLast_concat_getLast hwl]
          simp
        have hL2 := hL
        rw [el] at hL2
        obtain ⟨xs, a, q1, q2, _, _⟩ := hL2.last
        obtain ⟨z, tz, ez, hz, _⟩ := wl_heads ha _ (List.getLast_mem hwl)
        rw [ez] at q2
        have q2' : SqL K (upd H1 o (.lst [])) a (.str z :: tz.map V.str) := SqL.of (eo _ _ q2)
        walk_at "vc"
        refine s_ixL (SqL.of (eo _ _ q1)) (at_last _ _) ?_
        walk_at "vc"
        refine iteF_of (dne hz) ?_
        walk_at "vc"
        refine ⟨L, o, [], rfl, e2, ?_, upd_same, by decide, fun z hz => nomatch hz⟩
        have e0 : tks.map takeW ++ (wl r ++ (none : Option (List Str)).toList.map fun zs => (("out" : Str) :: zs)) = tks.map takeW ++ wl r := by simp
        rw [e0] at hL
        exact hL.mono eo
      | some zs =>
        obtain ⟨z1, z4, hz⟩ := hoz zs rfl
        have el : tks.map takeW ++ (wl r ++ (some zs : Option (List Str)).toList.map fun zs => (("out" : Str) :: zs)) = (tks.map takeW ++ wl r) ++ [("out" : Str) :: zs] := by
          rw [← List.append_assoc]
          rfl
        have hL2 := hL
        rw [el] at hL2
        obtain ⟨xs, a, q1, q2, _, q4⟩ := hL2.last
        have q1' := SqL.of (K := K) (eo _ _ q1)
        have q2' : SqL K (upd H1 o (.lst [])) a (.str "out" :: zs.map V.str) := SqL.of (eo _ _ q2)
        walk_at "vc"
        refine s_ixL q1' (at_last _ _) ?_
        walk_at "vc"
        refine s_ixL q1' (at_last _ _) ?_
        walk_at "vc"
        refine s_slL q2' fun p3 hp3 => ?_
        rw [cut1]
        walk_at "vc"
        have e3 := Evl.Ex.new (o := .lst (zs.map V.str)) hp3
        refine s_slL (Evl.ex_l e3 q1') fun p4 hp4 => ?_
        rw [cut_but]
        have e4 := Evl.Ex.new (o := .lst xs) hp4
        walk_at "vc"
        have q5 := e4 _ _ (show upd (upd H1 o (.lst [])) p3 (.lst (zs.map V.str)) p3 = _ from upd_same)
        refine ⟨p3, zs, 4, rfl, SqL.of q5, by omega, by omega, by decide, fun z h => ⟨(hz z h).facts.1, (hz z h).len⟩, fun H5 e5 => ?_⟩
        walk_at "vc"
        refine ⟨p4, p3, zs, rfl, Evl.Ex.trans e2 (Evl.Ex.trans e3 (Evl.Ex.trans e4 e5)), ?_, e5 _ _ q5, z4, hz⟩
        exact q4 H5 p4 (Evl.Ex.trans eo (Evl.Ex.trans e3 (Evl.Ex.trans e4 e5))) (e5 _ _ upd_same)
    · rintro σ' Ha ⟨L2, o2, zs, rfl, ea, hL2, hzs, hz4, hzsp⟩
      obtain ⟨ps2, hLp2, hps2, hpq2⟩ := id hL2
      have hl2 : ps2.length = tks.length + nl r := by rw [hps2, List.length_append, List.length_map, wl_len]
      have hLs2 := SqL.of (K := K) hLp2
      have hnl1 : 1 ≤ nl r := by
        have := List.length_pos_iff.mpr hwl
        rw [wl_len] at this
        exact this
      clear hpq hps hLp hLs eo e2
      generalize textT (tks.map takeW ++ (wl r ++ oz.toList.map fun zs => (("out" : Str) :: zs))) = tx at *
      walk_at "vc"
      refine ⟨fun σ' H' => σ' = [some (.str tx), some (.ref L2), some (.ref o2), some (.int (tks.length : Int)), none, none, none, none, none, none, none, none, none] ∧ Ex Ha H', ?_, ?_⟩
      · refine ⟨WTk tx L2 o2 tks.length Ha, ⟨_, 0, Nat.zero_le _, rfl, rfl, Evl.Ex.refl _⟩, ?_⟩
        rintro m σ H2 ⟨j, hj, rfl, rfl, e2⟩
        have hLs3 := Evl.ex_l e2 hLs2
        walk_at "vc"
        rw [List.length_map, hl2]
        refine iteT_of (decide_eq_true (by omega)) ?_
        by_cases c : j < tks.length
        · have hg : (tks.map takeW ++ wl r)[j]? = some (takeW tks[j]) := by
            rw [List.getElem?_append_left (by rw [List.length_map]; exact c), List.getElem?_map, List.getElem?_eq_getElem c]
            rfl
          obtain ⟨xs, a, q1, q2, q3, q4⟩ := (hL2.mono e2).get hg
          obtain ⟨t1, t2⟩ := htk _ (List.getElem_mem c)
          walk_at "vc"
          refine s_ixL (SqL.of q1) q3 ?_
          walk_at "vc"
          refine ⟨a, takeW tks[j], rfl, SqL.of q4, .inr ⟨_, _, rfl, t1.facts.1, t1.len, ?_, fun H3 e3 => ?_⟩⟩
          · rcases t2 with t2 | t2
            · exact .inl ⟨t2.facts.1, t2.len⟩
            · exact .inr t2
          walk_at "vc"
          refine ⟨fun σ' H' => ∃ m', m' < tks.length - j ∧ WTk tx L2 o2 tks.length Ha m' σ' H', fun σ' H' h => h, ?_⟩
          walk_at "vc"
          exact ⟨tks.length - (j + 1), by omega, j + 1, by omega, rfl, rfl, Evl.Ex.trans e2 e3⟩
        · obtain rfl : j = tks.length := by omega
          obtain ⟨w0, wr, ew⟩ : ∃ w0 wr, wl r = w0 :: wr := by
            cases h : wl r with
            | nil => exact absurd h hwl
            | cons a b => exact ⟨a, b, rfl⟩
          obtain ⟨z, tz, ez, _, hz⟩ := wl_heads ha w0 (by rw [ew]; exact List.mem_cons_self)
          have hg : (tks.map takeW ++ wl r)[tks.length]? = some w0 := by
            rw [List.getElem?_append_right (by rw [List.length_map]; exact Nat.le_refl _), List.length_map, Nat.sub_self, ew]
            rfl
          obtain ⟨xs, a, q1, q2, q3, q4⟩ := (hL2.mono e2).get hg
          walk_at "vc"
          refine s_ixL (SqL.of q1) q3 ?_
          walk_at "vc"
          refine ⟨a, w0, rfl, SqL.of q4, .inl ⟨z, tz, ez, hz, fun H3 e3 => ?_⟩⟩
          walk_at "vc"
          exact Evl.Ex.trans e2 e3
      · rintro σ' Hb ⟨rfl, eb⟩
        have hL3 := hL2.mono eb
        have hLs3 := Evl.ex_l eb hLs2
        have hzb := eb _ _ hzs
        walk_at "vc"
        refine s_slL hLs3 fun p hp => ?_
        rw [cut_to]
        refine ⟨p, rfl, ⟨_, SqL.of upd_same⟩, ?_⟩
        have htl : ((ps2.map V.ref).take tks.length).length = tks.length := by rw [List.length_take, List.length_map]; omega
        have ec := Evl.Ex.new (o := .lst ((ps2.map V.ref).take tks.length)) hp
        have hsrc : ∀ {i : Nat} (hi : i < tks.length), ∃ a, ((ps2.map V.ref).take tks.length).getD i .non = .ref a ∧ Hb a = some (.lst ((takeW tks[i]).map V.str)) := fun {i} hi => by
          have hi2 : i < ps2.length := by omega
          refine ⟨ps2[i], ?_, eb _ _ (hpq2 i _ _ (List.getElem?_eq_getElem hi2) ?_)⟩
          · rw [List.getD_eq_getElem?_getD, List.getElem?_take_of_lt hi, List.getElem?_map, List.getElem?_eq_getElem hi2]
            rfl
          · rw [List.getElem?_append_left (by rw [List.length_map]; exact hi), List.getElem?_map, List.getElem?_eq_getElem hi]
            rfl
        refine lc_ex walk_list (j := 10) (fun i => ((ps2.map V.ref).take tks.length).getD i .non) (fun _ => true) (fun i v H => ∀ q, tks[i]? = some q → ∃ a, v = .ref a ∧ H a = some (.tup [.str q.1, .str q.2])) (fun i v H H' e h q hq => by obtain ⟨a, h1, h2⟩ := h q hq; exact ⟨a, h1, e _ _ h2⟩) ?_ (fun H' e => Evl.ex_l e (SqL.of upd_same)) (show ((ps2.map V.ref).take tks.length).length ≤ 100000 by omega) (fun _ => rfl) ?_ ?_ ?_
        · rintro i H2 x H' hi ⟨e, hx⟩
          exact ⟨e, by rw [List.getD_eq_getElem?_getD, hx]; rfl⟩
        · intro i H2 _ _ Q1 k1
          exact k1 H2 (Evl.Ex.refl _)
        · intro i H2 hi _ e2 Q1 k1
          rw [htl] at hi
          obtain ⟨a, h1, h2⟩ := hsrc hi
          rw [h1]
          have h3 : SqL K H2 a [.str "take", .str tks[i].1, .str tks[i].2] := SqL.of (e2 _ _ (ec _ _ h2))
          walk_at "vc"
          intro p2 hp2
          refine k1 _ _ (Evl.Ex.new hp2) fun q hq => ?_
          rw [List.getElem?_eq_getElem hi] at hq
          cases hq
          exact ⟨p2, rfl, nw_get hp2 upd_same⟩
        · intro D ysD H2 hD e2 hy hm
          rw [htl] at hm
          obtain ⟨as, rfl, has, hq⟩ := made_refs (xs := tks) (R := fun q a H => H a = some (.tup [.str q.1, .str q.2])) hm
          have hq' : ∀ (i : Nat) (a : Addr) (q : Str × Str), as[i]? = some a → tks[i]? = some q → H2 a = some (.tup [.str q.1, .str q.2]) := fun i a q h1 h2 => ex_hid _ _ (ex_nw _ _ (hq i a q h1 h2))
          have hyD := SqL.of (K := K) hy
          walk_at "vc"
          intro tt htt
          walk_at "vc"
          intro x dx nx nd nex
          have ed : Ex Hb (upd H2 tt (.tup (as.map V.ref))) := Evl.Ex.trans ec (Evl.Ex.trans e2 (Evl.Ex.new htt))
          have httd : upd H2 tt (.tup (as.map V.ref)) tt = some (.tup (as.map V.ref)) := upd_same
          have hqd : ∀ (i : Nat) (a : Addr) (q : Str × Str), as[i]? = some a → tks[i]? = some q → upd H2 tt (.tup (as.map V.ref)) a = some (.tup [.str q.1, .str q.2]) := fun i a q h1 h2 => Evl.Ex.new htt _ _ (hq' i a q h1 h2)
          generalize upd H2 tt (.tup (as.map V.ref)) = Hd at ed httd hqd nx nd ⊢
          refine ⟨x, dx, L2, rfl, upd_same, fun H5 e5 hr5 => ⟨rfl, ?_⟩⟩
          have e5' : Ex Hd (hid [x] H5) := by
            refine Evl.Ex.trans ?_ e5
            rw [hid_upd (by simp)]
            exact fun b o hb => hid_get (Evl.Ex.new nd _ _ hb) (by simp; exact ne_of_none hb nx)
          obtain ⟨dx5, hx5⟩ := id hr5
          walk_at "vc"
          refine ex_sfld hx5 (Z.cls "Reader") (Z.noat "Reader" "at") (by show 2 < 1000; decide) ?_
          have hx6 : (upd H5 x (.ins (He.ga K "Reader") dx5 (putF "at" (.int (tks.length : Int)) [("rows", .ref L2), ("at", .int ((0 : Nat) : Int))]))) x = some (.ins (He.ga K "Reader") dx5 [("rows", .ref L2), ("at", .int (tks.length : Int))]) := upd_same
          have e6 : Ex Hd (hid [x] (upd H5 x (.ins (He.ga K "Reader") dx5 (putF "at" (.int (tks.length : Int)) [("rows", .ref L2), ("at", .int ((0 : Nat) : Int))])))) := by
            rw [hid_upd (by simp)]
            exact e5'
          walk_at "vc"
          refine ⟨x, dx5, _, rfl, hx6, rfl, ?_⟩
          walk_at "vc"
          have ls_ok : ∀ l ∈ tks.map takeW ++ wl r, LineOk l := fun ws hw => by
            rcases List.mem_append.mp hw with hw | hw
            · obtain ⟨q, hq, rfl⟩ := List.mem_map.mp hw
              exact lineOk_take (htk q hq)
            · exact wl_ok ha hs ws hw
          have e6' := Evl.Ex.trans e6 ex_hid
          refine ⟨x, L2, tks.length, tks.map takeW ++ wl r, r, [], 0, rfl, by omega, ⟨⟨dx5, hx6⟩, (hL3.mono ed).mono e6'⟩, ls_ok, by rw [← hps2]; omega, ?_, .inl rfl, by rw [← hps2]; omega, hs, ha, fun b ys H7 e7 hr7 hb7 hi7 => ?_⟩
          · rw [List.append_nil, ← List.length_map (f := takeW) (as := tks), List.drop_left]
          have e07 : Ex Hd H7 := Evl.Ex.trans (Evl.Ex.trans e6 e7) ex_hid
          have hLs7 := Evl.ex_l e07 (Evl.ex_l ed hLs3)
          obtain ⟨dx7, hx7⟩ := id hr7
          walk_at "vc"
          rw [List.length_map, hl2]
          refine iteF_of (decide_eq_false fun e => by have := V.int.inj e; omega) ?_
          walk_at "vc"
          refine ex_fld hx7 (Z.cls "Reader") (Z.noat "Reader" "at") rfl ?_
          walk_at "vc"
          rw [List.length_map, hl2]
          refine iteF_of (decide_eq_false (by omega)) ?_
          have htt7 := SqT.of (K := K) (e07 _ _ httd)
          walk_at "vc"
          have gd : ∀ {i : Nat} (hi : i < tks.length), ∃ a, as[i]? = some a ∧ as.getD i 0 = a := fun {i} hi => ⟨as[i]'(by omega), List.getElem?_eq_getElem (by omega), by rw [List.getD_eq_getElem?_getD, List.getElem?_eq_getElem (by omega)]; rfl⟩
          refine lc_ex2 (walk_tup (xs := as.map V.ref)) (fun i => as.getD i 0) (fun i => .str (tks.getD i ("", "")).1) (fun i => .str (tks.getD i ("", "")).2) (fun i v _ => v = V.str (tks.getD i ("", "")).1) (fun _ _ _ _ _ h => h) ?_ (fun H' e => Evl.ex_t e htt7) (by rw [List.length_map]; omega) ?_ (fun _ _ => rfl) ?_ ?_ ?_
          · rintro i H2 x H' hi ⟨e, hx⟩
            rw [List.length_map] at hi
            obtain ⟨a, h1, h2⟩ := gd (i := i) (by omega)
            rw [List.getElem?_map, h1] at hx
            rw [h2]
            exact ⟨e, (Option.some.inj hx).symm⟩
          · intro i H2 hi e8
            rw [List.length_map] at hi
            obtain ⟨a, h1, h2⟩ := gd (i := i) (by omega)
            have h3 := hqd i a tks[i] h1 (List.getElem?_eq_getElem (by omega))
            rw [h2, List.getD_eq_getElem?_getD, List.getElem?_eq_getElem (by omega)]
            exact SqT.of (e8 _ _ (e07 _ _ h3))
          · intro i H2 _ _ Q1 k1
            exact k1 H2 (Evl.Ex.refl _)
          · intro i H2 hi e8 Q1 k1
            walk_at "vc"
            exact k1 _ _ (Evl.Ex.refl _) rfl
          intro pl yp H8 hpl e8 hy8 hm8
          have ep : yp = (tks.map (·.1)).map V.str := by
            rw [Made.allVals hm8, List.length_map, has, List.map_map]
            exact range_get (fun q : Str × Str => V.str q.1) ("", "") tks
          subst ep
          walk_at "vc"
          refine ⟨pl, tks.map (·.1), rfl, SqL.of hy8, by rw [List.length_map]; omega, by rw [List.length_map]; exact hmet, fun H9 e9 => ?_⟩
          walk_at "vc"
          have e79 := Evl.Ex.trans e8 e9
          refine ⟨b, ys, r, 3, rfl, e79 _ _ hb7, hi7.mono e79, by have := dep_shape hs; omega, hs, by omega, fun sl zsl H10 e10 hsl hsl10 hln => ?_⟩
          have hpl10 := e10 _ _ (e9 _ _ hy8)
          have nps : pl ≠ sl := ne_of_none (e9 _ _ hy8) hsl
          have e7x := Evl.Ex.trans e79 e10
          have hsl10' := SqL.of (K := K) hsl10
          have hal := al_len hs
          have hzl := hln.len
          walk_at "vc"
          refine lc_ex (walk_list (xs := zsl)) (j := 9) (fun i => zsl.getD i .non) (fun i => decide (lnS ((al r).getD i (.step 0)) = ("work" : Str))) (fun i v H => ∃ q f, v = .ref q ∧ H q = some (.tup [.str f, .int (wid f)])) (fun i v H H' e h => by obtain ⟨q, f, h1, h2⟩ := h; exact ⟨q, f, h1, e _ _ h2⟩) ?_ (fun H' e => Evl.ex_l e hsl10') (by omega) (fun _ => rfl) ?_ ?_ ?_
          · rintro i H2 x H' hi ⟨e, hx⟩
            exact ⟨e, by rw [List.getD_eq_getElem?_getD, hx]; rfl⟩
          · intro i H2 hi e11 Q1 k1
            obtain ⟨l, hl1, hl3⟩ := hln.get i _ (List.getElem?_eq_getElem hi)
            obtain ⟨p12, y, xs, hv, hp12, _⟩ := (hl3.mono e11).get
            rw [List.getD_eq_getElem?_getD, List.getElem?_eq_getElem hi, Option.getD_some, hv]
            rw [List.getD_eq_getElem?_getD, hl1, Option.getD_some] at k1
            walk_at "vc"
            have edd : decide (V.str (lnS l) = V.str "work") = decide (lnS l = ("work" : Str)) := by
              by_cases c : lnS l = ("work" : Str)
              · rw [deq c, decide_eq_true c]
              · rw [dne c, decide_eq_false c]
            rw [edd]
            exact k1 _ (Evl.Ex.refl _)
          · intro i H2 hi hfl e11 Q1 k1
            obtain ⟨l, hl1, hl3⟩ := hln.get i _ (List.getElem?_eq_getElem hi)
            rw [List.getD_eq_getElem?_getD, hl1, Option.getD_some] at hfl
            have hfl' := of_decide_eq_true hfl
            have hok := al_all ha l (List.mem_of_getElem? hl1)
            rw [List.getD_eq_getElem?_getD, List.getElem?_eq_getElem hi, Option.getD_some]
            cases l with
            | load x a o => exact absurd hfl' (by show ("load" : Str) ≠ "work"; decide +kernel)
            | store a o x => exact absurd hfl' (by show ("store" : Str) ≠ "work"; decide +kernel)
            | copy x y => exact absurd hfl' (by show ("copy" : Str) ≠ "work"; decide +kernel)
            | step n => exact absurd hfl' (by show ("step" : Str) ≠ "work"; decide +kernel)
            | work x f as2 =>
              obtain ⟨p12, k0, hv, q12, hp12, hq12⟩ := hl3.mono e11
              obtain ⟨_, ⟨c, c1, c2, rfl, c3⟩, _⟩ := hok
              rw [hv]
              have hq13 := SqT.of (K := K) hq12
              walk_at "vc"
              rw [List.length_map, c3]
              intro p14 hp14
              exact k1 _ _ (Evl.Ex.new hp14) ⟨p14, _, rfl, nw_get hp14 upd_same⟩
          intro D ysw H11 hD e11 hy11 hm11
          have hlw := Made.len hm11
          walk_at "vc"
          refine ⟨D, ysw, wid, rfl, SqL.of hy11, by omega, fun y hy => ?_, fun d H12 e12 => ?_⟩
          · obtain ⟨i, q, f, h1, h2⟩ := Made.each hm11 y hy
            exact ⟨q, f, h1, ex_hid _ _ (ex_nw _ _ h2)⟩
          walk_at "vc"
          have e712 := Evl.Ex.trans e7x (Evl.Ex.trans e11 e12)
          have hpl12 := e12 _ _ (e11 _ _ hpl10)
          have hsl12 := e12 _ _ (e11 _ _ hsl10)
          have hln12 := hln.tex (tex_of (Evl.Ex.trans e11 e12))
          have sp0 : ∀ z ∈ tks.map (·.1), Spot z := fun z hz => by
            obtain ⟨q, hq, rfl⟩ := List.mem_map.mp hz
            exact (htk q hq).1
          refine ⟨fun σ' H' => ∃ (xs : List Str) (v : Option V), σ' = [some (.str tx), some (.ref L2), some (.ref o2), some (.int (tks.length : Int)), some (.ref tt), some (.ref x), some (.ref b), some (.ref pl), some (.ref sl), v, none, none, none] ∧ Ex H7 H' ∧ H' pl = some (.lst (xs.map V.str)) ∧ xs.length ≤ 1300 ∧ ∀ z ∈ xs, Spot z, ?_, ?_⟩
          · have hsl12' := SqL.of (K := K) hsl12
            walk_at "vc"
            refine for_go (walk_list (xs := zsl)) (fun i σ H' => ∃ (xs : List Str) (v : Option V), σ = [some (.str tx), some (.ref L2), some (.ref o2), some (.int (tks.length : Int)), some (.ref tt), some (.ref x), some (.ref b), some (.ref pl), some (.ref sl), v, none, none, none] ∧ Ex H7 H' ∧ H' pl = some (.lst (xs.map V.str)) ∧ xs.length ≤ 4 + 4 * i ∧ (∀ z ∈ xs, Spot z) ∧ H' sl = some (.lst zsl) ∧ LnsAt H' zsl (al r)) ⟨tks.map (·.1), _, rfl, e712, hpl12, by rw [List.length_map]; omega, sp0, hsl12, hln12⟩ (fun i σ H' _ h => by obtain ⟨xs, v, _, _, _, _, _, h1, _⟩ := h; exact SqL.of h1) ?_ ?_
            · rintro i y σ H13 H14 hi ⟨xs, v, rfl, e13, hpl13, hxs, hsp, hsl13, hln13⟩ ⟨eH, hyi⟩
              rw [eH]
              obtain ⟨l, hl1, hl3⟩ := hln13.get i y hyi
              obtain ⟨pk1, pk2⟩ := pls_ok (al_all ha l (List.mem_of_getElem? hl1))
              walk_at "vc"
              refine ⟨ty_list (SqL.of hpl13), ?_⟩
              walk_at "vc"
              refine ⟨y, l, rfl, hl3, by omega, fun p15 H15 e15 h15 => ?_⟩
              have hpl15 := e15 _ _ hpl13
              refine ⟨pl, p15, _, _, rfl, rfl, hpl15, h15, by rw [List.length_map, List.length_map, sizeLine_eq]; omega, ?_⟩
              have t15 := (tex_of e15).trans (tex_upd (o := .lst (xs.map V.str ++ (pls l).map V.str)) (noTup_lst hpl15))
              walk_at "vc"
              refine ⟨xs ++ pls l, _, rfl, ex_upd (Evl.Ex.trans e13 e15) hpl, ?_, by rw [List.length_append]; omega, fun z hz => ?_, (upd_ne nps.symm).trans (e15 _ _ hsl13), hln13.tex t15⟩
              · rw [List.map_append]
                exact upd_same
              · rcases List.mem_append.mp hz with hz | hz
                · exact hsp z hz
                · exact pk2 z hz
            · rintro σ H13 ⟨xs, v, rfl, e13, hpl13, hxs, hsp, _, _⟩
              walk_at "vc"
              exact ⟨xs, v, rfl, e13, hpl13, by omega, hsp⟩
          · rintro σ' H13 ⟨xs, v, rfl, e13, hpl13, hxs, hsp⟩
            have ho13 := e13 _ _ (e07 _ _ (ed _ _ hzb))
            walk_at "vc"
            refine ⟨pl, o2, _, _, rfl, rfl, hpl13, ho13, by rw [List.length_map, List.length_map, sizeLine_eq]; omega, fun p14 hp14 => ?_⟩
            have spa : ∀ z ∈ xs ++ zs, Spot z := fun z hz => by
              rcases List.mem_append.mp hz with hz | hz
              · exact hsp z hz
              · exact hzsp z hz
            have sm := met_small spa
            refine ⟨p14, xs ++ zs, rfl, SqL.of ?_, by rw [List.length_append]; omega, fun p15 hp15 => ?_⟩
            · rw [List.map_append]
              exact upd_same
            walk_at "vc"
            refine ⟨p15, metS (xs ++ zs), rfl, upd_same, by omega, fun ys16 p16 hys16 hp16 => ?_⟩
            walk_at "vc"
            intro p17 hp17
            walk_at "vc"
            rw [List.length_map]
            refine iteF_of (decide_eq_false (by omega)) ?_
            have e17 := Evl.Ex.trans (Evl.Ex.new hp14 (o := .lst (xs.map V.str ++ zs.map V.str))) (Evl.Ex.trans (Evl.Ex.new hp15 (o := SetSO P w p15 (metS (xs ++ zs)))) (Evl.Ex.trans (Evl.Ex.new hp16 (o := .lst (ys16.map V.str))) (Evl.Ex.new hp17 (o := .tup (ys16.map V.str)))))
            have ho17 := SqL.of (K := K) (e17 _ _ ho13)
            walk_at "vc"
            intro p18 hp18
            walk_at "vc"
            intro p19 hp19
            have e719 := Evl.Ex.trans e13 (Evl.Ex.trans e17 (Evl.Ex.trans (Evl.Ex.new hp18 (o := .tup (zs.map V.str))) (Evl.Ex.new hp19 (o := .tup [.ref tt, .ref b, .ref p18, .ref p17]))))
            exact k p19 b (.ref tt) (.ref p18) (.ref p17) ys _ (Evl.Ex.trans ea (Evl.Ex.trans eb (Evl.Ex.trans ed (Evl.Ex.trans e07 e719)))) upd_same (e719 _ _ hb7) (hi7.mono e719)
end
end Ov
/-! text OvP9 -/
set_option Elab.async false
set_option linter.all false
set_option maxRecDepth 100000
namespace Ov
open PySem PySem.Spec PyProof.Rows L2
open Rows TL
local macro_rules | `(tactic| walk_at "hp") => `(tactic| first
  | assumption
  | exact upd_same
  | (refine Evl.Ex.new (by assumption) _ _ ?_; walk_at "hp")
  | (refine (by assumption : Evl.Ex _ _) _ _ ?_; walk_at "hp"))
local macro_rules | `(tactic| walk_at "sq") => `(tactic| first
  | assumption
  | exact SqL.of (by walk_at "hp")
  | exact SqT.of (by walk_at "hp")
  | (refine Evl.ex_l (by assumption) ?_; walk_at "sq")
  | (refine Evl.ex_t (by assumption) ?_; walk_at "sq")
  | (refine Evl.ex_l (Evl.Ex.new (by assumption)) ?_; walk_at "sq")
  | (refine Evl.ex_t (Evl.Ex.new (by assumption)) ?_; walk_at "sq"))
local macro_rules | `(tactic| walk_at "ex") => `(tactic| first
  | assumption
  | exact Evl.Ex.refl _
  | (refine Evl.Ex.trans ?_ (Evl.Ex.new (by assumption)); walk_at "ex")
  | (refine Evl.Ex.trans ?_ (by assumption); walk_at "ex"))
local macro_rules | `(tactic| walk_at "s1") => `(tactic| first
  | refine ⟨_, rfl, ?_⟩
  | refine ⟨rfl, ?_⟩
  | refine ⟨_, _, rfl, rfl, ?_⟩
  | refine ⟨_, _, _, rfl, rfl, ?_⟩)
local macro_rules | `(tactic| walk_at "st") => `(tactic| repeat walk_at "s1")
local macro_rules | `(tactic| walk_at "v1") => `(tactic| first
  | ((with_reducible refine' s_var ?vch ?_); (case vch => exact rfl))
  | with_reducible refine' s_c ?_
  | with_reducible refine' s_seq ?_
  | with_reducible refine' s_asg ?_
  | with_reducible refine' s_name ?_
  | with_reducible refine' s_cons ?_
  | with_reducible refine' s_nil ?_
  | with_reducible refine' s_op ?_
  | with_reducible refine' s_rI0 ?_
  | with_reducible refine' s_ret ?_
  | with_reducible refine' s_test ?_
  | with_reducible refine' s_ifS ?_
  | with_reducible refine' s_call ?_
  | with_reducible refine' s_cb ?_
  | ((with_reducible refine' s_rEq ?vch ?_); (case vch => exact rfl))
  | ((with_reducible refine' s_rNe ?vch ?_); (case vch => exact rfl))
  | ((with_reducible refine' s_ixT ?vch ?vca ?_); (case vch => walk_at "sq"); (case vca => first | exact rfl | exact at_nat 0 rfl | exact at_nat 1 rfl | exact at_nat 2 rfl | exact at_nat 3 rfl | exact at_nat 4 rfl))
  | ((with_reducible refine' s_ixL ?vch ?vca ?_); (case vch => walk_at "sq"); (case vca => first | exact rfl | exact at_nat 0 rfl | exact at_nat 1 rfl | exact at_nat 2 rfl | exact at_nat 3 rfl | exact at_nat 4 rfl))
  | with_reducible refine iteT' ?_
  | with_reducible refine iteF' ?_
  | with_reducible refine' ex_bl ?_
  | with_reducible refine' ex_int ?_
  | with_reducible refine' ex_str ?_
  | with_reducible refine' ex_int1 ?_
  | with_reducible refine' ex_str1 ?_
  | with_reducible refine' ex_int2 ?_
  | with_reducible refine' ex_pair ?_
  | with_reducible refine' s_un ?_
  | with_reducible refine' s_B ?_
  | with_reducible refine' s_andV ?_
  | with_reducible refine' s_orV ?_
  | with_reducible refine' s_notV ?_
  | with_reducible refine' s_and ?_
  | with_reducible refine' s_or ?_
  | with_reducible refine' s_not ?_
  | with_reducible refine' s_if ?_
  | with_reducible refine' s_chain ?_
  | with_reducible refine' s_next ?_
  | with_reducible refine' s_break ?_
  | with_reducible refine' s_cont ?_
  | with_reducible refine' s_drop ?_
  | with_reducible refine' s_retN ?_
  | with_reducible refine' s_par ?_
  | ((with_reducible refine' s_aug ?vch ?_); (case vch => exact rfl))
  | with_reducible refine' s_ip ?_
  | with_reducible refine' s_gcons ?_
  | with_reducible refine' s_gnil ?_
  | ((with_reducible refine' s_gtup ?vch ?vca ?_); (case vch => walk_at "sq"); (case vca => exact rfl))
  | with_reducible refine' s_tup ?_
  | with_reducible refine' s_lst ?_
  | with_reducible refine' s_sl ?_
  | with_reducible refine' s_part ?_
  | with_reducible refine' s_nopart ?_
  | with_reducible refine' s_fld ?_
  | with_reducible refine' s_make ?_
  | with_reducible refine' s_meth ?_
  | with_reducible refine' s_prop ?_
  | with_reducible refine' s_makeK ?_
  | with_reducible refine' s_gsub ?_
  | ((with_reducible refine' s_setL ?vch ?vca ?_); (case vch => walk_at "hp"); (case vca => exact rfl))
  | with_reducible refine' s_par3 ?_
  | with_reducible refine' ex_three ?_
  | with_reducible refine' s_star ?_
  | with_reducible refine' s_dnewK ?_
  | with_reducible refine' s_dsetd ?_
  | with_reducible refine' s_methR ?_
  | with_reducible refine' s_fldaug ?_
  | with_reducible refine' s_dictzip ?_
  | with_reducible refine' s_sfld ?_
  | with_reducible refine' s_bm ?_
  | with_reducible refine' s_bm0 ?_
  | with_reducible refine' s_m1 ?_
  | with_reducible refine' s_dget ?_
  | with_reducible refine' s_lc ?_
  | with_reducible refine' s_for ?_
  | with_reducible refine' s_iList ?_
  | with_reducible refine' s_iTup ?_
  | with_reducible refine' s_iStr ?_
  | with_reducible refine' s_iRng1 ?_
  | with_reducible refine' s_iRng2 ?_
  | with_reducible refine' s_yes ?_
  | with_reducible refine' s_rU ?_
  | ((with_reducible refine' s_isiP ?vch ?_); (case vch => exact rfl))
  | ((with_reducible refine' ex_lenL ?vch ?_); (case vch => walk_at "sq"))
  | ((with_reducible refine' ex_lenT ?vch ?_); (case vch => walk_at "sq"))
  | ((with_reducible refine' ex_tupL ?vch ?_); (case vch => walk_at "sq"))
  | ((with_reducible refine' ex_lstT ?vch ?_); (case vch => walk_at "sq"))
  | ((with_reducible refine' ex_srcL ?vch ?_); (case vch => walk_at "sq"))
  | ((with_reducible refine' ex_srcT ?vch ?_); (case vch => walk_at "sq"))
  | ((with_reducible refine' s_mk ?vch ?_); (case vch => exact small_le (Nat.le_of_ble_eq_true rfl)))
  | with_reducible refine' ⟨_, _, rfl, rfl, ?_⟩
  | with_reducible refine' ⟨⟨_, rfl⟩, ?_⟩
  | with_reducible refine' ⟨rfl, ?_⟩
  | ((with_reducible refine' iteT_of ?vch ?_); (case vch => exact rfl))
  | ((with_reducible refine' iteF_of ?vch ?_); (case vch => exact rfl)))
local macro_rules | `(tactic| walk_at "vc") => `(tactic| repeat walk_at "v1")
theorem s_delL {to ti : TE} {D : Ends} {σ : L2.St} {H : Hp} (q : to σ H fun x H1 => ti σ H1 fun y H2 => ∃ (l : Addr) (xs : List V) (i : Int) (k : Nat), x = .ref l ∧ y = .int i ∧ H2 l = some (.lst xs) ∧ -(2 ^ 63) ≤ i ∧ i < 2 ^ 63 ∧ seqIndex? i xs.length = some k ∧ D.nx σ (upd H2 l (.lst (xs.eraseIdx k)))) : tDelL to ti D σ H := q
theorem erase_map {α β : Type} (f : α → β) : ∀ (l : List α) (i : Nat), (l.map f).eraseIdx i = (l.eraseIdx i).map f
  | [], _ => rfl
  | _ :: _, 0 => rfl
  | a :: l, i + 1 => by
    show f a :: (l.map f).eraseIdx i = f a :: (l.eraseIdx i).map f
    rw [erase_map f l i]
section
variable {P : Program} {w : World} {K : PySem.W.Frag} {mg : Str → Option Value} {base : Heap}
/-- the texts of the law's programs -/
def TextOk (tks : List (Str × Str)) (r : Rows) (oz : Option (List Str)) : Prop := r ≠ .nil ∧ Shape r 3 ∧ AllLn LnOk r ∧ nl r ≤ 300 ∧ tks.length ≤ 4 ∧ (∀ q ∈ tks, Spot q.1 ∧ (Spot q.2 ∨ q.2 = "x@1")) ∧ (metS (tks.map (·.1))).length = tks.length ∧ (∀ zs, oz = some zs → 1 ≤ zs.length ∧ zs.length ≤ 4 ∧ ∀ z ∈ zs, Spot z)
def textOf (tks : List (Str × Str)) (r : Rows) (oz : Option (List Str)) : Str := textT (tks.map takeW ++ (wl r ++ oz.toList.map fun zs => (("out" : Str) :: zs)))
theorem textOf_plain (r : Rows) : textOf [] r none = textT (wl r) := by
  unfold textOf
  simp
def spPInit (K : PySem.W.Frag) : Sp := fun vs H Q _ => ∃ (x dx : Addr) (tks : List (Str × Str)) (r : Rows) (oz : Option (List Str)), vs = [.ref x, .str (textOf tks r oz)] ∧ H x = some (.ins (He.ga K "Program") dx []) ∧ TextOk tks r oz ∧ ∀ H', Ex (hid [x] H) (hid [x] H') → ProgAt K H' x (textOf tks r oz) r → Q .non H'
theorem sc_Programu_initu : FnScope ["self", "text", "parts"] ["self", "text"] (defScope s_Programu_initu) := ⟨rfl, rfl, rfl, by decide +kernel, rfl, by decide +kernel, by decide +kernel⟩
theorem D_Programu_initu (Z : Zf K mg) : Mf P w K mg base "Program" "__init__" (16) ["self", "text"] (spPInit K) := by
  refine meth_ok Z 28 rfl sc_Programu_initu (fun _ _ _ _ _ _ us hl => match us, hl with | [_, _], _ => rfl) (fun vs H Q E h => ?_) (fun f cdv A outer s H vs Q E hr h => ⟨_, (pss_cons (ps_asg (pe_ifExp (pt_val (pe_callB call_isiP (by rfl) (Z.free "isinstance") (by decide +kernel) (pa_cons (pv 1) (pa_cons (pe_ty "str" rfl (Z.free "str") (by decide +kernel)) pa_nil)))) (pe_callD (D_parts_of_program Z) hr (by omega) rfl (pa_cons (pv 1) pa_nil)) pe_non) (pgn 2 sc_Programu_initu.nd))
      (pss_cons (ps_if (pt_cmpR op_isN (pv 2) pe_non (nomark _)) (pss_one ps_never) pss_nil)
      (pss_cons (ps_fld (pv 0) (pv 1) rfl)
      (pss_one (ps_fld (pv 0) (pv 2) rfl))))), ?_⟩)
  · obtain ⟨x, dx, tks, r, oz, rfl, _⟩ := h
    rfl
  · obtain ⟨x, dx, tks, r, oz, rfl, hx, ⟨h1, h2, h3, h4, h5, h6, h7, h8⟩, k⟩ := h
    walk_at "vc"
    refine ⟨tks, r, oz, rfl, h1, h2, h3, h4, h5, h6, h7, h8, fun t b x1 y1 z1 ys H1 e1 ht hb hi => ?_⟩
    walk_at "vc"
    have hx1 := e1 _ _ hx
    refine ex_sfld hx1 (Z.cls "Program") (Z.noat "Program" "written") (by show 0 < 1000; decide) ?_
    walk_at "vc"
    refine ex_sfld upd_same (Z.cls "Program") (Z.noat "Program" "parts") (by show 1 < 1000; decide) ?_
    have t1 := (tex_upd (o := .ins (He.ga K "Program") dx [("written", .str (textOf tks r oz))]) (noTup_ins hx1))
    have t2 : TEx _ _ := tex_upd (H := upd H1 x (.ins (He.ga K "Program") dx [("written", .str (textOf tks r oz))])) (a := x) (o := .ins (He.ga K "Program") dx [("written", .str (textOf tks r oz)), ("parts", .ref t)]) (noTup_ins upd_same)
    refine k _ ?_ ⟨dx, t, b, x1, y1, z1, ys, upd_same, (t1.trans t2) _ _ ht, (t1.trans t2) _ _ hb, hi.tex (t1.trans t2)⟩
    rw [hid_upd (by simp), hid_upd (by simp)]
    exact hid_mono e1
/-! ### lines, check_index, without -/
def spLns (K : PySem.W.Frag) : Sp := fun vs H Q _ => ∃ (p dx : Addr) (fs : List (Str × V)) (ls : List (List Str)), vs = [.ref p] ∧ H p = some (.ins (He.ga K "Program") dx fs) ∧ fs.lookup ("written" : Str) = some (.str (textT ls)) ∧ ls ≠ [] ∧ ls.length ≤ 400 ∧ (∀ l ∈ ls, LineOk l) ∧ ∀ q H', Ex H H' → H' q = some (.tup ((ls.map lineT).map V.str)) → Q (.ref q) H'
theorem sc_Program_lines : FnScope ["self"] ["self"] (defScope s_Program_lines) := ⟨rfl, rfl, rfl, by decide +kernel, rfl, by decide +kernel, by decide +kernel⟩
theorem D_Program_lines (Z : Zf K mg) : Pf P w K mg base "Program" "lines" (1) ["self"] (spLns K) := by
  refine prop_ok Z 29 rfl sc_Program_lines (fun _ _ _ _ _ _ us hl => match us, hl with | [_], _ => rfl) (fun vs H Q E h => ?_) (fun f cdv A outer s H vs Q E hr h => ⟨_, (pss_one (ps_ret (pe_callTy call_tupL (by rfl) (Z.free "tuple") (by decide +kernel) (pa_cons (pe_split (pe_fld (pv 0) rfl) pe_str) pa_nil)))), ?_⟩)
  · obtain ⟨p, dx, fs, ls, rfl, _⟩ := h
    rfl
  · obtain ⟨p, dx, fs, ls, rfl, hp, hf, hn, hl, hok, k⟩ := h
    have hlen := textT_len hok hl
    walk_at "vc"
    refine ex_fld hp (Z.cls "Program") (Z.noat "Program" "written") hf ?_
    walk_at "vc"
    refine ⟨by rw [sizeLine_eq]; omega, fun p1 hp1 => ?_⟩
    rw [split_lines hn hok]
    walk_at "vc"
    intro p2 hp2
    exact k p2 _ (Evl.Ex.trans (Evl.Ex.new hp1) (Evl.Ex.new hp2)) upd_same
theorem ProgAt.ins {H : Hp} {p : Addr} {text : Str} {r : Rows} (h : ProgAt K H p text r) : ∃ dx t, H p = some (.ins (He.ga K "Program") dx [("written", .str text), ("parts", .ref t)]) := let ⟨dx, t, _, _, _, _, _, h1, _⟩ := h; ⟨dx, t, h1⟩
def spChk (K : PySem.W.Frag) : Sp := fun vs H Q _ => ∃ (p : Addr) (i : Int) (r : Rows) (ls : List (List Str)), vs = [.ref p, .int i] ∧ ProgAt K H p (textT ls) r ∧ ls ≠ [] ∧ ls.length ≤ 400 ∧ (∀ l ∈ ls, LineOk l) ∧ 0 ≤ i ∧ i < (ls.length : Int) ∧ ∀ H', Ex H H' → Q .non H'
theorem sc_Program_check_index : FnScope ["self", "index"] ["self", "index"] (defScope s_Program_check_index) := ⟨rfl, rfl, rfl, by decide +kernel, rfl, by decide +kernel, by decide +kernel⟩
theorem D_Program_check_index (Z : Zf K mg) : Mf P w K mg base "Program" "check_index" (3) ["self", "index"] (spChk K) := by
  refine meth_ok Z 31 rfl sc_Program_check_index (fun _ _ _ _ _ _ us hl => match us, hl with | [_, _], _ => rfl) (fun vs H Q E h => ?_) (fun f cdv A outer s H vs Q E hr h => ⟨_, (pss_one (ps_if (PW.pt (pw_or (pt_not (pt_val (pe_callD (D_is_integer Z) hr (by omega) rfl (pa_cons (pv 1) pa_nil)))) (pw_or1 (pt_not (pt_chain op_le op_lt pe_int (pv 1) (pe_callB call_lenT (by rfl) (Z.free "len") (by decide +kernel) (pa_cons (pe_propD (D_Program_lines Z) (Z.cls "Program") (Z.prop "Program" "lines") hr (by omega) (pv 0)) pa_nil))))))) (pss_one ps_never) pss_nil)), ?_⟩)
  · obtain ⟨p, i, r, ls, rfl, _⟩ := h
    rfl
  · obtain ⟨p, i, r, ls, rfl, hp, hn, hl, hok, h0, h1, k⟩ := h
    obtain ⟨dx, t, hpi⟩ := hp.ins
    walk_at "vc"
    refine ⟨i, rfl, ?_⟩
    walk_at "vc"
    rw [decide_eq_true h0]
    walk_at "vc"
    refine ⟨p, dx, _, rfl, hpi, p, dx, _, ls, rfl, hpi, rfl, hn, hl, hok, fun q H1 e1 hq => ?_⟩
    walk_at "vc"
    rw [List.length_map, List.length_map, decide_eq_true h1]
    walk_at "vc"
    exact k _ e1
def spWithout (K : PySem.W.Frag) : Sp := fun vs H Q _ => ∃ (p : Addr) (i : Nat) (r r' : Rows) (ls : List (List Str)), vs = [.ref p, .int (i : Int)] ∧ ProgAt K H p (textT ls) r ∧ ls ≠ [] ∧ ls.length ≤ 400 ∧ (∀ l ∈ ls, LineOk l) ∧ i < ls.length ∧ ls.eraseIdx i = wl r' ∧ TextOk [] r' none ∧ ∀ q H', Ex H H' → ProgAt K H' q (textT (wl r')) r' → Q (.ref q) H'
theorem made_prog {H : Hp} {x dx : Addr} {Qf : VK} {r : Rows} {tks : List (Str × Str)} {oz : Option (List Str)} (nx : H x = none) (nd : H dx = none) (hok : TextOk tks r oz) (k : ∀ H', Ex H H' → ProgAt K H' x (textOf tks r oz) r → Qf (.ref x) H') : spPInit K [.ref x, .str (textOf tks r oz)] (upd (upd H dx (.own x)) x (.ins (He.ga K "Program") dx [])) (fun v H2 => v = .non ∧ Qf (.ref x) H2) E0 := by
  refine ⟨x, dx, tks, r, oz, rfl, upd_same, hok, fun H' e hp => ⟨rfl, ?_⟩⟩
  have e1 : Ex H (hid [x] (upd (upd H dx (.own x)) x (.ins (He.ga K "Program") dx []))) := by
    rw [hid_upd (by simp)]
    exact fun b o hb => hid_get (Evl.Ex.new nd _ _ hb) (by simp; exact ne_of_none hb nx)
  exact k H' (Evl.Ex.trans e1 (Evl.Ex.trans e ex_hid)) hp
theorem sc_Program_without : FnScope ["self", "index", "lines"] ["self", "index"] (defScope s_Program_without) := ⟨rfl, rfl, rfl, by decide +kernel, rfl, by decide +kernel, by decide +kernel⟩
theorem D_Program_without (Z : Zf K mg) : Mf P w K mg base "Program" "without" (18) ["self", "index"] (spWithout K) := by
  refine meth_ok Z 32 rfl sc_Program_without (fun _ _ _ _ _ _ us hl => match us, hl with | [_, _], _ => rfl) (fun vs H Q E h => ?_) (fun f cdv A outer s H vs Q E hr h => ⟨_, (pss_cons (ps_expr (pe_methD (D_Program_check_index Z) (Z.cls "Program") (Z.meth "Program" "check_index") hr (by omega) (pv 0) (pa_cons (pv 1) pa_nil)))
      (pss_cons (ps_asg (pe_callTy call_lstL (by rfl) (Z.free "list") (by decide +kernel) (pa_cons (pe_propD (D_Program_lines Z) (Z.cls "Program") (Z.prop "Program" "lines") hr (by omega) (pv 0)) pa_nil)) (pgn 2 sc_Program_without.nd))
      (pss_cons (ps_delL (pv 2) (pv 1))
      (pss_one (ps_ret (pe_makeD (D_Programu_initu Z) (Z.mkr "Program") (Z.glo "Program") hr (by omega) rfl (pa_cons (pe_join pe_str (pv 2)) pa_nil))))))), ?_⟩)
  · obtain ⟨p, i, r, r', ls, rfl, _⟩ := h
    rfl
  · obtain ⟨p, i, r, r', ls, rfl, hp, hn, hl, hok, hi, he, hto, k⟩ := h
    obtain ⟨dx, t, hpi⟩ := hp.ins
    walk_at "vc"
    refine ⟨p, dx, _, rfl, hpi, rfl, ?_⟩
    walk_at "vc"
    refine ⟨p, _, r, ls, rfl, hp, hn, hl, hok, by omega, by omega, fun H1 e1 => ?_⟩
    walk_at "vc"
    have hp1 := e1 _ _ hpi
    refine ⟨p, dx, _, rfl, hp1, p, dx, _, ls, rfl, hp1, rfl, hn, hl, hok, fun q H2 e2 hq => ?_⟩
    have hq' := SqT.of (K := K) hq
    walk_at "vc"
    intro p3 hp3
    walk_at "vc"
    refine s_delL ?_
    walk_at "vc"
    have hsi : seqIndex? (i : Int) ((ls.map lineT).map V.str).length = some i := by
      refine (ixN_seq (n := ((ls.map lineT).map V.str).length) ?_).1
      unfold ixN
      rw [List.length_map, List.length_map, if_pos (by omega), if_pos (by omega)]
      rfl
    refine ⟨p3, _, i, i, rfl, rfl, upd_same, by omega, by omega, hsi, ?_⟩
    have el : ((ls.map lineT).map V.str).eraseIdx i = ((wl r').map lineT).map V.str := by
      rw [← he, erase_map, erase_map]
    rw [el]
    obtain ⟨o1, o2, o3, o4, _⟩ := id hto
    have hwo := wl_ok o3 o2
    have hsum : (((wl r').map lineT).map (·.length)).sum ≤ (wl r').length * 488 := by
      generalize wl r' = ws at hwo
      induction ws with
      | nil => simp
      | cons a b ih =>
        have h1 := lineT_len (hwo a List.mem_cons_self)
        have h2 := ih fun z hz => hwo z (List.mem_cons_of_mem _ hz)
        simp only [List.map_cons, List.sum_cons, List.length_cons]
        rw [Nat.succ_mul]
        omega
    have hwl := wl_len r'
    walk_at "vc"
    refine ⟨"\n", p3, (wl r').map lineT, rfl, rfl, .inl (SqL.of upd_same), ?_, ?_⟩
    · rw [List.length_map]
      have : (("\n" : Str)).length = 1 := by decide +kernel
      rw [this]
      omega
    walk_at "vc"
    intro x dx9 nx nd nex
    have e3 : Ex H (upd (upd H2 p3 (.lst ((ls.map lineT).map V.str))) p3 (.lst (((wl r').map lineT).map V.str))) := Evl.Ex.trans (Evl.Ex.trans e1 e2) (ex_upd (Evl.Ex.new hp3) hp3)
    have eq := textOf_plain r'
    have g := made_prog (K := K) (Qf := fun v H' => Q v H') nx nd hto fun H' e4 hp4 => k x H' (Evl.Ex.trans e3 e4) (by rw [eq] at hp4; exact hp4)
    rw [eq] at g
    exact g
end
end Ov
/-! text OvL0 -/
set_option Elab.async false
set_option linter.all false
set_option maxRecDepth 100000
namespace Ov
open PySem PySem.Spec PyProof.Rows L2
section
variable {σ : L2.St} {H : Hp} {QG : L2.St → Hp → Prop}
theorem s_gsub {to ti : TE} {t : TSet} {v : V} (q : to σ H fun o H1 => ti σ H1 fun i H2 => t o i v H2 fun H3 => QG σ H3) : gSub to ti t v σ H QG := q
theorem s_setL {p : Addr} {xs : List V} {k : Int} {j : Nat} {v : V} {Q : Hp → Prop} (h : H p = some (.lst xs)) (hj : ixN xs.length k = some j) (q : Q (upd H p (.lst (xs.set j v)))) : rSetL (.ref p) (.int k) v H Q := ⟨p, xs, k, j, rfl, rfl, h, hj, q⟩
end
/-- the purse: digits, seed, turn -/
def PurseAt (H : Hp) (p : Addr) (t : Int) : Prop := ∃ d s : Int, H p = some (.lst [.int d, .int s, .int t]) ∧ 0 ≤ d ∧ 0 ≤ s ∧ s < 2147483549 ∧ 0 ≤ t
/-! ### what is new, while some things may change -/
section
variable {H H' H0 H1 H2 H3 : Hp} {as : List Addr} {D : Addr} {o : HO}
def All (as : List Addr) (H : Hp) : Prop := ∀ a ∈ as, ∃ o, H a = some o
theorem hid_ex (e : Ex H H') : Ex (hid as H) (hid as H') := hid_mono e
theorem nw_hidmono (e : Ex (hid as H) (hid as H')) (n : All as H0) : Ex (nw H0 H) (nw H0 H') := fun a o h => by
  obtain ⟨h1, h2⟩ := nw_some.mp h
  exact nw_get h1 (ex_hid _ _ (e _ _ (hid_get h2 fun m => by obtain ⟨u, q⟩ := n a m; rw [q] at h1; cases h1)))
/-- old things are old later -/
theorem back_none (e : Ex (hid as H) (hid as H')) (n : All as H') {a : Addr} (h : H' a = none) : H a = none := by
  cases c : H a with
  | none => rfl
  | some u =>
    by_cases m : a ∈ as
    · obtain ⟨o, q⟩ := n a m
      rw [q] at h; cases h
    · rw [ex_hid _ _ (e a u (hid_get c m))] at h; cases h
theorem nw_in (e : Ex (hid as H0) (hid as H1)) (n : All as H1) (e2 : Ex (nw H1 H2) H) : Ex (nw H1 H2) (nw H0 H) := fun a o h => nw_get (back_none e n (nw_some.mp h).1) (e2 _ _ h)
theorem nw_hidD (h : H0 D = none) (hd : ∃ o, H1 D = some o) : Ex (nw H1 H2) (nw H1 (hid [D] H2)) := fun a o q => by
  obtain ⟨q1, q2⟩ := nw_some.mp q
  refine nw_get q1 (hid_get q2 fun m => ?_)
  obtain ⟨u, z⟩ := hd
  rw [← List.mem_singleton.mp m, q1] at z
  cases z
theorem All.upd (h : All as H) : All as (upd H D o) := fun a m => by
  by_cases c : a = D
  · exact ⟨o, by rw [c]; exact upd_same⟩
  · obtain ⟨u, q⟩ := h a m
    exact ⟨u, (upd_ne c).trans q⟩
theorem hid_updNew (h : All as H0) (hD : H0 D = none) (e : Ex (hid as H0) (hid as H)) : Ex (hid as H0) (hid as (upd H D o)) := fun a u q => by
  obtain ⟨q1, q2⟩ := hid_some.mp q
  have ne : a ≠ D := fun c => by rw [c, hD] at q2; cases q2
  exact hid_get ((upd_ne ne).trans (ex_hid _ _ (e a u q))) q1
end
/-- a comprehension while some things change: Iv by the turn -/
theorem lc_exH {J : It} {n : Nat} {G : Hp → Prop} {Y : Nat → Hp → V → Hp → Prop} (w : Walk J n G Y) {j : Nat} {te : TE} {vs : List Nat} {σ : L2.St} {H1 : Hp} {Qf : VK} (src : Nat → V) (as : List Addr) (Iv : Nat → Hp → Prop) (Pr : Nat → V → Hp → Prop) (mono : Mono Pr)
    (hA : ∀ i H, Iv i H → All as H) (hI : ∀ i H D o, H1 D = none → Iv i H → Iv i (upd H D o)) (h0 : Iv 0 H1)
    (hY : ∀ i H x H', i < n → Y i H x H' → H' = H ∧ x = src i) (hG : ∀ H, Ex (hid as H1) (hid as H) → G H) (hn : n ≤ 100000) (hw : ∀ x, wipe ((wipe σ vs).set j (some x)) vs = wipe σ vs)
    (he : ∀ i H, i < n → Ex (hid as H1) (hid as H) → Iv i H → ∀ Q : VK, (∀ v H', Ex (hid as H) (hid as H') → Iv (i + 1) H' → Pr i v (nw H H') → Q v H') → te ((wipe σ vs).set j (some (src i))) H Q)
    (hd : ∀ D ys H', H1 D = none → Ex (hid as H1) (hid as H') → Iv n H' → H' D = some (.lst ys) → Made (fun _ => true) Pr n ys (nw H1 (hid [D] H')) → Qf (.ref D) H') :
    LcGo J (gName j) tYes te vs σ H1 Qf := by
  intro D hD
  have hA1 := hA 0 H1 h0
  have hDas : D ∉ as := fun m => by obtain ⟨o, q⟩ := hA1 D m; rw [q] at hD; cases hD
  refine lc_it w (fun i H => i ≤ n ∧ Ex (hid as H1) (hid as H) ∧ Iv i H ∧ ∃ ys, H D = some (.lst ys) ∧ Made (fun _ => true) Pr i ys (nw H1 (hid [D] H))) ?_ ?_ ?_ ?_
  · exact ⟨Nat.zero_le _, hid_mono (Evl.Ex.new hD), hI 0 H1 D _ hD h0, [], upd_same, rfl⟩
  · exact fun i H _ h => hG H h.2.1
  · rintro i x H H' hi ⟨_, e, hIv, ys, hys, hm⟩ hy
    obtain ⟨rfl, rfl⟩ := hY i H x H' hi hy
    refine ⟨hw _, ?_⟩
    refine s_yes ?_
    rw [if_pos rfl]
    refine he i H' hi e hIv _ fun v H4 e4 hIv4 p => ?_
    have hys4 : H4 D = some (.lst ys) := ex_hid _ _ (e4 _ _ (hid_get hys hDas))
    have l := Made.len hm
    have e14 := Evl.Ex.trans e e4
    refine ⟨ys, hys4, by rw [sizeLine_eq]; omega, hi, hid_updNew hA1 hD e14, hI _ _ _ _ hD hIv4, _, upd_same, ?_⟩
    simp only [Made]
    rw [if_pos trivial, hid_upd (by simp)]
    have m1 : Ex (nw H1 (hid [D] H')) (nw H1 (hid [D] H4)) := fun a o q => by
      obtain ⟨q1, q2⟩ := nw_some.mp q
      obtain ⟨q3, q4⟩ := hid_some.mp q2
      refine nw_get q1 (hid_get (ex_hid _ _ (e4 _ _ (hid_get q4 fun m => ?_))) q3)
      obtain ⟨u, z⟩ := hA1 a m
      rw [z] at q1; cases q1
    have m2 : Ex (nw H' H4) (nw H1 (hid [D] H4)) := fun a o q => by
      obtain ⟨q1, q2⟩ := nw_some.mp q
      refine nw_get (back_none e (hA _ _ hIv) q1) (hid_get q2 fun m => ?_)
      rw [List.mem_singleton.mp m, hys] at q1
      cases q1
    exact ⟨ys, v, rfl, Made.mono mono m1 hm, mono _ _ _ _ m2 p⟩
  · rintro H ⟨_, e, hIv, ys, hys, hm⟩
    exact hd D ys H hD e hIv hys hm
end Ov
/-! text OvL1 -/
set_option Elab.async false
set_option linter.all false
set_option maxRecDepth 100000
namespace Ov
open PySem PySem.Spec PyProof.Rows L2
open Rows TL
local macro_rules | `(tactic| walk_at "hp") => `(tactic| first
  | assumption
  | exact upd_same
  | (refine Evl.Ex.new (by assumption) _ _ ?_; walk_at "hp")
  | (refine (by assumption : Evl.Ex _ _) _ _ ?_; walk_at "hp"))
local macro_rules | `(tactic| walk_at "sq") => `(tactic| first
  | assumption
  | exact SqL.of (by walk_at "hp")
  | exact SqT.of (by walk_at "hp")
  | (refine Evl.ex_l (by assumption) ?_; walk_at "sq")
  | (refine Evl.ex_t (by assumption) ?_; walk_at "sq")
  | (refine Evl.ex_l (Evl.Ex.new (by assumption)) ?_; walk_at "sq")
  | (refine Evl.ex_t (Evl.Ex.new (by assumption)) ?_; walk_at "sq"))
local macro_rules | `(tactic| walk_at "ex") => `(tactic| first
  | assumption
  | exact Evl.Ex.refl _
  | (refine Evl.Ex.trans ?_ (Evl.Ex.new (by assumption)); walk_at "ex")
  | (refine Evl.Ex.trans ?_ (by assumption); walk_at "ex"))
local macro_rules | `(tactic| walk_at "s1") => `(tactic| first
  | refine ⟨_, rfl, ?_⟩
  | refine ⟨rfl, ?_⟩
  | refine ⟨_, _, rfl, rfl, ?_⟩
  | refine ⟨_, _, _, rfl, rfl, ?_⟩)
local macro_rules | `(tactic| walk_at "st") => `(tactic| repeat walk_at "s1")
local macro_rules | `(tactic| walk_at "v1") => `(tactic| first
  | ((with_reducible refine' s_var ?vch ?_); (case vch => exact rfl))
  | with_reducible refine' s_c ?_
  | with_reducible refine' s_seq ?_
  | with_reducible refine' s_asg ?_
  | with_reducible refine' s_name ?_
  | with_reducible refine' s_cons ?_
  | with_reducible refine' s_nil ?_
  | with_reducible refine' s_op ?_
  | with_reducible refine' s_rI0 ?_
  | with_reducible refine' s_ret ?_
  | with_reducible refine' s_test ?_
  | with_reducible refine' s_ifS ?_
  | with_reducible refine' s_call ?_
  | with_reducible refine' s_cb ?_
  | ((with_reducible refine' s_rEq ?vch ?_); (case vch => exact rfl))
  | ((with_reducible refine' s_rNe ?vch ?_); (case vch => exact rfl))
  | ((with_reducible refine' s_ixT ?vch ?vca ?_); (case vch => walk_at "sq"); (case vca => first | exact rfl | exact at_nat 0 rfl | exact at_nat 1 rfl | exact at_nat 2 rfl | exact at_nat 3 rfl | exact at_nat 4 rfl))
  | ((with_reducible refine' s_ixL ?vch ?vca ?_); (case vch => walk_at "sq"); (case vca => first | exact rfl | exact at_nat 0 rfl | exact at_nat 1 rfl | exact at_nat 2 rfl | exact at_nat 3 rfl | exact at_nat 4 rfl))
  | with_reducible refine iteT' ?_
  | with_reducible refine iteF' ?_
  | with_reducible refine' ex_bl ?_
  | with_reducible refine' ex_int ?_
  | with_reducible refine' ex_str ?_
  | with_reducible refine' ex_int1 ?_
  | with_reducible refine' ex_str1 ?_
  | with_reducible refine' ex_int2 ?_
  | with_reducible refine' ex_pair ?_
  | with_reducible refine' s_un ?_
  | with_reducible refine' s_B ?_
  | with_reducible refine' s_andV ?_
  | with_reducible refine' s_orV ?_
  | with_reducible refine' s_notV ?_
  | with_reducible refine' s_and ?_
  | with_reducible refine' s_or ?_
  | with_reducible refine' s_not ?_
  | with_reducible refine' s_if ?_
  | with_reducible refine' s_chain ?_
  | with_reducible refine' s_next ?_
  | with_reducible refine' s_break ?_
  | with_reducible refine' s_cont ?_
  | with_reducible refine' s_drop ?_
  | with_reducible refine' s_retN ?_
  | with_reducible refine' s_par ?_
  | ((with_reducible refine' s_aug ?vch ?_); (case vch => exact rfl))
  | with_reducible refine' s_ip ?_
  | with_reducible refine' s_gcons ?_
  | with_reducible refine' s_gnil ?_
  | ((with_reducible refine' s_gtup ?vch ?vca ?_); (case vch => walk_at "sq"); (case vca => exact rfl))
  | with_reducible refine' s_tup ?_
  | with_reducible refine' s_lst ?_
  | with_reducible refine' s_sl ?_
  | with_reducible refine' s_part ?_
  | with_reducible refine' s_nopart ?_
  | with_reducible refine' s_fld ?_
  | with_reducible refine' s_make ?_
  | with_reducible refine' s_meth ?_
  | with_reducible refine' s_prop ?_
  | with_reducible refine' s_makeK ?_
  | with_reducible refine' s_gsub ?_
  | ((with_reducible refine' s_setL ?vch ?vca ?_); (case vch => walk_at "hp"); (case vca => exact rfl))
  | with_reducible refine' s_par3 ?_
  | with_reducible refine' ex_three ?_
  | with_reducible refine' s_star ?_
  | with_reducible refine' s_dnewK ?_
  | with_reducible refine' s_dsetd ?_
  | with_reducible refine' s_methR ?_
  | with_reducible refine' s_fldaug ?_
  | with_reducible refine' s_dictzip ?_
  | with_reducible refine' s_sfld ?_
  | with_reducible refine' s_bm ?_
  | with_reducible refine' s_bm0 ?_
  | with_reducible refine' s_m1 ?_
  | with_reducible refine' s_dget ?_
  | with_reducible refine' s_lc ?_
  | with_reducible refine' s_for ?_
  | with_reducible refine' s_iList ?_
  | with_reducible refine' s_iTup ?_
  | with_reducible refine' s_iStr ?_
  | with_reducible refine' s_iRng1 ?_
  | with_reducible refine' s_iRng2 ?_
  | with_reducible refine' s_yes ?_
  | with_reducible refine' s_rU ?_
  | ((with_reducible refine' s_isiP ?vch ?_); (case vch => exact rfl))
  | ((with_reducible refine' ex_lenL ?vch ?_); (case vch => walk_at "sq"))
  | ((with_reducible refine' ex_lenT ?vch ?_); (case vch => walk_at "sq"))
  | ((with_reducible refine' ex_tupL ?vch ?_); (case vch => walk_at "sq"))
  | ((with_reducible refine' ex_lstT ?vch ?_); (case vch => walk_at "sq"))
  | ((with_reducible refine' ex_srcL ?vch ?_); (case vch => walk_at "sq"))
  | ((with_reducible refine' ex_srcT ?vch ?_); (case vch => walk_at "sq"))
  | ((with_reducible refine' s_mk ?vch ?_); (case vch => exact small_le (Nat.le_of_ble_eq_true rfl)))
  | with_reducible refine' ⟨_, _, rfl, rfl, ?_⟩
  | with_reducible refine' ⟨⟨_, rfl⟩, ?_⟩
  | with_reducible refine' ⟨rfl, ?_⟩
  | ((with_reducible refine' iteT_of ?vch ?_); (case vch => exact rfl))
  | ((with_reducible refine' iteF_of ?vch ?_); (case vch => exact rfl)))
local macro_rules | `(tactic| walk_at "vc") => `(tactic| repeat walk_at "v1")
section
variable {P : Program} {w : World} {K : PySem.W.Frag} {mg : Str → Option Value} {base : Heap}
def spPick : Sp := fun vs H Q _ => ∃ (p : Addr) (m t : Int), vs = [.ref p, .int m] ∧ 1 ≤ m ∧ m ≤ 100000 ∧ PurseAt H p t ∧ t < 2 ^ 60 ∧ ∀ x H', 0 ≤ x → x < m → Ex (hid [p] H) (hid [p] H') → PurseAt H' p (t + 1) → Q (.int x) H'
theorem sc_z_pick : FnScope ["_law_purse_here", "_law_many", "_law_seed", "_law_turn", "_law_mixed", "_law_digit"] ["_law_purse_here", "_law_many"] (defScope s_z_pick) := ⟨rfl, rfl, rfl, by decide +kernel, rfl, by decide +kernel, by decide +kernel⟩
theorem D_z_pick (Z : Zf K mg) : Df P w K mg base "_law_pick" (1) ["_law_purse_here", "_law_many"] spPick := by
  refine def_ok Z 52 rfl (by decide +kernel) sc_z_pick (fun _ _ _ _ _ _ us hl => match us, hl with | [_, _], _ => rfl) (fun vs H Q E h => ?_) (fun f cdv A outer s H vs Q E hr h => ⟨_, (pss_cons (ps_asg (pe_op op_add (pe_ix ix_list (pv 0) pe_int (fun _ _ => rfl)) pe_int) (pg_sub (pv 0) pe_int set_list))
      (pss_cons (ps_par (i := 2) (j := 3) (by rfl) sc_z_pick.nd rfl rfl (by decide) rfl rfl (pa_cons (pe_callTy call_intI (by rfl) (Z.free "int") (by decide +kernel) (pa_cons (pe_ix ix_list (pv 0) pe_int (fun _ _ => rfl)) pa_nil)) (pa_cons (pe_ix ix_list (pv 0) pe_int (fun _ _ => rfl)) pa_nil)) (by rfl))
      (pss_cons (ps_asg (pe_op op_add (pe_op op_add (pe_op op_mul (pv 2) (pe_op op_add (pe_op op_mod (pe_callTy call_intI (by rfl) (Z.free "int") (by decide +kernel) (pa_cons (pv 2) pa_nil)) pe_int) pe_int)) (pe_op op_mul (pe_op op_mul pe_int (pv 3)) (pv 3))) pe_int) (pgn 4 sc_z_pick.nd))
      (pss_cons (ps_asg (pe_op op_mod (pe_callTy call_intI (by rfl) (Z.free "int") (by decide +kernel) (pa_cons (pv 4) pa_nil)) pe_int) (pg_sub (pv 0) pe_int set_list))
      (pss_cons (ps_if (pt_cmpR op_gt (pe_ix ix_list (pv 0) pe_int (fun _ _ => rfl)) pe_int (nomark _)) (pss_cons (ps_asg (pe_op op_mod (pe_callTy call_intI (by rfl) (Z.free "int") (by decide +kernel) (pa_cons (pe_ix ix_list (pv 0) pe_int (fun _ _ => rfl)) pa_nil)) (pv 1)) (pgn 5 sc_z_pick.nd))
      (pss_cons (ps_asg (pe_op op_fdiv (pe_callTy call_intI (by rfl) (Z.free "int") (by decide +kernel) (pa_cons (pe_ix ix_list (pv 0) pe_int (fun _ _ => rfl)) pa_nil)) (pv 1)) (pg_sub (pv 0) pe_int set_list))
      (pss_one (ps_ret (pv 5))))) pss_nil)
      (pss_one (ps_ret (pe_op op_mod (pe_callTy call_intI (by rfl) (Z.free "int") (by decide +kernel) (pa_cons (pe_op op_fdiv (pe_ix ix_list (pv 0) pe_int (fun _ _ => rfl)) pe_int) pa_nil)) (pv 1))))))))), ?_⟩)
  · obtain ⟨p, m, t, rfl, _⟩ := h
    rfl
  · obtain ⟨p, m, t, rfl, h1, h2, ⟨d, s0, hp, d0, s1, s2, t0⟩, t1, k⟩ := h
    have hpl := SqL.of (K := K) hp
    walk_at "vc"
    refine s_rI (by decide) ?_
    walk_at "vc"
    refine s_rI (.inl ⟨by omega, by omega⟩) ?_
    walk_at "vc"
    refine s_rI (.inl ⟨by decide, by decide⟩) ?_
    walk_at "vc"
    refine s_rI (.inr ⟨by omega, by omega⟩) ?_
    walk_at "vc"
    refine s_rI (by decide) ?_
    walk_at "vc"
    generalize s0 * (s0 % 30059 + 20011) + 60013 * (t + 1) * (t + 1) + 7 = mx
    have m0 := Int.emod_nonneg mx (show (2147483549 : Int) ≠ 0 by decide)
    have m1 := Int.emod_lt_of_pos mx (show (0 : Int) < 2147483549 by decide)
    generalize mx % 2147483549 = s3 at *
    by_cases c : 0 < d
    · refine iteT_of (decide_eq_true c) ?_
      walk_at "vc"
      refine s_rI (by omega) ?_
      walk_at "vc"
      refine s_rI ⟨by omega, by omega⟩ ?_
      walk_at "vc"
      refine k _ _ (Int.emod_nonneg _ (by omega)) (Int.emod_lt_of_pos _ (by omega)) ?_ ⟨d / m, s3, upd_same, Int.ediv_nonneg (by omega) (by omega), m0, m1, by omega⟩
      rw [hid_upd (by simp), hid_upd (by simp), hid_upd (by simp)]
      exact Evl.Ex.refl _
    · refine iteF_of (decide_eq_false c) ?_
      walk_at "vc"
      refine s_rI ⟨by decide, by decide⟩ ?_
      walk_at "vc"
      refine s_rI (by omega) ?_
      walk_at "vc"
      refine k _ _ (Int.emod_nonneg _ (by omega)) (Int.emod_lt_of_pos _ (by omega)) ?_ ⟨d, s3, upd_same, d0, m0, m1, by omega⟩
      rw [hid_upd (by simp), hid_upd (by simp)]
      exact Evl.Ex.refl _
/-! ### spot, step, line -/
theorem PurseAt.lst {H : Hp} {p : Addr} {t : Int} (h : PurseAt H p t) : ∃ xs, H p = some (.lst xs) := let ⟨d, s, h1, _⟩ := h; ⟨_, h1⟩
theorem letter_at {x : Int} (h0 : 0 ≤ x) (h1 : x < 26) : atI ("abcdefghijklmnopqrstuvwxyz" : Str).cps.toList x = some (x.toNat + 97) := by
  have q : ((List.range 26).all fun k => decide (atI ("abcdefghijklmnopqrstuvwxyz" : Str).cps.toList (k : Int) = some (k + 97))) = true := by decide +kernel
  have z := List.all_eq_true.mp q x.toNat (List.mem_range.mpr (by omega))
  rw [show ((x.toNat : Nat) : Int) = x by omega] at z
  exact of_decide_eq_true z
theorem eights_all : ((List.range 26).all fun k => decide (Txt.mul ⟨#[k + 97]⟩ 8 = (⟨Array.replicate 8 (k + 97)⟩ : Str))) = true := by decide +kernel
def spSpot : Sp := fun vs H Q _ => ∃ (p : Addr) (t : Int), vs = [.ref p] ∧ PurseAt H p t ∧ t < 2 ^ 59 ∧ ∀ z H', Spot z → Ex (hid [p] H) (hid [p] H') → PurseAt H' p (t + 2) → Q (.str z) H'
theorem sc_z_spot : FnScope ["_law_purse_here", "_law_letter"] ["_law_purse_here"] (defScope s_z_spot) := ⟨rfl, rfl, rfl, by decide +kernel, rfl, by decide +kernel, by decide +kernel⟩
theorem D_z_spot (Z : Zf K mg) : Df P w K mg base "_law_spot" (2) ["_law_purse_here"] spSpot := by
  refine def_ok Z 53 rfl (by decide +kernel) sc_z_spot (fun _ _ _ _ _ _ us hl => match us, hl with | [_], _ => rfl) (fun vs H Q E h => ?_) (fun f cdv A outer s H vs Q E hr h => ⟨_, (pss_cons (ps_asg (pe_ix ix_str pe_str (pe_callD (D_z_pick Z) hr (by omega) rfl (pa_cons (pv 0) (pa_cons pe_int pa_nil))) (fun _ _ => rfl)) (pgn 1 sc_z_spot.nd))
      (pss_one (ps_ret (pe_ifExp (pt_cmpR op_eq (pe_callD (D_z_pick Z) hr (by omega) rfl (pa_cons (pv 0) (pa_cons pe_int pa_nil))) pe_int (nomark _)) (pe_op op_mulS (pv 1) pe_int) (pv 1))))), ?_⟩)
  · obtain ⟨p, t, rfl, _⟩ := h
    rfl
  · obtain ⟨p, t, rfl, hp, t1, k⟩ := h
    walk_at "vc"
    refine ⟨p, 26, t, rfl, by decide, by decide, hp, by omega, fun x H1 x0 x1 e1 hp1 => ?_⟩
    refine s_ixS (by decide +kernel) (letter_at x0 x1) ?_
    walk_at "vc"
    refine ⟨p, 4, t + 1, rfl, by decide, by decide, hp1, by omega, fun y H2 y0 y1 e2 hp2 => ?_⟩
    walk_at "vc"
    have hp2' : PurseAt H2 p (t + 2) := by
      rw [show t + 2 = t + 1 + 1 by omega]
      exact hp2
    by_cases c : y = 0
    · refine iteT_of (decide_eq_true (by rw [c])) ?_
      walk_at "vc"
      have q := List.all_eq_true.mp eights_all x.toNat (List.mem_range.mpr (by omega))
      refine ⟨⟨by decide, fun _ _ => by show ¬ ((1 : Nat) : Int) > (2 ^ 63 - 1) / 8; decide, fun _ _ => by rfl⟩, ?_⟩
      rw [of_decide_eq_true q]
      exact k _ H2 (spot_many (by omega) (by omega)) (Evl.Ex.trans e1 e2) hp2'
    · refine iteF_of (decide_eq_false fun e => c (V.int.inj e)) ?_
      walk_at "vc"
      exact k _ H2 (spot_one (by omega) (by omega)) (Evl.Ex.trans e1 e2) hp2'
/-! ### a line's row -/
def RwLn (H : Hp) (v : V) (l : Ln) : Prop := ∃ p : Addr, v = .ref p ∧ H p = some (.lst [.str "line", .int (l.kind : Int), .str (lineT (lw l)), .int l.byn])
theorem RwLn.mono {H H' : Hp} (e : Ex H H') {v : V} {l : Ln} (h : RwLn H v l) : RwLn H' v l := let ⟨p, a, b⟩ := h; ⟨p, a, e _ _ b⟩
theorem lineT_eq (ws : List Str) : lineT ws = Str.join " " ws := join_eq " " ws
theorem txt_copy (x y : Str) : x ++ (" = " : Str) ++ y = lineT [x, "=", y] := by
  rw [lineT_eq]
  refine ext_tl ?_
  show tl (x ++ " = " ++ y) = tl (x ++ " " ++ ("=" ++ " " ++ y))
  simp only [tl_append]
  rw [show tl " = " = tl " " ++ (tl "=" ++ tl " ") by decide +kernel]
  simp
theorem txt_load (x a n : Str) : x ++ (" = load " : Str) ++ (a ++ (" " : Str) ++ n) = lineT [x, "=", "load", a, n] := by
  rw [lineT_eq]
  refine ext_tl ?_
  show tl (x ++ " = load " ++ (a ++ " " ++ n)) = tl (x ++ " " ++ ("=" ++ " " ++ ("load" ++ " " ++ (a ++ " " ++ n))))
  simp only [tl_append]
  rw [show tl " = load " = tl " " ++ (tl "=" ++ (tl " " ++ (tl "load" ++ tl " "))) by decide +kernel]
  simp
theorem txt_store (x a n : Str) : ("store " : Str) ++ (a ++ (" " : Str) ++ n) ++ (" " : Str) ++ x = lineT ["store", a, n, x] := by
  rw [lineT_eq]
  refine ext_tl ?_
  show tl ("store " ++ (a ++ " " ++ n) ++ " " ++ x) = tl ("store" ++ " " ++ (a ++ " " ++ (n ++ " " ++ x)))
  simp only [tl_append]
  rw [show tl "store " = tl "store" ++ tl " " by decide +kernel]
  simp
theorem txt_two (w n : Str) : w ++ (" " : Str) ++ n = lineT [w, n] := by
  rw [lineT_eq]
  rfl
theorem txt_step (n : Str) : ("step " : Str) ++ n = lineT ["step", n] := by
  rw [← txt_two]
  refine ext_tl ?_
  simp only [tl_append]
  rw [show tl "step " = tl "step" ++ tl " " by decide +kernel]
end
theorem log_small {i : Int} (h : i.natAbs < 2 ^ 1000) : i.natAbs.log2 < 1920 := by
  by_cases c : i.natAbs = 0
  · rw [c]; decide
  · exact (Nat.log2_lt c).mpr (Nat.lt_of_lt_of_le h (Nat.pow_le_pow_right (by decide) (by decide)))
theorem log_tiny {i : Int} (h1 : -1000000 ≤ i) (h2 : i ≤ 1000000) : i.natAbs.log2 < 1920 := log_small (Nat.lt_of_le_of_lt (show i.natAbs ≤ 1000000 by omega) (Nat.lt_of_lt_of_le (show 1000000 < 2 ^ 20 by decide) (Nat.pow_le_pow_right (by decide) (by decide))))
section
variable {P : Program} {w : World} {K : PySem.W.Frag} {mg : Str → Option Value} {base : Heap}
/-- a new row of a line -/
def spRow (ok : Ln → Prop) (m : Int) : Sp := fun vs H Q _ => ∃ (p : Addr) (t : Int), vs = [.ref p] ∧ PurseAt H p t ∧ t + m < 2 ^ 58 ∧ ∀ v l t' H', LnOk l → ok l → Ex (hid [p] H) (hid [p] H') → RwLn (nw H H') v l → PurseAt H' p t' → t' ≤ t + m → Q v H'
def isStep (l : Ln) : Prop := ∃ n, l = .step n
theorem sc_z_step : FnScope ["_law_purse_here", "_law_by"] ["_law_purse_here"] (defScope s_z_step) := ⟨rfl, rfl, rfl, by decide +kernel, rfl, by decide +kernel, by decide +kernel⟩
theorem D_z_step (Z : Zf K mg) : Df P w K mg base "_law_step" (2) ["_law_purse_here"] (spRow isStep 1) := by
  refine def_ok Z 55 rfl (by decide +kernel) sc_z_step (fun _ _ _ _ _ _ us hl => match us, hl with | [_], _ => rfl) (fun vs H Q E h => ?_) (fun f cdv A outer s H vs Q E hr h => ⟨_, (pss_cons (ps_asg (pe_op op_add pe_int (pe_callD (D_z_pick Z) hr (by omega) rfl (pa_cons (pv 0) (pa_cons pe_int pa_nil)))) (pgn 1 sc_z_step.nd))
      (pss_one (ps_ret (pe_lst (pa_cons pe_str (pa_cons pe_int (pa_cons (pe_op op_add_str pe_str (pe_callTy call_str_int (by rfl) (Z.free "str") (by decide +kernel) (pa_cons (pv 1) pa_nil))) (pa_cons (pv 1) pa_nil)))))))), ?_⟩)
  · obtain ⟨p, t, rfl, _⟩ := h
    rfl
  · obtain ⟨p, t, rfl, hp, t1, k⟩ := h
    walk_at "vc"
    refine ⟨p, 4, t, rfl, by decide, by decide, hp, by omega, fun x H1 x0 x1 e1 hp1 => ?_⟩
    walk_at "vc"
    refine ⟨log_tiny (by omega) (by omega), ?_⟩
    have wl1 := wd_len (num_wd (n := 1 + x) (by omega) (by omega))
    refine ⟨_, _, rfl, rfl, by show 5 + (num (1 + x)).length ≤ sizeLine; rw [sizeLine_eq]; omega, ?_⟩
    walk_at "vc"
    intro q hq
    have e2 : ("step " : Str) ++ (Str.ofString (toString (1 + x))) = lineT (lw (.step (1 + x))) := txt_step (num (1 + x))
    refine k (.ref q) (.step (1 + x)) (t + 1) _ ⟨by omega, by omega⟩ ⟨_, rfl⟩ (Evl.Ex.trans e1 (hid_mono (Evl.Ex.new hq))) ⟨q, rfl, ?_⟩ ?_ (Int.le_refl _)
    · obtain ⟨xs, hxs⟩ := hp1.lst
      have nq : H q = none := back_none e1 (fun a ha => by rw [List.mem_singleton.mp ha]; exact ⟨_, hxs⟩) hq
      refine nw_get nq (upd_same.trans ?_)
      rw [← e2]
      rfl
    · obtain ⟨d, s, h1, h2⟩ := hp1
      exact ⟨d, s, Evl.Ex.new hq _ _ h1, h2⟩
end
end Ov
/-! text OvL2 -/
set_option Elab.async false
set_option linter.all false
set_option maxRecDepth 100000
namespace Ov
open PySem PySem.Spec PyProof.Rows L2
open Rows TL
local macro_rules | `(tactic| walk_at "hp") => `(tactic| first
  | assumption
  | exact upd_same
  | (refine Evl.Ex.new (by assumption) _ _ ?_; walk_at "hp")
  | (refine (by assumption : Evl.Ex _ _) _ _ ?_; walk_at "hp"))
local macro_rules | `(tactic| walk_at "sq") => `(tactic| first
  | assumption
  | exact SqL.of (by walk_at "hp")
  | exact SqT.of (by walk_at "hp")
  | (refine Evl.ex_l (by assumption) ?_; walk_at "sq")
  | (refine Evl.ex_t (by assumption) ?_; walk_at "sq")
  | (refine Evl.ex_l (Evl.Ex.new (by assumption)) ?_; walk_at "sq")
  | (refine Evl.ex_t (Evl.Ex.new (by assumption)) ?_; walk_at "sq"))
local macro_rules | `(tactic| walk_at "ex") => `(tactic| first
  | assumption
  | exact Evl.Ex.refl _
  | (refine Evl.Ex.trans ?_ (Evl.Ex.new (by assumption)); walk_at "ex")
  | (refine Evl.Ex.trans ?_ (by assumption); walk_at "ex"))
local macro_rules | `(tactic| walk_at "s1") => `(tactic| first
  | refine ⟨_, rfl, ?_⟩
  | refine ⟨rfl, ?_⟩
  | refine ⟨_, _, rfl, rfl, ?_⟩
  | refine ⟨_, _, _, rfl, rfl, ?_⟩)
local macro_rules | `(tactic| walk_at "st") => `(tactic| repeat walk_at "s1")
local macro_rules | `(tactic| walk_at "v1") => `(tactic| first
  | ((with_reducible refine' s_var ?vch ?_); (case vch => exact rfl))
  | with_reducible refine' s_c ?_
  | with_reducible refine' s_seq ?_
  | with_reducible refine' s_asg ?_
  | with_reducible refine' s_name ?_
  | with_reducible refine' s_cons ?_
  | with_reducible refine' s_nil ?_
  | with_reducible refine' s_op ?_
  | with_reducible refine' s_rI0 ?_
  | with_reducible refine' s_ret ?_
  | with_reducible refine' s_test ?_
  | with_reducible refine' s_ifS ?_
  | with_reducible refine' s_call ?_
  | with_reducible refine' s_cb ?_
  | ((with_reducible refine' s_rEq ?vch ?_); (case vch => exact rfl))
  | ((with_reducible refine' s_rNe ?vch ?_); (case vch => exact rfl))
  | ((with_reducible refine' s_ixT ?vch ?vca ?_); (case vch => walk_at "sq"); (case vca => first | exact rfl | exact at_nat 0 rfl | exact at_nat 1 rfl | exact at_nat 2 rfl | exact at_nat 3 rfl | exact at_nat 4 rfl))
  | ((with_reducible refine' s_ixL ?vch ?vca ?_); (case vch => walk_at "sq"); (case vca => first | exact rfl | exact at_nat 0 rfl | exact at_nat 1 rfl | exact at_nat 2 rfl | exact at_nat 3 rfl | exact at_nat 4 rfl))
  | with_reducible refine iteT' ?_
  | with_reducible refine iteF' ?_
  | with_reducible refine' ex_bl ?_
  | with_reducible refine' ex_int ?_
  | with_reducible refine' ex_str ?_
  | with_reducible refine' ex_int1 ?_
  | with_reducible refine' ex_str1 ?_
  | with_reducible refine' ex_int2 ?_
  | with_reducible refine' ex_pair ?_
  | with_reducible refine' s_un ?_
  | with_reducible refine' s_B ?_
  | with_reducible refine' s_andV ?_
  | with_reducible refine' s_orV ?_
  | with_reducible refine' s_notV ?_
  | with_reducible refine' s_and ?_
  | with_reducible refine' s_or ?_
  | with_reducible refine' s_not ?_
  | with_reducible refine' s_if ?_
  | with_reducible refine' s_chain ?_
  | with_reducible refine' s_next ?_
  | with_reducible refine' s_break ?_
  | with_reducible refine' s_cont ?_
  | with_reducible refine' s_drop ?_
  | with_reducible refine' s_retN ?_
  | with_reducible refine' s_par ?_
  | ((with_reducible refine' s_aug ?vch ?_); (case vch => exact rfl))
  | with_reducible refine' s_ip ?_
  | with_reducible refine' s_gcons ?_
  | with_reducible refine' s_gnil ?_
  | ((with_reducible refine' s_gtup ?vch ?vca ?_); (case vch => walk_at "sq"); (case vca => exact rfl))
  | with_reducible refine' s_tup ?_
  | with_reducible refine' s_lst ?_
  | with_reducible refine' s_sl ?_
  | with_reducible refine' s_part ?_
  | with_reducible refine' s_nopart ?_
  | with_reducible refine' s_fld ?_
  | with_reducible refine' s_make ?_
  | with_reducible refine' s_meth ?_
  | with_reducible refine' s_prop ?_
  | with_reducible refine' s_makeK ?_
  | with_reducible refine' s_gsub ?_
  | ((with_reducible refine' s_setL ?vch ?vca ?_); (case vch => walk_at "hp"); (case vca => exact rfl))
  | with_reducible refine' s_par3 ?_
  | with_reducible refine' ex_three ?_
  | with_reducible refine' s_star ?_
  | with_reducible refine' s_dnewK ?_
  | with_reducible refine' s_dsetd ?_
  | with_reducible refine' s_methR ?_
  | with_reducible refine' s_fldaug ?_
  | with_reducible refine' s_dictzip ?_
  | with_reducible refine' s_sfld ?_
  | with_reducible refine' s_bm ?_
  | with_reducible refine' s_bm0 ?_
  | with_reducible refine' s_m1 ?_
  | with_reducible refine' s_dget ?_
  | with_reducible refine' s_lc ?_
  | with_reducible refine' s_for ?_
  | with_reducible refine' s_iList ?_
  | with_reducible refine' s_iTup ?_
  | with_reducible refine' s_iStr ?_
  | with_reducible refine' s_iRng1 ?_
  | with_reducible refine' s_iRng2 ?_
  | with_reducible refine' s_yes ?_
  | with_reducible refine' s_rU ?_
  | ((with_reducible refine' s_isiP ?vch ?_); (case vch => exact rfl))
  | ((with_reducible refine' ex_lenL ?vch ?_); (case vch => walk_at "sq"))
  | ((with_reducible refine' ex_lenT ?vch ?_); (case vch => walk_at "sq"))
  | ((with_reducible refine' ex_tupL ?vch ?_); (case vch => walk_at "sq"))
  | ((with_reducible refine' ex_lstT ?vch ?_); (case vch => walk_at "sq"))
  | ((with_reducible refine' ex_srcL ?vch ?_); (case vch => walk_at "sq"))
  | ((with_reducible refine' ex_srcT ?vch ?_); (case vch => walk_at "sq"))
  | ((with_reducible refine' s_mk ?vch ?_); (case vch => exact small_le (Nat.le_of_ble_eq_true rfl)))
  | with_reducible refine' ⟨_, _, rfl, rfl, ?_⟩
  | with_reducible refine' ⟨⟨_, rfl⟩, ?_⟩
  | with_reducible refine' ⟨rfl, ?_⟩
  | ((with_reducible refine' iteT_of ?vch ?_); (case vch => exact rfl))
  | ((with_reducible refine' iteF_of ?vch ?_); (case vch => exact rfl)))
local macro_rules | `(tactic| walk_at "vc") => `(tactic| repeat walk_at "v1")
theorem cap_at {x : Int} (h0 : 0 ≤ x) (h1 : x < 26) : atI ("ABCDEFGHIJKLMNOPQRSTUVWXYZ" : Str).cps.toList x = some (x.toNat + 65) := by
  have q : ((List.range 26).all fun k => decide (atI ("ABCDEFGHIJKLMNOPQRSTUVWXYZ" : Str).cps.toList (k : Int) = some (k + 65))) = true := by decide +kernel
  have z := List.all_eq_true.mp q x.toNat (List.mem_range.mpr (by omega))
  rw [show ((x.toNat : Nat) : Int) = x by omega] at z
  exact of_decide_eq_true z
theorem back_at {x : Int} (h0 : 0 ≤ x) (h1 : x < 26) : atI ("zyxwvutsrqponmlkjihgfedcba" : Str).cps.toList x = some (122 - x.toNat) := by
  have q : ((List.range 26).all fun k => decide (atI ("zyxwvutsrqponmlkjihgfedcba" : Str).cps.toList (k : Int) = some (122 - k))) = true := by decide +kernel
  have z := List.all_eq_true.mp q x.toNat (List.mem_range.mpr (by omega))
  rw [show ((x.toNat : Nat) : Int) = x by omega] at z
  exact of_decide_eq_true z
theorem strs_made {H : Hp} {n : Nat} {ys : List V} (h : Made (fun _ => true) (fun _ v _ => ∃ z, Spot z ∧ v = V.str z) n ys H) : ∃ zs : List Str, ys = zs.map V.str ∧ zs.length = n ∧ ∀ z ∈ zs, Spot z := by
  have hl := (Made.all h).1
  have hq := Made.each h
  clear h
  subst hl
  induction ys with
  | nil => exact ⟨[], rfl, rfl, fun z hz => nomatch hz⟩
  | cons y ys ih =>
    obtain ⟨zs, e, hz, hs⟩ := ih fun y hy => hq y (List.mem_cons_of_mem _ hy)
    obtain ⟨_, z, sz, rfl⟩ := hq y List.mem_cons_self
    refine ⟨z :: zs, by rw [e]; rfl, by rw [List.length_cons, List.length_cons, hz], fun u hu => ?_⟩
    rcases List.mem_cons.mp hu with rfl | hu
    · exact sz
    · exact hs u hu
theorem PurseAt.new {H : Hp} {p D : Addr} {t : Int} {o : HO} (h : PurseAt H p t) (ne : p ≠ D) : PurseAt (upd H D o) p t := let ⟨d, s, h1, h2⟩ := h; ⟨d, s, (upd_ne ne).trans h1, h2⟩
theorem PurseAt.all {H : Hp} {p : Addr} {t : Int} (h : PurseAt H p t) : All [p] H := fun a m => by
  obtain ⟨xs, hx⟩ := h.lst
  rw [List.mem_singleton.mp m]
  exact ⟨_, hx⟩
theorem PurseAt.neNew {H : Hp} {p D : Addr} {t : Int} (h : PurseAt H p t) (hD : H D = none) : p ≠ D := by
  obtain ⟨xs, hx⟩ := h.lst
  exact ne_of_none hx hD
theorem ex_nw_self {H1 H2 : Hp} : Ex (nw H1 H2) H2 := ex_nw
section
variable {P : Program} {w : World} {K : PySem.W.Frag} {mg : Str → Option Value} {base : Heap}
/-- the row made last -/
theorem row_last {H H5 : Hp} {p q : Addr} {t t5 : Int} {l : Ln} {Qf : VK} {ok : Ln → Prop} {m : Int} {xs : List V} (k : ∀ v l t' H', LnOk l → ok l → Ex (hid [p] H) (hid [p] H') → RwLn (nw H H') v l → PurseAt H' p t' → t' ≤ t + m → Qf v H') (hl : LnOk l) (ho : ok l) (e : Ex (hid [p] H) (hid [p] H5)) (hp : PurseAt H5 p t5) (ht : t5 ≤ t + m) (hq : H5 q = none)
    (hx : xs = [.str "line", .int (l.kind : Int), .str (lineT (lw l)), .int l.byn]) : Qf (.ref q) (upd H5 q (.lst xs)) := by
  subst hx
  exact k (.ref q) l t5 _ hl ho (Evl.Ex.trans e (hid_mono (Evl.Ex.new hq))) ⟨q, rfl, nw_get (back_none e hp.all hq) upd_same⟩ (hp.new (hp.neNew hq)) ht
theorem sc_z_line : FnScope ["_law_purse_here", "_law_way", "_law_spot_here", "_law_cell", "_law_at", "_law_row", "_law_k"] ["_law_purse_here"] (defScope s_z_line) := ⟨rfl, rfl, rfl, by decide +kernel, rfl, by decide +kernel, by decide +kernel⟩
theorem D_z_line (Z : Zf K mg) : Df P w K mg base "_law_line" (3) ["_law_purse_here"] (spRow (fun _ => True) 12) := by
  refine def_ok Z 54 rfl (by decide +kernel) sc_z_line (fun _ _ _ _ _ _ us hl => match us, hl with | [_], _ => rfl) (fun vs H Q E h => ?_) (fun f cdv A outer s H vs Q E hr h => ⟨_, (pss_cons (ps_par (i := 1) (j := 2) (by rfl) sc_z_line.nd rfl rfl (by decide) rfl rfl (pa_cons (pe_callD (D_z_pick Z) hr (by omega) rfl (pa_cons (pv 0) (pa_cons pe_int pa_nil))) (pa_cons (pe_callD (D_z_spot Z) hr (by omega) rfl (pa_cons (pv 0) pa_nil)) pa_nil)) (by rfl))
      (pss_cons (ps_asg (pe_op op_add_str (pe_op op_add_str (pe_ix ix_str pe_str (pe_callD (D_z_pick Z) hr (by omega) rfl (pa_cons (pv 0) (pa_cons pe_int pa_nil))) (fun _ _ => rfl)) pe_str) (pe_callTy call_str_int (by rfl) (Z.free "str") (by decide +kernel) (pa_cons (pe_op op_sub (pe_callD (D_z_pick Z) hr (by omega) rfl (pa_cons (pv 0) (pa_cons pe_int pa_nil))) pe_int) pa_nil))) (pgn 3 sc_z_line.nd))
      (pss_cons (ps_if (pt_cmpR op_eq (pv 1) pe_int (nomark _)) (pss_cons (ps_asg (pe_callD (D_z_pick Z) hr (by omega) rfl (pa_cons (pv 0) (pa_cons pe_int pa_nil))) (pgn 4 sc_z_line.nd))
      (pss_cons (ps_setLc (i := 5) (own := [("_law_k", 6)]) (g := gName 6) (tt := tYes) rfl sc_z_line.nd rfl rfl (sw_true rfl rfl rfl (by decide +kernel)) (pi_range1 rfl (Z.free "range") (pa_cons (pe_op op_add pe_int (pe_op op_fdiv (pv 4) pe_int)) pa_nil)) (blkOk_by (own := [("_law_k", 6)]) (N := ["_law_purse_here", "_law_way", "_law_spot_here", "_law_cell", "_law_at", "_law_row", "_law_k"]) (sc := defScope s_z_line) (by decide +kernel)) (fun _ _ _ _ _ => (pgn 6 sc_z_line.nd)) (fun _ _ _ _ _ => pts_nil) (fun _ _ _ _ _ => (pe_callD (D_z_spot Z) hr (by omega) rfl (pa_cons (pv 0) pa_nil))))
      (pss_one (ps_ret (pe_lst (pa_cons pe_str (pa_cons pe_int (pa_cons (pe_join pe_str (pe_op op_cat (pe_lst (pa_cons (pv 2) (pa_cons pe_str (pa_cons (pe_ix ix_str pe_str (pv 4) (fun _ _ => rfl)) pa_nil)))) (pv 5))) (pa_cons pe_int pa_nil))))))))) pss_nil)
      (pss_cons (ps_if (pt_cmpR op_eq (pv 1) pe_int (nomark _)) (pss_one (ps_ret (pe_lst (pa_cons pe_str (pa_cons pe_int (pa_cons (pe_op op_add_str (pe_op op_add_str (pv 2) pe_str) (pv 3)) (pa_cons pe_int pa_nil))))))) pss_nil)
      (pss_cons (ps_if (pt_cmpR op_eq (pv 1) pe_int (nomark _)) (pss_one (ps_ret (pe_lst (pa_cons pe_str (pa_cons pe_int (pa_cons (pe_op op_add_str (pe_op op_add_str (pe_op op_add_str pe_str (pv 3)) pe_str) (pv 2)) (pa_cons pe_int pa_nil))))))) pss_nil)
      (pss_one (ps_ret (pe_ifExp (pt_cmpR op_eq (pv 1) pe_int (nomark _)) (pe_lst (pa_cons pe_str (pa_cons pe_int (pa_cons (pe_op op_add_str (pe_op op_add_str (pv 2) pe_str) (pe_callD (D_z_spot Z) hr (by omega) rfl (pa_cons (pv 0) pa_nil))) (pa_cons pe_int pa_nil))))) (pe_callD (D_z_step Z) hr (by omega) rfl (pa_cons (pv 0) pa_nil)))))))))), ?_⟩)
  · obtain ⟨p, t, rfl, _⟩ := h
    rfl
  · obtain ⟨p, t, rfl, hp, t1, k⟩ := h
    walk_at "vc"
    refine ⟨p, 5, t, rfl, by decide, by decide, hp, by omega, fun way H1 w0 w1 e1 hp1 => ?_⟩
    walk_at "vc"
    refine ⟨p, t + 1, rfl, hp1, by omega, fun x H2 sx e2 hp2 => ?_⟩
    walk_at "vc"
    refine ⟨p, 26, t + 1 + 2, rfl, by decide, by decide, hp2, by omega, fun c H3 c0 c1 e3 hp3 => ?_⟩
    refine s_ixS (by decide +kernel) (cap_at c0 c1) ?_
    walk_at "vc"
    refine ⟨p, 9, _, rfl, by decide, by decide, hp3, by omega, fun o H4 o0 o1 e4 hp4 => ?_⟩
    walk_at "vc"
    refine ⟨log_tiny (by omega) (by omega), ?_⟩
    have hon := wd_len (num_wd (n := o - 4) (by omega) (by omega))
    have hcap : (⟨#[c.toNat + 65]⟩ ++ (" " : Str)).length = 2 := rfl
    refine ⟨_, _, rfl, rfl, by rw [hcap]; show 2 + (num (o - 4)).length ≤ sizeLine; rw [sizeLine_eq]; omega, ?_⟩
    walk_at "vc"
    have e14 : Ex (hid [p] H) (hid [p] H4) := Evl.Ex.trans e1 (Evl.Ex.trans e2 (Evl.Ex.trans e3 e4))
    have hxl := wd_len sx.facts.2.1
    have ap : ∀ a b : Str, (a ++ b).length = a.length + b.length := fun a b => by rw [len_tl, len_tl, len_tl, tl_append, List.length_append]
    have hcl : ((⟨#[c.toNat + 65]⟩ : Str) ++ (" " : Str) ++ Str.ofString (toString (o - 4))).length ≤ 62 := by
      rw [ap, hcap]
      show 2 + (num (o - 4)).length ≤ 62
      omega
    have l8 : ((" = load " : Str)).length = 8 := by decide +kernel
    have l6 : (("store " : Str)).length = 6 := by decide +kernel
    have l1 : ((" " : Str)).length = 1 := by decide +kernel
    have l3 : ((" = " : Str)).length = 3 := by decide +kernel
    by_cases cw : way = 0
    · refine iteT_of (decide_eq_true (by rw [cw])) ?_
      walk_at "vc"
      refine ⟨p, 26, _, rfl, by decide, by decide, hp4, by omega, fun at_ H5 a0 a1 e5 hp5 => ?_⟩
      walk_at "vc"
      refine s_rI ⟨by decide, by decide⟩ ?_
      walk_at "vc"
      have d0 : 0 ≤ at_ / 9 := Int.ediv_nonneg (by omega) (by decide)
      have d1 : at_ / 9 ≤ 2 := by omega
      refine ⟨by omega, by omega, ?_⟩
      have e15 := Evl.Ex.trans e14 e5
      refine lc_exH walk_range (j := 6) (fun i => V.int (0 + (i : Int))) [p] (fun i H => PurseAt H p (t + 1 + 2 + 1 + 1 + 1 + 2 * (i : Int))) (fun _ v _ => ∃ z, Spot z ∧ v = V.str z) (fun _ _ _ _ _ h => h) (fun i H h => h.all) (fun i H D o hD h => h.new ?_) (by rw [show t + 1 + 2 + 1 + 1 + 1 + 2 * ((0 : Nat) : Int) = t + 1 + 2 + 1 + 1 + 1 by omega]; exact hp5) (fun i H x H' _ h => h) (fun _ _ => trivial) (by omega) (fun _ => rfl) ?_ ?_
      · obtain ⟨xs, hx⟩ := hp5.lst
        exact ne_of_none hx hD
      · intro i H6 hi e6 hp6 Q1 k1
        walk_at "vc"
        refine ⟨p, _, rfl, hp6, by omega, fun z H7 sz e7 hp7 => ?_⟩
        refine k1 _ _ e7 ?_ ⟨z, sz, rfl⟩
        rw [show t + 1 + 2 + 1 + 1 + 1 + 2 * ((i + 1 : Nat) : Int) = t + 1 + 2 + 1 + 1 + 1 + 2 * (i : Int) + 2 by omega]
        exact hp7
      intro D ysD H6 hD e6 hp6 hyD hm
      obtain ⟨zs, rfl, hzl, hzs⟩ := strs_made hm
      walk_at "vc"
      refine s_ixS (by decide +kernel) (back_at a0 a1) ?_
      walk_at "vc"
      intro p7 hp7
      walk_at "vc"
      have e7 := Evl.Ex.new (o := .lst [.str x, .str "=", .str ⟨#[122 - at_.toNat]⟩]) hp7
      refine ⟨p7, D, _, _, rfl, rfl, upd_same, e7 _ _ hyD, by rw [List.length_map, sizeLine_eq, hzl]; simp only [List.length_cons, List.length_nil]; omega, fun p8 hp8 => ?_⟩
      walk_at "vc"
      have hn3 : zs.length = 1 + (at_.toNat) / 9 := by rw [hzl]; omega
      have hok : LnOk (.work x ⟨#[122 - at_.toNat]⟩ zs) := ⟨sx, ⟨122 - at_.toNat, by omega, by omega, rfl, by rw [hn3, show 122 - (122 - at_.toNat) = at_.toNat by omega]⟩, hzs⟩
      have hlk := lw_ok hok
      refine ⟨" ", p8, lw (.work x ⟨#[122 - at_.toNat]⟩ zs), rfl, rfl, .inl (SqL.of ?_), ?_, ?_⟩
      · refine upd_same.trans ?_
        simp [lw]
      · have q1 : ((lw (.work x ⟨#[122 - at_.toNat]⟩ zs)).map (·.length)).sum ≤ (lw (.work x ⟨#[122 - at_.toNat]⟩ zs)).length * 60 := by
          have hw := hlk.2.2
          generalize lw (.work x ⟨#[122 - at_.toNat]⟩ zs) = ws at hw
          induction ws with
          | nil => simp
          | cons a b ih =>
            have h1 := wd_len (hw a List.mem_cons_self)
            have h2 := ih fun z hz => hw z (List.mem_cons_of_mem _ hz)
            simp only [List.map_cons, List.sum_cons, List.length_cons]
            rw [Nat.succ_mul]
            omega
        have q2 := hlk.2.1
        rw [l1]
        omega
      walk_at "vc"
      intro p9 hp9
      have e8 := Evl.Ex.new (o := .lst ([.str x, .str "=", .str ⟨#[122 - at_.toNat]⟩] ++ zs.map V.str)) hp8
      have hp8' := (hp6.new (o := .lst [.str x, .str "=", .str ⟨#[122 - at_.toNat]⟩]) (hp6.neNew hp7))
      have hp9' := hp8'.new (o := .lst ([.str x, .str "=", .str ⟨#[122 - at_.toNat]⟩] ++ zs.map V.str)) (hp8'.neNew hp8)
      exact row_last k hok trivial (Evl.Ex.trans e15 (Evl.Ex.trans e6 (hid_mono (Evl.Ex.trans e7 e8)))) hp9' (by omega) hp9 rfl
    · refine iteF_of (decide_eq_false fun e => cw (V.int.inj e)) ?_
      walk_at "vc"
      by_cases cw1 : way = 1
      · refine iteT_of (decide_eq_true (by rw [cw1])) ?_
        walk_at "vc"
        refine ⟨by rw [l8, sizeLine_eq]; omega, ?_⟩
        walk_at "vc"
        refine ⟨by rw [ap, l8, sizeLine_eq]; omega, ?_⟩
        walk_at "vc"
        intro p9 hp9
        exact row_last k (l := .load x ⟨#[c.toNat + 65]⟩ (o - 4)) ⟨sx, ⟨c.toNat + 65, by omega, by omega, rfl⟩, by omega, by omega⟩ trivial e14 hp4 (by omega) hp9 (by rw [txt_load]; rfl)
      · refine iteF_of (decide_eq_false fun e => cw1 (V.int.inj e)) ?_
        walk_at "vc"
        by_cases cw2 : way = 2
        · refine iteT_of (decide_eq_true (by rw [cw2])) ?_
          walk_at "vc"
          refine ⟨by rw [l6, sizeLine_eq]; omega, ?_⟩
          walk_at "vc"
          refine ⟨by rw [ap, l6, l1, sizeLine_eq]; omega, ?_⟩
          walk_at "vc"
          refine ⟨by rw [ap, ap, l6, l1, sizeLine_eq]; omega, ?_⟩
          walk_at "vc"
          intro p9 hp9
          exact row_last k (l := .store ⟨#[c.toNat + 65]⟩ (o - 4) x) ⟨sx, ⟨c.toNat + 65, by omega, by omega, rfl⟩, by omega, by omega⟩ trivial e14 hp4 (by omega) hp9 (by rw [txt_store]; rfl)
        · refine iteF_of (decide_eq_false fun e => cw2 (V.int.inj e)) ?_
          walk_at "vc"
          by_cases cw3 : way = 3
          · refine iteT_of (decide_eq_true (by rw [cw3])) ?_
            walk_at "vc"
            refine ⟨by rw [l3, sizeLine_eq]; omega, ?_⟩
            walk_at "vc"
            refine ⟨p, _, rfl, hp4, by omega, fun y H5 sy e5 hp5 => ?_⟩
            have hyl := wd_len sy.facts.2.1
            refine ⟨_, _, rfl, rfl, by rw [ap, l3, sizeLine_eq]; omega, ?_⟩
            walk_at "vc"
            intro p9 hp9
            exact row_last k (l := .copy x y) ⟨sx, sy⟩ trivial (Evl.Ex.trans e14 e5) hp5 (by omega) hp9 (by rw [txt_copy]; rfl)
          · refine iteF_of (decide_eq_false fun e => cw3 (V.int.inj e)) ?_
            walk_at "vc"
            refine ⟨p, t + 1 + 2 + 1 + 1, rfl, hp4, by omega, fun v l t' H5 hl _ e5 hv hp5 ht => ?_⟩
            exact k v l t' H5 hl trivial (Evl.Ex.trans e14 e5) (hv.mono (nw_in e14 hp4.all ex_nw_self)) hp5 (by omega)
end
end Ov
/-! text OvL3 -/
set_option Elab.async false
set_option linter.all false
set_option maxRecDepth 100000
namespace Ov
open PySem PySem.Spec PyProof.Rows L2
open Rows TL
local macro_rules | `(tactic| walk_at "hp") => `(tactic| first
  | assumption
  | exact upd_same
  | (refine Evl.Ex.new (by assumption) _ _ ?_; walk_at "hp")
  | (refine (by assumption : Evl.Ex _ _) _ _ ?_; walk_at "hp"))
local macro_rules | `(tactic| walk_at "sq") => `(tactic| first
  | assumption
  | exact SqL.of (by walk_at "hp")
  | exact SqT.of (by walk_at "hp")
  | (refine Evl.ex_l (by assumption) ?_; walk_at "sq")
  | (refine Evl.ex_t (by assumption) ?_; walk_at "sq")
  | (refine Evl.ex_l (Evl.Ex.new (by assumption)) ?_; walk_at "sq")
  | (refine Evl.ex_t (Evl.Ex.new (by assumption)) ?_; walk_at "sq"))
local macro_rules | `(tactic| walk_at "ex") => `(tactic| first
  | assumption
  | exact Evl.Ex.refl _
  | (refine Evl.Ex.trans ?_ (Evl.Ex.new (by assumption)); walk_at "ex")
  | (refine Evl.Ex.trans ?_ (by assumption); walk_at "ex"))
local macro_rules | `(tactic| walk_at "s1") => `(tactic| first
  | refine ⟨_, rfl, ?_⟩
  | refine ⟨rfl, ?_⟩
  | refine ⟨_, _, rfl, rfl, ?_⟩
  | refine ⟨_, _, _, rfl, rfl, ?_⟩)
local macro_rules | `(tactic| walk_at "st") => `(tactic| repeat walk_at "s1")
local macro_rules | `(tactic| walk_at "v1") => `(tactic| first
  | ((with_reducible refine' s_var ?vch ?_); (case vch => exact rfl))
  | with_reducible refine' s_c ?_
  | with_reducible refine' s_seq ?_
  | with_reducible refine' s_asg ?_
  | with_reducible refine' s_name ?_
  | with_reducible refine' s_cons ?_
  | with_reducible refine' s_nil ?_
  | with_reducible refine' s_op ?_
  | with_reducible refine' s_rI0 ?_
  | with_reducible refine' s_ret ?_
  | with_reducible refine' s_test ?_
  | with_reducible refine' s_ifS ?_
  | with_reducible refine' s_call ?_
  | with_reducible refine' s_cb ?_
  | ((with_reducible refine' s_rEq ?vch ?_); (case vch => exact rfl))
  | ((with_reducible refine' s_rNe ?vch ?_); (case vch => exact rfl))
  | ((with_reducible refine' s_ixT ?vch ?vca ?_); (case vch => walk_at "sq"); (case vca => first | exact rfl | exact at_nat 0 rfl | exact at_nat 1 rfl | exact at_nat 2 rfl | exact at_nat 3 rfl | exact at_nat 4 rfl))
  | ((with_reducible refine' s_ixL ?vch ?vca ?_); (case vch => walk_at "sq"); (case vca => first | exact rfl | exact at_nat 0 rfl | exact at_nat 1 rfl | exact at_nat 2 rfl | exact at_nat 3 rfl | exact at_nat 4 rfl))
  | with_reducible refine iteT' ?_
  | with_reducible refine iteF' ?_
  | with_reducible refine' ex_bl ?_
  | with_reducible refine' ex_int ?_
  | with_reducible refine' ex_str ?_
  | with_reducible refine' ex_int1 ?_
  | with_reducible refine' ex_str1 ?_
  | with_reducible refine' ex_int2 ?_
  | with_reducible refine' ex_pair ?_
  | with_reducible refine' s_un ?_
  | with_reducible refine' s_B ?_
  | with_reducible refine' s_andV ?_
  | with_reducible refine' s_orV ?_
  | with_reducible refine' s_notV ?_
  | with_reducible refine' s_and ?_
  | with_reducible refine' s_or ?_
  | with_reducible refine' s_not ?_
  | with_reducible refine' s_if ?_
  | with_reducible refine' s_chain ?_
  | with_reducible refine' s_next ?_
  | with_reducible refine' s_break ?_
  | with_reducible refine' s_cont ?_
  | with_reducible refine' s_drop ?_
  | with_reducible refine' s_retN ?_
  | with_reducible refine' s_par ?_
  | ((with_reducible refine' s_aug ?vch ?_); (case vch => exact rfl))
  | with_reducible refine' s_ip ?_
  | with_reducible refine' s_gcons ?_
  | with_reducible refine' s_gnil ?_
  | ((with_reducible refine' s_gtup ?vch ?vca ?_); (case vch => walk_at "sq"); (case vca => exact rfl))
  | with_reducible refine' s_tup ?_
  | with_reducible refine' s_lst ?_
  | with_reducible refine' s_sl ?_
  | with_reducible refine' s_part ?_
  | with_reducible refine' s_nopart ?_
  | with_reducible refine' s_fld ?_
  | with_reducible refine' s_make ?_
  | with_reducible refine' s_meth ?_
  | with_reducible refine' s_prop ?_
  | with_reducible refine' s_makeK ?_
  | with_reducible refine' s_gsub ?_
  | ((with_reducible refine' s_setL ?vch ?vca ?_); (case vch => walk_at "hp"); (case vca => exact rfl))
  | with_reducible refine' s_par3 ?_
  | with_reducible refine' ex_three ?_
  | with_reducible refine' s_star ?_
  | with_reducible refine' s_dnewK ?_
  | with_reducible refine' s_dsetd ?_
  | with_reducible refine' s_methR ?_
  | with_reducible refine' s_fldaug ?_
  | with_reducible refine' s_dictzip ?_
  | with_reducible refine' s_sfld ?_
  | with_reducible refine' s_bm ?_
  | with_reducible refine' s_bm0 ?_
  | with_reducible refine' s_m1 ?_
  | with_reducible refine' s_dget ?_
  | with_reducible refine' s_lc ?_
  | with_reducible refine' s_for ?_
  | with_reducible refine' s_iList ?_
  | with_reducible refine' s_iTup ?_
  | with_reducible refine' s_iStr ?_
  | with_reducible refine' s_iRng1 ?_
  | with_reducible refine' s_iRng2 ?_
  | with_reducible refine' s_yes ?_
  | with_reducible refine' s_rU ?_
  | ((with_reducible refine' s_isiP ?vch ?_); (case vch => exact rfl))
  | ((with_reducible refine' ex_lenL ?vch ?_); (case vch => walk_at "sq"))
  | ((with_reducible refine' ex_lenT ?vch ?_); (case vch => walk_at "sq"))
  | ((with_reducible refine' ex_tupL ?vch ?_); (case vch => walk_at "sq"))
  | ((with_reducible refine' ex_lstT ?vch ?_); (case vch => walk_at "sq"))
  | ((with_reducible refine' ex_srcL ?vch ?_); (case vch => walk_at "sq"))
  | ((with_reducible refine' ex_srcT ?vch ?_); (case vch => walk_at "sq"))
  | ((with_reducible refine' s_mk ?vch ?_); (case vch => exact small_le (Nat.le_of_ble_eq_true rfl)))
  | with_reducible refine' ⟨_, _, rfl, rfl, ?_⟩
  | with_reducible refine' ⟨⟨_, rfl⟩, ?_⟩
  | with_reducible refine' ⟨rfl, ?_⟩
  | ((with_reducible refine' iteT_of ?vch ?_); (case vch => exact rfl))
  | ((with_reducible refine' iteF_of ?vch ?_); (case vch => exact rfl)))
local macro_rules | `(tactic| walk_at "vc") => `(tactic| repeat walk_at "v1")
def LnsRw (H : Hp) : List V → List Ln → Prop
  | [], [] => True
  | v :: vs, l :: ls => RwLn H v l ∧ LnsRw H vs ls
  | _, _ => False
theorem LnsRw.mono {H H' : Hp} (e : Ex H H') : ∀ {vs : List V} {ls : List Ln}, LnsRw H vs ls → LnsRw H' vs ls
  | [], [], _ => trivial
  | _ :: _, _ :: _, h => ⟨h.1.mono e, LnsRw.mono e h.2⟩
  | [], _ :: _, h => h.elim
  | _ :: _, [], h => h.elim
theorem LnsRw.len {H : Hp} : ∀ {vs : List V} {ls : List Ln}, LnsRw H vs ls → vs.length = ls.length
  | [], [], _ => rfl
  | _ :: _, _ :: _, h => by rw [List.length_cons, List.length_cons, LnsRw.len h.2]
  | [], _ :: _, h => h.elim
  | _ :: _, [], h => h.elim
theorem LnsRw.app {H : Hp} : ∀ {vs ws : List V} {ls ms : List Ln}, LnsRw H vs ls → LnsRw H ws ms → LnsRw H (vs ++ ws) (ls ++ ms)
  | [], _, [], _, _, q => q
  | _ :: _, _, _ :: _, _, h, q => ⟨h.1, LnsRw.app h.2 q⟩
  | [], _, _ :: _, _, h, _ => h.elim
  | _ :: _, _, [], _, h, _ => h.elim
theorem LnsRw.take {H : Hp} : ∀ {vs : List V} {ls : List Ln}, LnsRw H vs ls → ∀ n, LnsRw H (vs.take n) (ls.take n)
  | _, _, _, 0 => trivial
  | [], [], _, _ + 1 => trivial
  | _ :: _, _ :: _, h, n + 1 => ⟨h.1, LnsRw.take h.2 n⟩
  | [], _ :: _, h, _ + 1 => h.elim
  | _ :: _, [], h, _ + 1 => h.elim
theorem LnsRw.drop {H : Hp} : ∀ {vs : List V} {ls : List Ln}, LnsRw H vs ls → ∀ n, LnsRw H (vs.drop n) (ls.drop n)
  | _, _, h, 0 => h
  | [], [], _, _ + 1 => trivial
  | _ :: _, _ :: _, h, n + 1 => LnsRw.drop h.2 n
  | [], _ :: _, h, _ + 1 => h.elim
  | _ :: _, [], h, _ + 1 => h.elim
theorem LnsRw.of {H : Hp} {Pl : Ln → Prop} : ∀ {vs : List V}, (∀ v ∈ vs, ∃ l, Pl l ∧ RwLn H v l) → ∃ ls, LnsRw H vs ls ∧ ∀ l ∈ ls, Pl l
  | [], _ => ⟨[], trivial, fun l h => nomatch h⟩
  | v :: vs, h => by
    obtain ⟨ls, a, b⟩ := LnsRw.of (vs := vs) fun u hu => h u (List.mem_cons_of_mem _ hu)
    obtain ⟨l, c, d⟩ := h v List.mem_cons_self
    refine ⟨l :: ls, ⟨d, a⟩, fun m hm => ?_⟩
    rcases List.mem_cons.mp hm with rfl | hm
    · exact c
    · exact b m hm
def sumBy (ls : List Ln) : Int := (ls.map Ln.byn).sum
theorem sumBy_app (a b : List Ln) : sumBy (a ++ b) = sumBy a + sumBy b := by
  unfold sumBy
  rw [List.map_append, List.sum_append]
theorem sumBy_zero : ∀ {ls : List Ln}, (∀ l ∈ ls, l.byn = 0) → sumBy ls = 0
  | [], _ => rfl
  | l :: ls, h => by
    have h1 := h l List.mem_cons_self
    have h2 := sumBy_zero (ls := ls) fun m hm => h m (List.mem_cons_of_mem _ hm)
    unfold sumBy at h2 ⊢
    rw [List.map_cons, List.sum_cons, h1, h2]
    rfl
theorem LnsRw.get {H : Hp} : ∀ {vs : List V} {ls : List Ln}, LnsRw H vs ls → ∀ (i : Nat) (v : V), vs[i]? = some v → ∃ l, ls[i]? = some l ∧ RwLn H v l
  | [], [], _, i, v, h => by simp at h
  | v :: vs, l :: ls, h, 0, v', e => ⟨l, rfl, by cases e; exact h.1⟩
  | v :: vs, l :: ls, h, i + 1, v', e => by
    obtain ⟨l', h1, h2⟩ := LnsRw.get h.2 i v' (by simpa using e)
    exact ⟨l', by simpa using h1, h2⟩
  | [], _ :: _, h, _, _, _ => h.elim
  | _ :: _, [], h, _, _, _ => h.elim
theorem kind_four {l : Ln} (h : l.kind ≠ 4) : l.byn = 0 := by
  cases l <;> first | rfl | exact absurd rfl h
section
variable {P : Program} {w : World} {K : PySem.W.Frag} {mg : Str → Option Value} {base : Heap}
def spBodyL : Sp := fun vs H Q _ => ∃ (p : Addr) (t : Int), vs = [.ref p] ∧ PurseAt H p t ∧ t < 2 ^ 56 ∧ ∀ q us ls t' H', (∀ l ∈ ls, LnOk l) → 1 ≤ sumBy ls → sumBy ls ≤ 8 → ls.length ≤ 6 → Ex (hid [p] H) (hid [p] H') → nw H H' q = some (.lst us) → LnsRw (nw H H') us ls → PurseAt H' p t' → t' ≤ t + 100 → Q (.ref q) H'
theorem sc_z_body : FnScope ["_law_purse_here", "_law_rows_here", "_law_k", "_law_at", "_law_row"] ["_law_purse_here"] (defScope s_z_body) := ⟨rfl, rfl, rfl, by decide +kernel, rfl, by decide +kernel, by decide +kernel⟩
theorem D_z_body (Z : Zf K mg) : Df P w K mg base "_law_body" (4) ["_law_purse_here"] spBodyL := by
  refine def_ok Z 56 rfl (by decide +kernel) sc_z_body (fun _ _ _ _ _ _ us hl => match us, hl with | [_], _ => rfl) (fun vs H Q E h => ?_) (fun f cdv A outer s H vs Q E hr h => ⟨_, (C8.pss_cut (ps_setLc (i := 1) (own := [("_law_k", 2)]) (g := gName 2) (tt := tYes) rfl sc_z_body.nd rfl rfl (sw_true rfl rfl rfl (by decide +kernel)) (pi_range1 rfl (Z.free "range") (pa_cons (pe_callD (D_z_pick Z) hr (by omega) rfl (pa_cons (pv 0) (pa_cons pe_int pa_nil))) pa_nil)) (blkOk_by (own := [("_law_k", 2)]) (N := ["_law_purse_here", "_law_rows_here", "_law_k", "_law_at", "_law_row"]) (sc := defScope s_z_body) (by decide +kernel)) (fun _ _ _ _ _ => (pgn 2 sc_z_body.nd)) (fun _ _ _ _ _ => pts_nil) (fun _ _ _ _ _ => (pe_callD (D_z_line Z) hr (by omega) rfl (pa_cons (pv 0) pa_nil))))
      (C8.pss_cut (ps_setLc (i := 1) (own := [("_law_row", 4)]) (g := gName 4)  rfl sc_z_body.nd rfl rfl (sw_true rfl rfl rfl (by decide +kernel)) (pi_list (pv 1)) (blkOk_by (own := [("_law_row", 4)]) (N := ["_law_purse_here", "_law_rows_here", "_law_k", "_law_at", "_law_row"]) (sc := defScope s_z_body) (by decide +kernel)) (fun _ _ _ _ _ => (pgn 4 sc_z_body.nd)) (fun _ _ _ _ _ => (pts_one (pt_cmpR op_ne (pe_ix (ixLK (K := K) rfl) (pv 4) pe_int (fun _ _ => rfl)) pe_int (nomark _)))) (fun _ _ _ _ _ => (pv 4)))
      (pss_cons (ps_for PassesOwn.never rfl (pi_range1 rfl (Z.free "range") (pa_cons (pe_op op_add pe_int (pe_callD (D_z_pick Z) hr (by omega) rfl (pa_cons (pv 0) (pa_cons pe_int pa_nil)))) pa_nil)) (pgn 2 sc_z_body.nd)
      (pss_cons (ps_asg (pe_callD (D_z_pick Z) hr (by omega) rfl (pa_cons (pv 0) (pa_cons (pe_op op_add (pe_callB call_lenL (by rfl) (Z.free "len") (by decide +kernel) (pa_cons (pv 1) pa_nil)) pe_int) pa_nil))) (pgn 3 sc_z_body.nd))
      (pss_one (ps_asg (pe_op op_cat (pe_op op_cat (pe_slice sl_list (pv 1) po_none (po_some (pv 3))) (pe_lst (pa_cons (pe_callD (D_z_step Z) hr (by omega) rfl (pa_cons (pv 0) pa_nil)) pa_nil))) (pe_slice sl_list (pv 1) (po_some (pv 3)) po_none)) (pgn 1 sc_z_body.nd)))))
      (pss_one (ps_ret (pv 1)))))), ?_⟩)
  · obtain ⟨p, t, rfl, _⟩ := h
    rfl
  · obtain ⟨p, t, rfl, hp, t1, k⟩ := h
    walk_at "vc"
    refine ⟨fun σ' H' => ∃ (D : Addr) (us : List V) (t' : Int), σ' = [some (.ref p), some (.ref D), none, none, none] ∧ Ex (hid [p] H) (hid [p] H') ∧ nw H H' D = some (.lst us) ∧ us.length ≤ 4 ∧ (∀ v ∈ us, ∃ l, LnOk l ∧ RwLn (nw H H') v l) ∧ PurseAt H' p t' ∧ t' ≤ t + 50, ?_, ?_⟩
    · walk_at "vc"
      refine ⟨p, 5, t, rfl, by decide, by decide, hp, by omega, fun n H1 n0 n1 e1 hp1 => ?_⟩
      walk_at "vc"
      refine ⟨by omega, by omega, ?_⟩
      refine lc_exH walk_range (j := 2) (fun i => V.int (0 + (i : Int))) [p] (fun i H => ∃ t', PurseAt H p t' ∧ t' ≤ t + 1 + 12 * (i : Int)) (fun _ v H => ∃ l, LnOk l ∧ RwLn H v l) (fun _ _ _ _ e h => by obtain ⟨l, a, b⟩ := h; exact ⟨l, a, b.mono e⟩) (fun i H ⟨t', h, _⟩ => h.all) (fun i H D o hD ⟨t', h, h2⟩ => ⟨t', h.new ?_, h2⟩) ⟨t + 1, hp1, by omega⟩ (fun i H x H' _ h => h) (fun _ _ => trivial) (by omega) (fun _ => rfl) ?_ ?_
      · obtain ⟨xs, hx⟩ := hp1.lst
        exact ne_of_none hx hD
      · rintro i H2 hi e2 ⟨t', hp2, ht'⟩ Q1 k1
        walk_at "vc"
        refine ⟨p, t', rfl, hp2, by omega, fun v l t2 H3 hl _ e3 hv hp3 ht3 => ?_⟩
        exact k1 v H3 e3 ⟨t2, hp3, by omega⟩ ⟨l, hl, hv⟩
      rintro D us H2 hD e2 ⟨t', hp2, ht'⟩ hyD hm
      have hl := (Made.all hm).1
      have hq := Made.each hm
      walk_at "vc"
      have e12 := Evl.Ex.trans e1 e2
      have nD : H D = none := back_none e1 hp1.all hD
      have sub : Ex (nw H1 (hid [D] H2)) (nw H H2) := Evl.Ex.trans (fun a o q => nw_get (nw_some.mp q).1 (ex_hid _ _ (nw_some.mp q).2)) (nw_in e1 hp1.all ex_nw)
      exact ⟨D, us, t', rfl, e12, nw_get nD hyD, by omega, fun v hv => by obtain ⟨i, l, a, b⟩ := hq v hv; exact ⟨l, a, b.mono sub⟩, hp2, by omega⟩
    · rintro σ' H2 ⟨D, us, t2, rfl, e2, hD2, hul, hus, hp2, ht2⟩
      have hDs := SqL.of (K := K) (ex_nw _ _ hD2)
      refine ⟨fun σ' H' => ∃ (D : Addr) (us : List V) (v : Option V), σ' = [some (.ref p), some (.ref D), v, none, none] ∧ Ex H2 H' ∧ nw H H' D = some (.lst us) ∧ us.length ≤ 4 ∧ (∀ v ∈ us, ∃ l, (LnOk l ∧ l.byn = 0) ∧ RwLn (nw H H') v l) ∧ PurseAt H' p t2, ?_, ?_⟩
      · obtain ⟨ls, hls, hlok⟩ := LnsRw.of (Pl := LnOk) hus
        walk_at "vc"
        have rd : ∀ {i : Nat} (hi : i < us.length), ∃ l q, ls[i]? = some l ∧ us.getD i .non = .ref q ∧ us[i]? = some (.ref q) ∧ nw H H2 q = some (.lst [.str "line", .int (l.kind : Int), .str (lineT (lw l)), .int l.byn]) := fun {i} hi => by
          obtain ⟨l, h1, q, h2, h3⟩ := hls.get i _ (List.getElem?_eq_getElem hi)
          exact ⟨l, q, h1, by rw [List.getD_eq_getElem?_getD, List.getElem?_eq_getElem hi, h2]; rfl, by rw [List.getElem?_eq_getElem hi, h2], h3⟩
        refine lc_ex (walk_list (xs := us)) (j := 4) (fun i => us.getD i .non) (fun i => !decide (((ls.getD i (.step 0)).kind : Int) = 4)) (fun i v _ => v = us.getD i .non) (fun _ _ _ _ _ h => h) ?_ (fun H' e => Evl.ex_l e hDs) (by omega) (fun _ => rfl) ?_ ?_ ?_
        · rintro i H3 x H' hi ⟨e, hx⟩
          exact ⟨e, by rw [List.getD_eq_getElem?_getD, hx]; rfl⟩
        · intro i H3 hi e3 Q1 k1
          obtain ⟨l, q, h1, h2, _, h3⟩ := rd hi
          rw [List.getD_eq_getElem?_getD, h1, Option.getD_some] at k1
          rw [h2]
          have hq := SqL.of (K := K) (e3 _ _ (ex_nw _ _ h3))
          walk_at "vc"
          have ed : (!decide (V.int (l.kind : Int) = V.int 4)) = !decide ((l.kind : Int) = 4) := by
            by_cases c : (l.kind : Int) = 4
            · rw [decide_eq_true c, decide_eq_true (by rw [c])]
            · rw [decide_eq_false c, decide_eq_false fun e => c (V.int.inj e)]
          rw [ed]
          exact k1 _ (Evl.Ex.refl _)
        · intro i H3 hi hfl e3 Q1 k1
          walk_at "vc"
          exact k1 _ _ (Evl.Ex.refl _) rfl
        intro D3 us3 H3 hD3 e3 hy3 hm3
        have hlen := Made.len hm3
        walk_at "vc"
        have ev := Made.vals hm3
        have nD3 : H D3 = none := back_none e2 hp2.all hD3
        have mn : Ex (nw H H2) (nw H H3) := nw_mono e3
        refine ⟨D3, us3, _, rfl, e3, nw_get nD3 hy3, by omega, fun v hv => ?_, ?_⟩
        · rw [ev] at hv
          obtain ⟨i, hi, rfl⟩ := List.mem_map.mp hv
          obtain ⟨hi1, hi2⟩ := List.mem_filter.mp hi
          obtain ⟨l, q, h1, h2, h4, h3⟩ := rd (List.mem_range.mp hi1)
          rw [List.getD_eq_getElem?_getD, h1, Option.getD_some] at hi2
          have hk : l.kind ≠ 4 := fun c => by rw [c] at hi2; simp at hi2
          exact ⟨l, ⟨hlok l (List.mem_of_getElem? h1), kind_four hk⟩, q, h2, mn _ _ h3⟩
        · obtain ⟨d, s, h1, h2⟩ := hp2
          exact ⟨d, s, e3 _ _ h1, h2⟩
      · rintro σ' H3 ⟨D3, us3, v3, rfl, e3, hD3, hul3, hus3, hp3⟩
        obtain ⟨ls3, hls3, hlok3⟩ := LnsRw.of (Pl := fun l => LnOk l ∧ l.byn = 0) hus3
        have e23 : Ex (hid [p] H) (hid [p] H3) := Evl.Ex.trans e2 (hid_mono e3)
        have hl3 := hls3.len
        walk_at "vc"
        refine ⟨p, 2, t2, rfl, by decide, by decide, hp3, by omega, fun n H4 n0 n1 e4 hp4 => ?_⟩
        walk_at "vc"
        refine ⟨by omega, by omega, ?_⟩
        have up4 : Ex (nw H H3) (nw H H4) := nw_hidmono e4 hp.all
        refine for_go walk_range (fun i σ H' => ∃ (D : Addr) (us : List V) (ls : List Ln) (v2 v3 v4 : Option V) (t' : Int), σ = [some (.ref p), some (.ref D), v2, v3, v4] ∧ Ex (hid [p] H) (hid [p] H') ∧ nw H H' D = some (.lst us) ∧ LnsRw (nw H H') us ls ∧ (∀ l ∈ ls, LnOk l) ∧ ls.length ≤ 4 + i ∧ (i : Int) ≤ sumBy ls ∧ sumBy ls ≤ 4 * (i : Int) ∧ PurseAt H' p t' ∧ t' ≤ t + 51 + 2 * (i : Int)) ⟨D3, us3, ls3, _, _, _, _, rfl, Evl.Ex.trans e23 e4, up4 _ _ hD3, hls3.mono up4, fun l hl => (hlok3 l hl).1, by omega, by rw [sumBy_zero fun l hl => (hlok3 l hl).2]; exact Int.le_refl 0, by rw [sumBy_zero fun l hl => (hlok3 l hl).2]; exact Int.le_refl 0, hp4, by omega⟩ (fun _ _ _ _ _ => trivial) ?_ ?_
        · rintro i x σ H5 H6 hi ⟨D, us, ls, v2, v3, v4, t', rfl, e5, hD, hls, hlok, hll, hs1, hs2, hp5, ht'⟩ ⟨eH, rfl⟩
          rw [eH]
          have hDs5 := SqL.of (K := K) (ex_nw _ _ hD)
          have hlen := hls.len
          walk_at "vc"
          refine ⟨p, _, t', rfl, by omega, by omega, hp5, by omega, fun a H7 a0 a1 e7 hp7 => ?_⟩
          have up7 : Ex (nw H H5) (nw H H7) := nw_hidmono e7 hp.all
          have hD7 := SqL.of (K := K) (ex_nw _ _ (up7 _ _ hD))
          walk_at "vc"
          refine s_slL hD7 fun q8 hq8 => ?_
          obtain ⟨k8, rfl⟩ : ∃ k8 : Nat, a = (k8 : Int) := ⟨a.toNat, by omega⟩
          rw [cut_to]
          walk_at "vc"
          have hp8 := hp7.new (o := .lst (us.take k8)) (hp7.neNew hq8)
          refine ⟨p, t' + 1, rfl, hp8, by omega, fun v l t9 H9 hlo hst e9 hv hp9 ht9 => ?_⟩
          walk_at "vc"
          intro q10 hq10
          have np10 := hp9.neNew hq10
          have e8 := Evl.Ex.new (o := .lst (us.take k8)) hq8
          have hq89 : H9 q8 = some (.lst (us.take k8)) := ex_hid _ _ (e9 _ _ (hid_get upd_same (by simp; exact fun c => hp7.neNew hq8 c.symm)))
          have e10 := Evl.Ex.new (o := .lst [v]) hq10
          refine ⟨q8, q10, _, _, rfl, rfl, e10 _ _ hq89, upd_same, by rw [List.length_take, sizeLine_eq]; simp only [List.length_cons, List.length_nil]; omega, fun q11 hq11 => ?_⟩
          have e11 := Evl.Ex.new (o := .lst (us.take k8 ++ [v])) hq11
          have up9 : Ex (nw H H7) (nw H H9) := Evl.Ex.trans (nw_mono e8) (nw_hidmono e9 hp.all)
          have hD9 : H9 D = some (.lst us) := ex_nw _ _ (up9 _ _ (up7 _ _ hD))
          have hD11 := SqL.of (K := K) (e11 _ _ (e10 _ _ hD9))
          walk_at "vc"
          refine s_slL hD11 fun q12 hq12 => ?_
          rw [cut_from]
          have e12 := Evl.Ex.new (o := .lst (us.drop k8)) hq12
          refine ⟨q11, q12, _, _, rfl, rfl, e12 _ _ upd_same, upd_same, by rw [List.length_append, List.length_take, List.length_drop, sizeLine_eq]; simp only [List.length_cons, List.length_nil]; omega, fun q13 hq13 => ?_⟩
          have e13 := Evl.Ex.new (o := .lst (us.take k8 ++ [v] ++ us.drop k8)) hq13
          walk_at "vc"
          have eend := Evl.Ex.trans e10 (Evl.Ex.trans e11 (Evl.Ex.trans e12 e13))
          have e59 : Ex (hid [p] H) (hid [p] H9) := Evl.Ex.trans e5 (Evl.Ex.trans e7 (Evl.Ex.trans (hid_mono e8) e9))
          have upE := nw_mono (H0 := H) eend
          have hv' : RwLn (nw H H9) v l := hv.mono (nw_in (Evl.Ex.trans e5 (Evl.Ex.trans e7 (hid_mono e8))) hp8.all ex_nw)
          obtain ⟨ns, rfl⟩ := hst
          have hb1 : 1 ≤ ns := hlo.1
          have hb4 : ns ≤ 4 := hlo.2
          have hsum : sumBy (ls.take k8 ++ [.step ns] ++ ls.drop k8) = sumBy ls + ns := by
            have q1 := sumBy_app (ls.take k8) (ls.drop k8)
            rw [List.take_append_drop] at q1
            rw [sumBy_app, sumBy_app, q1]
            show sumBy (ls.take k8) + (ns + 0) + sumBy (ls.drop k8) = _
            omega
          have nq13 : H q13 = none := back_none (Evl.Ex.trans e59 (hid_mono (Evl.Ex.trans e10 (Evl.Ex.trans e11 e12)))) (((hp9.new (hp9.neNew hq10)).new ((hp9.new (hp9.neNew hq10)).neNew hq11)).new (((hp9.new (hp9.neNew hq10)).new ((hp9.new (hp9.neNew hq10)).neNew hq11)).neNew hq12)).all hq13
          refine ⟨q13, _, ls.take k8 ++ [.step ns] ++ ls.drop k8, _, _, _, t9, rfl, Evl.Ex.trans e59 (hid_mono eend), nw_get nq13 upd_same, ?_, fun m hm => ?_, ?_, by rw [hsum]; omega, by rw [hsum]; omega, ?_, by omega⟩
          · exact LnsRw.app (LnsRw.app (((hls.take k8).mono up7).mono (Evl.Ex.trans up9 upE)) ⟨hv'.mono upE, trivial⟩) (((hls.drop k8).mono up7).mono (Evl.Ex.trans up9 upE))
          · rcases List.mem_append.mp hm with hm | hm
            · rcases List.mem_append.mp hm with hm | hm
              · exact hlok m (List.mem_of_mem_take hm)
              · rw [List.mem_singleton.mp hm]; exact hlo
            · exact hlok m (List.mem_of_mem_drop hm)
          · rw [List.length_append, List.length_append, List.length_take, List.length_drop, List.length_singleton]
            omega
          · obtain ⟨d, s, h1, h2⟩ := hp9
            exact ⟨d, s, eend _ _ h1, h2⟩
        · rintro σ H5 ⟨D, us, ls, v2, v3, v4, t', rfl, e5, hD, hls, hlok, hll, hs1, hs2, hp5, ht'⟩
          walk_at "vc"
          exact k D us ls t' H5 hlok (by omega) (by omega) (by omega) e5 hD hls hp5 (by omega)
end
end Ov
/-! text OvL4 -/
set_option Elab.async false
set_option linter.all false
set_option maxRecDepth 100000
namespace Ov
open PySem PySem.Spec PyProof.Rows L2
open Rows TL
local macro_rules | `(tactic| walk_at "hp") => `(tactic| first
  | assumption
  | exact upd_same
  | (refine Evl.Ex.new (by assumption) _ _ ?_; walk_at "hp")
  | (refine (by assumption : Evl.Ex _ _) _ _ ?_; walk_at "hp"))
local macro_rules | `(tactic| walk_at "sq") => `(tactic| first
  | assumption
  | exact SqL.of (by walk_at "hp")
  | exact SqT.of (by walk_at "hp")
  | (refine Evl.ex_l (by assumption) ?_; walk_at "sq")
  | (refine Evl.ex_t (by assumption) ?_; walk_at "sq")
  | (refine Evl.ex_l (Evl.Ex.new (by assumption)) ?_; walk_at "sq")
  | (refine Evl.ex_t (Evl.Ex.new (by assumption)) ?_; walk_at "sq"))
local macro_rules | `(tactic| walk_at "ex") => `(tactic| first
  | assumption
  | exact Evl.Ex.refl _
  | (refine Evl.Ex.trans ?_ (Evl.Ex.new (by assumption)); walk_at "ex")
  | (refine Evl.Ex.trans ?_ (by assumption); walk_at "ex"))
local macro_rules | `(tactic| walk_at "s1") => `(tactic| first
  | refine ⟨_, rfl, ?_⟩
  | refine ⟨rfl, ?_⟩
  | refine ⟨_, _, rfl, rfl, ?_⟩
  | refine ⟨_, _, _, rfl, rfl, ?_⟩)
local macro_rules | `(tactic| walk_at "st") => `(tactic| repeat walk_at "s1")
local macro_rules | `(tactic| walk_at "v1") => `(tactic| first
  | ((with_reducible refine' s_var ?vch ?_); (case vch => exact rfl))
  | with_reducible refine' s_c ?_
  | with_reducible refine' s_seq ?_
  | with_reducible refine' s_asg ?_
  | with_reducible refine' s_name ?_
  | with_reducible refine' s_cons ?_
  | with_reducible refine' s_nil ?_
  | with_reducible refine' s_op ?_
  | with_reducible refine' s_rI0 ?_
  | with_reducible refine' s_ret ?_
  | with_reducible refine' s_test ?_
  | with_reducible refine' s_ifS ?_
  | with_reducible refine' s_call ?_
  | with_reducible refine' s_cb ?_
  | ((with_reducible refine' s_rEq ?vch ?_); (case vch => exact rfl))
  | ((with_reducible refine' s_rNe ?vch ?_); (case vch => exact rfl))
  | ((with_reducible refine' s_ixT ?vch ?vca ?_); (case vch => walk_at "sq"); (case vca => first | exact rfl | exact at_nat 0 rfl | exact at_nat 1 rfl | exact at_nat 2 rfl | exact at_nat 3 rfl | exact at_nat 4 rfl))
  | ((with_reducible refine' s_ixL ?vch ?vca ?_); (case vch => walk_at "sq"); (case vca => first | exact rfl | exact at_nat 0 rfl | exact at_nat 1 rfl | exact at_nat 2 rfl | exact at_nat 3 rfl | exact at_nat 4 rfl))
  | with_reducible refine iteT' ?_
  | with_reducible refine iteF' ?_
  | with_reducible refine' ex_bl ?_
  | with_reducible refine' ex_int ?_
  | with_reducible refine' ex_str ?_
  | with_reducible refine' ex_int1 ?_
  | with_reducible refine' ex_str1 ?_
  | with_reducible refine' ex_int2 ?_
  | with_reducible refine' ex_pair ?_
  | with_reducible refine' s_un ?_
  | with_reducible refine' s_B ?_
  | with_reducible refine' s_andV ?_
  | with_reducible refine' s_orV ?_
  | with_reducible refine' s_notV ?_
  | with_reducible refine' s_and ?_
  | with_reducible refine' s_or ?_
  | with_reducible refine' s_not ?_
  | with_reducible refine' s_if ?_
  | with_reducible refine' s_chain ?_
  | with_reducible refine' s_next ?_
  | with_reducible refine' s_break ?_
  | with_reducible refine' s_cont ?_
  | with_reducible refine' s_drop ?_
  | with_reducible refine' s_retN ?_
  | with_reducible refine' s_par ?_
  | ((with_reducible refine' s_aug ?vch ?_); (case vch => exact rfl))
  | with_reducible refine' s_ip ?_
  | with_reducible refine' s_gcons ?_
  | with_reducible refine' s_gnil ?_
  | ((with_reducible refine' s_gtup ?vch ?vca ?_); (case vch => walk_at "sq"); (case vca => exact rfl))
  | with_reducible refine' s_tup ?_
  | with_reducible refine' s_lst ?_
  | with_reducible refine' s_sl ?_
  | with_reducible refine' s_part ?_
  | with_reducible refine' s_nopart ?_
  | with_reducible refine' s_fld ?_
  | with_reducible refine' s_make ?_
  | with_reducible refine' s_meth ?_
  | with_reducible refine' s_prop ?_
  | with_reducible refine' s_makeK ?_
  | with_reducible refine' s_gsub ?_
  | ((with_reducible refine' s_setL ?vch ?vca ?_); (case vch => walk_at "hp"); (case vca => exact rfl))
  | with_reducible refine' s_par3 ?_
  | with_reducible refine' ex_three ?_
  | with_reducible refine' s_star ?_
  | with_reducible refine' s_dnewK ?_
  | with_reducible refine' s_dsetd ?_
  | with_reducible refine' s_methR ?_
  | with_reducible refine' s_fldaug ?_
  | with_reducible refine' s_dictzip ?_
  | with_reducible refine' s_sfld ?_
  | with_reducible refine' s_bm ?_
  | with_reducible refine' s_bm0 ?_
  | with_reducible refine' s_m1 ?_
  | with_reducible refine' s_dget ?_
  | with_reducible refine' s_lc ?_
  | with_reducible refine' s_for ?_
  | with_reducible refine' s_iList ?_
  | with_reducible refine' s_iTup ?_
  | with_reducible refine' s_iStr ?_
  | with_reducible refine' s_iRng1 ?_
  | with_reducible refine' s_iRng2 ?_
  | with_reducible refine' s_yes ?_
  | with_reducible refine' s_rU ?_
  | ((with_reducible refine' s_isiP ?vch ?_); (case vch => exact rfl))
  | ((with_reducible refine' ex_lenL ?vch ?_); (case vch => walk_at "sq"))
  | ((with_reducible refine' ex_lenT ?vch ?_); (case vch => walk_at "sq"))
  | ((with_reducible refine' ex_tupL ?vch ?_); (case vch => walk_at "sq"))
  | ((with_reducible refine' ex_lstT ?vch ?_); (case vch => walk_at "sq"))
  | ((with_reducible refine' ex_srcL ?vch ?_); (case vch => walk_at "sq"))
  | ((with_reducible refine' ex_srcT ?vch ?_); (case vch => walk_at "sq"))
  | ((with_reducible refine' s_mk ?vch ?_); (case vch => exact small_le (Nat.le_of_ble_eq_true rfl)))
  | with_reducible refine' ⟨_, _, rfl, rfl, ?_⟩
  | with_reducible refine' ⟨⟨_, rfl⟩, ?_⟩
  | with_reducible refine' ⟨rfl, ?_⟩
  | ((with_reducible refine' iteT_of ?vch ?_); (case vch => exact rfl))
  | ((with_reducible refine' iteF_of ?vch ?_); (case vch => exact rfl)))
local macro_rules | `(tactic| walk_at "vc") => `(tactic| repeat walk_at "v1")
def isNil : Rows → Bool
  | .nil => true
  | _ => false
def RwsAt (H : Hp) : Rows → List V → Prop
  | .nil, vs => vs = []
  | .line l r, vs => ∃ v vs', vs = v :: vs' ∧ RwLn H v l ∧ RwsAt H r vs'
  | .iff b e one two r, vs => ∃ (p p1 p2 : Addr) (vs1 vs2 vs' : List V), vs = .ref p :: vs' ∧ H p = some (.lst [.str "if", .int b, .ref p1, .ref p2]) ∧ H p1 = some (.lst vs1) ∧ RwsAt H one vs1 ∧ H p2 = some (.lst vs2) ∧ RwsAt H two vs2 ∧ e = !isNil two ∧ RwsAt H r vs'
  | .whl b body r, vs => ∃ (p p1 : Addr) (vs1 vs' : List V), vs = .ref p :: vs' ∧ H p = some (.lst [.str "while", .int b, .ref p1]) ∧ H p1 = some (.lst vs1) ∧ RwsAt H body vs1 ∧ RwsAt H r vs'
theorem RwsAt.mono {H H' : Hp} (e : Ex H H') : ∀ {r : Rows} {vs : List V}, RwsAt H r vs → RwsAt H' r vs
  | .nil, _, h => h
  | .line l r, _, ⟨v, vs', a, b, c⟩ => ⟨v, vs', a, b.mono e, RwsAt.mono e c⟩
  | .iff b f one two r, _, ⟨p, p1, p2, vs1, vs2, vs', a, h, h1, i1, h2, i2, he, i3⟩ => ⟨p, p1, p2, vs1, vs2, vs', a, e _ _ h, e _ _ h1, RwsAt.mono e i1, e _ _ h2, RwsAt.mono e i2, he, RwsAt.mono e i3⟩
  | .whl b body r, _, ⟨p, p1, vs1, vs', a, h, h1, i1, i3⟩ => ⟨p, p1, vs1, vs', a, e _ _ h, e _ _ h1, RwsAt.mono e i1, RwsAt.mono e i3⟩
theorem rws_app {H : Hp} : ∀ {r s : Rows} {vs ws : List V}, RwsAt H r vs → RwsAt H s ws → RwsAt H (app r s) (vs ++ ws)
  | .nil, s, vs, ws, h, q => by
    have e : vs = [] := h
    rw [e]; exact q
  | .line l r, s, _, ws, ⟨v, vs', a, b, c⟩, q => ⟨v, vs' ++ ws, by rw [a]; rfl, b, rws_app c q⟩
  | .iff b f one two r, s, _, ws, ⟨p, p1, p2, vs1, vs2, vs', a, h, h1, i1, h2, i2, he, i3⟩, q => ⟨p, p1, p2, vs1, vs2, vs' ++ ws, by rw [a]; rfl, h, h1, i1, h2, i2, he, rws_app i3 q⟩
  | .whl b body r, s, _, ws, ⟨p, p1, vs1, vs', a, h, h1, i1, i3⟩, q => ⟨p, p1, vs1, vs' ++ ws, by rw [a]; rfl, h, h1, i1, rws_app i3 q⟩
theorem all_append {P : Ln → Prop} : ∀ {r s : Rows}, AllLn P r → AllLn P s → AllLn P (app r s)
  | .nil, _, _, q => q
  | .line l r, s, h, q => ⟨h.1, all_append h.2 q⟩
  | .iff _ _ _ _ r, s, h, q => ⟨h.1, h.2.1, all_append h.2.2 q⟩
  | .whl _ _ r, s, h, q => ⟨h.1, all_append h.2 q⟩
theorem shape_append : ∀ {r s : Rows} {d : Nat}, Shape r d → Shape s d → Shape (app r s) d
  | .nil, _, _, _, q => q
  | .line l r, s, d, h, q => ⟨h.1, shape_append h.2 q⟩
  | .iff _ _ _ _ r, s, d, h, q => ⟨h.1, h.2.1, h.2.2.1, h.2.2.2.1, shape_append h.2.2.2.2 q⟩
  | .whl _ _ r, s, d, h, q => ⟨h.1, h.2.1, h.2.2.1, h.2.2.2.1, h.2.2.2.2.1, h.2.2.2.2.2.1, shape_append h.2.2.2.2.2.2 q⟩
def ofLns : List Ln → Rows
  | [] => .nil
  | l :: ls => .line l (ofLns ls)
theorem ofLns_flat : ∀ ls, Flat (ofLns ls)
  | [] => trivial
  | _ :: ls => ofLns_flat ls
theorem ofLns_all {P : Ln → Prop} : ∀ {ls : List Ln}, (∀ l ∈ ls, P l) → AllLn P (ofLns ls)
  | [], _ => trivial
  | l :: ls, h => ⟨h l List.mem_cons_self, ofLns_all fun m hm => h m (List.mem_cons_of_mem _ hm)⟩
theorem byn_nonneg {l : Ln} (h : LnOk l) : 0 ≤ l.byn := by
  cases l with
  | step n => show 0 ≤ n; have := h.1; omega
  | _ => exact Int.le_refl 0
theorem ofLns_shape {d : Nat} : ∀ {ls : List Ln}, (∀ l ∈ ls, LnOk l) → Shape (ofLns ls) d
  | [], _ => trivial
  | l :: ls, h => ⟨byn_nonneg (h l List.mem_cons_self), ofLns_shape fun m hm => h m (List.mem_cons_of_mem _ hm)⟩
theorem ofLns_steps : ∀ ls, steps (ofLns ls) = sumBy ls
  | [] => rfl
  | l :: ls => by
    show l.byn + steps (ofLns ls) = ((l :: ls).map Ln.byn).sum
    rw [ofLns_steps ls, List.map_cons, List.sum_cons]
    rfl
theorem ofLns_nl : ∀ ls, nl (ofLns ls) = ls.length
  | [] => rfl
  | l :: ls => by
    show 1 + nl (ofLns ls) = ls.length + 1
    rw [ofLns_nl ls]; omega
theorem ofLns_rws {H : Hp} : ∀ {ls : List Ln} {vs : List V}, LnsRw H vs ls → RwsAt H (ofLns ls) vs
  | [], [], _ => rfl
  | l :: ls, v :: vs, h => ⟨v, vs, rfl, h.1, ofLns_rws h.2⟩
  | [], _ :: _, h => h.elim
  | _ :: _, [], h => h.elim
def tau : Nat → Int
  | 0 => 125
  | n + 1 => 125 + 5 * tau n
theorem tau_pos : ∀ n, 125 ≤ tau n
  | 0 => by decide
  | n + 1 => by
    have := tau_pos n
    show 125 ≤ 125 + 5 * tau n
    omega
section
variable {P : Program} {w : World} {K : PySem.W.Frag} {mg : Str → Option Value} {base : Heap}
def RoomAt (H : Hp) (p : Addr) (R : Int) : Prop := H p = some (.lst [.int R])
theorem purse_room {H : Hp} {p rm : Addr} {t R : Int} (h : PurseAt H p t) (h2 : RoomAt H rm R) : p ≠ rm := fun e => by
  obtain ⟨d, s, h1, _⟩ := h
  rw [e, h2] at h1
  cases h1
/-- c compounds among m rows, the room from R to R' -/
def Few (n : Nat) (m R R' : Int) (c : Int) : Prop := 0 ≤ c ∧ (n : Int) ≤ m + 12 * c ∧ R' ≤ R - 4 * c ∧ (c = 0 ∨ 4 * c ≤ R - 9)
theorem Few.step {a b : Nat} {i R R0 R1 c0 c1 : Int} (h : Few a i R R0 c0) (h1 : 0 ≤ c1) (h2 : (b : Int) ≤ 1 + 12 * c1) (h3 : R1 ≤ R0 - 4 * c1) (h4 : c1 = 0 ∨ 4 * c1 ≤ R0 - 9) : Few (a + b) (i + 1) R R1 (c0 + c1) := by
  obtain ⟨q1, q2, q3, q4⟩ := h
  refine ⟨by omega, by omega, by omega, ?_⟩
  omega
/-- one turn of the rows -/
def TurnL (H : Hp) (p rm L : Addr) (n : Nat) (m t R : Int) (i : Nat) (σ : L2.St) (H' : Hp) : Prop := ∃ (us : List V) (r : Rows) (t0 R0 c : Int) (v5 v6 v7 v8 : Option V), σ = [some (.ref p), some (.ref rm), some (.int (n : Int)), some (.int m), some (.ref L), v5, v6, v7, v8] ∧ Ex (hid [p, rm] H) (hid [p, rm] H') ∧ H' L = some (.lst us) ∧ RwsAt (nw H (hid [L] H')) r us ∧ AllLn LnOk r ∧ Shape r n ∧ (1 ≤ i → r ≠ .nil) ∧ Few (nl r) i R R0 c ∧ PurseAt H' p t0 ∧ RoomAt H' rm R0 ∧ t0 ≤ t + (i : Int) * tau n ∧ us.length ≤ i
theorem ne_app {r s : Rows} (h : s ≠ .nil) : app r s ≠ .nil := by
  cases r with
  | nil => exact h
  | line l r => intro e; cases e
  | iff b f one two r => intro e; cases e
  | whl b body r => intro e; cases e
theorem nw_into {H0 H1 H2 : Hp} {as : List Addr} {L : Addr} {o : HO} (e : Ex (hid as H0) (hid as H1)) (n : All as H1) (hL : H1 L = some o) : Ex (nw H1 H2) (nw H0 (hid [L] H2)) := fun a u q => by
  obtain ⟨q1, q2⟩ := nw_some.mp q
  refine nw_get (back_none e n q1) (hid_get q2 fun m => ?_)
  rw [List.mem_singleton.mp m, hL] at q1
  cases q1
theorem all_two {H : Hp} {p rm : Addr} {t R : Int} (hp : PurseAt H p t) (hrm : RoomAt H rm R) : All [p, rm] H := fun a ha => by
  obtain ⟨xs, hx⟩ := hp.lst
  simp only [List.mem_cons, List.not_mem_nil, or_false] at ha
  rcases ha with rfl | rfl
  · exact ⟨_, hx⟩
  · exact ⟨_, hrm⟩
/-- a row appended -/
theorem turn_next {H Hb Hz : Hp} {p rm L : Addr} {n : Nat} {m t R : Int} {i : Nat} {us : List V} {r s : Rows} {v : V} {t0 R0 R1 c0 c1 t1 : Int} {v5 v6 v7 v8 : Option V} (hA : All [p, rm] H) (hL : H L = none) (e1 : Ex (hid [p, rm] H) (hid [p, rm] Hb)) (hLb : Hb L = some (.lst us)) (hr : RwsAt (nw H (hid [L] Hb)) r us) (ha : AllLn LnOk r) (hsh : Shape r n) (hf : Few (nl r) i R R0 c0)
    (e2 : Ex (hid [p, rm] Hb) (hid [p, rm] Hz)) (hs : RwsAt (nw H (hid [L] Hz)) s [v]) (hsa : AllLn LnOk s) (hss : Shape s n) (hsn : s ≠ .nil) (h1 : 0 ≤ c1) (h2 : (nl s : Int) ≤ 1 + 12 * c1) (h3 : R1 ≤ R0 - 4 * c1) (h4 : c1 = 0 ∨ 4 * c1 ≤ R0 - 9) (hp : PurseAt Hz p t1) (hrm : RoomAt Hz rm R1) (ht0 : t0 ≤ t + (i : Int) * tau n) (ht1 : t1 ≤ t0 + tau n) (hul : us.length ≤ i) :
    TurnL H p rm L n m t R (i + 1) [some (.ref p), some (.ref rm), some (.int (n : Int)), some (.int m), some (.ref L), v5, v6, v7, v8] (upd Hz L (.lst (us ++ [v]))) := by
  have nLp : L ∉ [p, rm] := fun c => by obtain ⟨o, q⟩ := hA L c; rw [q] at hL; cases hL
  have npL : p ≠ L := fun c => nLp (by rw [← c]; exact List.mem_cons_self)
  have nrL : rm ≠ L := fun c => nLp (by rw [← c]; exact List.mem_cons_of_mem _ List.mem_cons_self)
  have keep : Ex (nw H (hid [L] Hb)) (nw H (hid [L] Hz)) := fun a o q => by
    obtain ⟨q1, q2⟩ := nw_some.mp q
    obtain ⟨q3, q4⟩ := hid_some.mp q2
    exact nw_get q1 (hid_get (ex_hid _ _ (e2 _ _ (hid_get q4 fun mm => by obtain ⟨u, z⟩ := hA a mm; rw [z] at q1; cases q1))) q3)
  have eL : hid [L] (upd Hz L (.lst (us ++ [v]))) = hid [L] Hz := hid_upd (by simp)
  refine ⟨us ++ [v], app r s, t1, R1, c0 + c1, v5, v6, v7, v8, rfl, hid_updNew hA hL (Evl.Ex.trans e1 e2), upd_same, ?_, all_append ha hsa, shape_append hsh hss, fun _ => ne_app hsn, ?_, hp.new npL, (upd_ne nrL).trans hrm, ?_, by rw [List.length_append, List.length_singleton]; omega⟩
  · rw [eL]
    exact rws_app (hr.mono keep) hs
  · rw [nl_app]
    exact hf.step h1 h2 h3 h4
  · have e : ((i + 1 : Nat) : Int) * tau n = (i : Int) * tau n + tau n := by rw [show ((i + 1 : Nat) : Int) = (i : Int) + 1 by omega, Int.add_mul, Int.one_mul]
    omega
def spRowsL (n : Nat) : Sp := fun vs H Q _ => ∃ (p rm : Addr) (d : Nat) (m t R : Int), vs = [.ref p, .ref rm, .int (d : Int), .int m] ∧ n = d + 1 ∧ PurseAt H p t ∧ RoomAt H rm R ∧ 0 ≤ m ∧ m ≤ 5 ∧ t + 100 * tau d < 2 ^ 55 ∧
  ∀ q us r t' R' c H', AllLn LnOk r → Shape r d → (1 ≤ m → r ≠ .nil) → Few (nl r) m R R' c → nw H H' q = some (.lst us) → RwsAt (nw H H') r us → Ex (hid [p, rm] H) (hid [p, rm] H') → PurseAt H' p t' → RoomAt H' rm R' → t' ≤ t + m * tau d → Q (.ref q) H'
theorem sc_z_rows : FnScope ["_law_purse_here", "_law_room", "_law_deep", "_law_many", "_law_rows_here", "_law_k", "_law_way", "_law_one", "_law_two"] ["_law_purse_here", "_law_room", "_law_deep", "_law_many"] (defScope s_z_rows) := ⟨rfl, rfl, rfl, by decide +kernel, rfl, by decide +kernel, by decide +kernel⟩
theorem rows_one (Z : Zf K mg) {n k : Nat} (RR : Df P w K mg base "_law_rows" k ["_law_purse_here", "_law_room", "_law_deep", "_law_many"] (spRowsL n)) (hk : 4 ≤ k) : Df P w K mg base "_law_rows" (k+1) ["_law_purse_here", "_law_room", "_law_deep", "_law_many"] (spRowsL (n+1)) := by
  refine def_ok Z 57 rfl (by decide +kernel) sc_z_rows (fun _ _ _ _ _ _ us hl => match us, hl with | [_, _, _, _], _ => rfl) (fun vs H Q E h => ?_) (fun f cdv A outer s H vs Q E hr h => ⟨_, (pss_cons (ps_asg (pe_lst pa_nil) (pgn 4 sc_z_rows.nd))
      (pss_cons (ps_for PassesOwn.never rfl (pi_range1 rfl (Z.free "range") (pa_cons (pv 3) pa_nil)) (pgn 5 sc_z_rows.nd)
      (C8.pss_cut (ps_asg (pe_ifExp (pt_cmpR op_gt (pe_ix ix_list (pv 1) pe_int (fun _ _ => rfl)) pe_int (nomark _)) (pe_callD (D_z_pick Z) hr (by omega) rfl (pa_cons (pv 0) (pa_cons pe_int pa_nil))) pe_int) (pgn 6 sc_z_rows.nd))
      (pss_one (ps_if (PW.pt (pw_and (pt_cmpR op_eq (pv 6) pe_int (nomark _)) (pw_and1 (pt_cmpR op_gt (pv 2) pe_int (nomark _))))) (pss_cons (ps_asg (pe_op op_sub (pe_ix ix_list (pv 1) pe_int (fun _ _ => rfl)) pe_int) (pg_sub (pv 1) pe_int set_list))
      (pss_cons (ps_asg (pe_callD RR hr (by omega) rfl (pa_cons (pv 0) (pa_cons (pv 1) (pa_cons (pe_op op_sub (pv 2) pe_int) (pa_cons (pe_callD (D_z_pick Z) hr (by omega) rfl (pa_cons (pv 0) (pa_cons pe_int pa_nil))) pa_nil))))) (pgn 7 sc_z_rows.nd))
      (pss_cons (ps_asg (pe_callD RR hr (by omega) rfl (pa_cons (pv 0) (pa_cons (pv 1) (pa_cons (pe_op op_sub (pv 2) pe_int) (pa_cons (pe_callD (D_z_pick Z) hr (by omega) rfl (pa_cons (pv 0) (pa_cons pe_int pa_nil))) pa_nil))))) (pgn 8 sc_z_rows.nd))
      (pss_one (ps_expr (pe_bm PySem.F.plainAttrs_list PySem.F.slot_list_append PySem.F.type_list_append mt_append (pv 4) (pa_cons (pe_lst (pa_cons pe_str (pa_cons (pe_callD (D_z_pick Z) hr (by omega) rfl (pa_cons (pv 0) (pa_cons pe_int pa_nil))) (pa_cons (pv 7) (pa_cons (pv 8) pa_nil))))) pa_nil))))))) (pss_one (ps_if (pt_cmpR op_eq (pv 6) pe_int (nomark _)) (pss_cons (ps_asg (pe_op op_sub (pe_ix ix_list (pv 1) pe_int (fun _ _ => rfl)) pe_int) (pg_sub (pv 1) pe_int set_list))
      (pss_one (ps_expr (pe_bm PySem.F.plainAttrs_list PySem.F.slot_list_append PySem.F.type_list_append mt_append (pv 4) (pa_cons (pe_lst (pa_cons pe_str (pa_cons (pe_op op_add pe_int (pe_callD (D_z_pick Z) hr (by omega) rfl (pa_cons (pv 0) (pa_cons pe_int pa_nil)))) (pa_cons (pe_callD (D_z_body Z) hr (by omega) rfl (pa_cons (pv 0) pa_nil)) pa_nil)))) pa_nil))))) (pss_cons (ps_asg (pe_op op_sub (pe_ix ix_list (pv 1) pe_int (fun _ _ => rfl)) pe_int) (pg_sub (pv 1) pe_int set_list))
      (pss_one (ps_expr (pe_bm PySem.F.plainAttrs_list PySem.F.slot_list_append PySem.F.type_list_append mt_append (pv 4) (pa_cons (pe_callD (D_z_line Z) hr (by omega) rfl (pa_cons (pv 0) pa_nil)) pa_nil)))))))))))
      (pss_one (ps_ret (pv 4))))), ?_⟩)
  · obtain ⟨p, rm, d, m, t, R, rfl, _⟩ := h
    rfl
  · obtain ⟨p, rm, d, m, t, R, rfl, hn, hp, hrm, m0, m5, ht, k1⟩ := h
    obtain rfl : n = d := by omega
    have hA : All [p, rm] H := fun a ha => by
      obtain ⟨xs, hx⟩ := hp.lst
      simp only [List.mem_cons, List.not_mem_nil, or_false] at ha
      rcases ha with rfl | rfl
      · exact ⟨_, hx⟩
      · exact ⟨_, hrm⟩
    have hT := tau_pos n
    walk_at "vc"
    intro L hL
    walk_at "vc"
    refine ⟨by omega, by omega, ?_⟩
    have nLp : L ∉ [p, rm] := fun c => by obtain ⟨o, q⟩ := hA L c; rw [q] at hL; cases hL
    have npL : p ≠ L := fun c => nLp (by rw [← c]; exact List.mem_cons_self)
    have nrL : rm ≠ L := fun c => nLp (by rw [← c]; exact List.mem_cons_of_mem _ List.mem_cons_self)
    refine for_go walk_range (fun i σ H' => TurnL H p rm L n m t R i σ H') ⟨[], .nil, t, R, 0, _, _, _, _, rfl, hid_mono (Evl.Ex.new hL), upd_same, rfl, trivial, trivial, fun c => absurd c (by decide), ⟨Int.le_refl 0, by simp [nl], by omega, .inl rfl⟩, hp.new npL, (upd_ne nrL).trans hrm, by rw [show ((0 : Nat) : Int) * tau n = 0 by simp]; omega, Nat.le_refl _⟩ (fun _ _ _ _ _ => trivial) ?_ ?_
    · rintro i x σ H1 H2 hi ⟨us, r, t0, R0, c, v5, v6, v7, v8, rfl, e1, hL1, hr1, ha1, hs1, hn1, hf1, hp1, hrm1, ht1, hul⟩ ⟨eH, rfl⟩
      rw [eH]
      have hi5 : (i : Int) ≤ 4 := by omega
      have hit : (i : Int) * tau n ≤ 4 * tau n := Int.mul_le_mul_of_nonneg_right hi5 (by omega)
      have hi0 : 0 ≤ (i : Int) * tau n := Int.mul_nonneg (by omega) (by omega)
      have hrmS := SqL.of (K := K) hrm1
      walk_at "vc"
      refine ⟨fun σ' H' => ∃ (way t2 : Int) (v7 v8 : Option V), σ' = [some (.ref p), some (.ref rm), some (.int (n : Int)), some (.int m), some (.ref L), some (.int (0 + (i : Int))), some (.int way), v7, v8] ∧ (way = 0 ∨ way = 1 → 12 < R0) ∧ Ex (hid [p] H1) (hid [p] H') ∧ PurseAt H' p t2 ∧ t2 ≤ t0 + 1, ?_, ?_⟩
      · walk_at "vc"
        by_cases cR : 12 < R0
        · refine iteT_of (decide_eq_true cR) ?_
          walk_at "vc"
          refine ⟨p, 6, t0, rfl, by decide, by decide, hp1, by omega, fun way H2 w0 w1 e2 hp2 => ?_⟩
          walk_at "vc"
          exact ⟨way, t0 + 1, _, _, rfl, fun _ => cR, e2, hp2, Int.le_refl _⟩
        · refine iteF_of (decide_eq_false cR) ?_
          walk_at "vc"
          exact ⟨5, t0, _, _, rfl, fun c => by omega, Evl.Ex.refl _, hp1, by omega⟩
      · rintro σ' H2 ⟨way, t2, v7, v8, rfl, hway, e2, hp2, ht2⟩
        have prm : rm ∉ [p] := fun c => purse_room hp1 hrm1 (List.mem_singleton.mp c).symm
        have pL : L ∉ [p] := fun c => npL (List.mem_singleton.mp c).symm
        have wide : ∀ {X Y : Hp}, Ex (hid [p] X) (hid [p] Y) → Ex (hid [p, rm] X) (hid [p, rm] Y) := fun {X Y} e a o q => by
          obtain ⟨q1, q2⟩ := hid_some.mp q
          exact hid_get (ex_hid _ _ (e _ _ (hid_get q2 fun mm => q1 (by rw [List.mem_singleton.mp mm]; exact List.mem_cons_self)))) q1
        have hL2 : H2 L = some (.lst us) := ex_hid _ _ (e2 _ _ (hid_get hL1 pL))
        have hrm2 : RoomAt H2 rm R0 := ex_hid _ _ (e2 _ _ (hid_get hrm1 prm))
        have hrm2S := SqL.of (K := K) hrm2
        walk_at "vc"
        by_cases c0 : way = 0
        · by_cases cn : 0 < n
          · refine iteT_of (decide_eq_true (by rw [c0])) ?_
            walk_at "vc"
            refine iteT_of (decide_eq_true (by omega)) ?_
            have hR := hway (.inl c0)
            obtain ⟨d', rfl⟩ : ∃ d', n = d' + 1 := ⟨n - 1, by omega⟩
            have hT' := tau_pos d'
            have hTe : tau (d' + 1) = 125 + 5 * tau d' := rfl
            walk_at "vc"
            have hrm3 : RoomAt (upd H2 rm (.lst [.int (R0 - 4)])) rm (R0 - 4) := upd_same
            have hp3 : PurseAt (upd H2 rm (.lst [.int (R0 - 4)])) p t2 := hp2.new (purse_room hp2 hrm2)
            have hL3 : upd H2 rm (.lst [.int (R0 - 4)]) L = some (.lst us) := (upd_ne nrL.symm).trans hL2
            have e3 : Ex (hid [p, rm] H1) (hid [p, rm] (upd H2 rm (.lst [.int (R0 - 4)]))) := by
              rw [hid_upd (by simp)]
              exact wide e2
            refine ⟨p, 4, t2, rfl, by decide, by decide, hp3, by omega, fun m1 H4 m10 m11 e4 hp4 => ?_⟩
            have hL4 : H4 L = some (.lst us) := ex_hid _ _ (e4 _ _ (hid_get hL3 pL))
            have hrm4 : RoomAt H4 rm (R0 - 4) := ex_hid _ _ (e4 _ _ (hid_get hrm3 prm))
            refine ⟨p, rm, d', m1, t2 + 1, R0 - 4, by rw [show ((d' + 1 : Nat) : Int) - 1 = (d' : Int) by omega], rfl, hp4, hrm4, m10, by omega, by omega, fun q1 us1 r1 t5 R1 c1 H5 al1 sh1 _ few1 hq1 rw1 e5 hp5 hrm5 ht5 => ?_⟩
            have hL5 : H5 L = some (.lst us) := ex_hid _ _ (e5 _ _ (hid_get hL4 nLp))
            have mt1 : m1 * tau d' ≤ 3 * tau d' := Int.mul_le_mul_of_nonneg_right (by omega) (by omega)
            walk_at "vc"
            refine ⟨p, 3, t5, rfl, by decide, by decide, hp5, by omega, fun m2 H6 m20 m21 e6 hp6 => ?_⟩
            have hL6 : H6 L = some (.lst us) := ex_hid _ _ (e6 _ _ (hid_get hL5 pL))
            have hrm6 : RoomAt H6 rm R1 := ex_hid _ _ (e6 _ _ (hid_get hrm5 prm))
            refine ⟨p, rm, d', m2, t5 + 1, R1, by rw [show ((d' + 1 : Nat) : Int) - 1 = (d' : Int) by omega], rfl, hp6, hrm6, m20, by omega, by omega, fun q2 us2 r2 t7 R2 c2 H7 al2 sh2 _ few2 hq2 rw2 e7 hp7 hrm7 ht7 => ?_⟩
            have hL7 : H7 L = some (.lst us) := ex_hid _ _ (e7 _ _ (hid_get hL6 nLp))
            have mt2 : m2 * tau d' ≤ 2 * tau d' := Int.mul_le_mul_of_nonneg_right (by omega) (by omega)
            walk_at "vc"
            refine ⟨ty_list (SqL.of hL7), ?_⟩
            walk_at "vc"
            refine ⟨p, 13, t7, rfl, by decide, by decide, hp7, by omega, fun b H8 b0 b1 e8 hp8 => ?_⟩
            have hL8 : H8 L = some (.lst us) := ex_hid _ _ (e8 _ _ (hid_get hL7 pL))
            have hrm8 : RoomAt H8 rm R2 := ex_hid _ _ (e8 _ _ (hid_get hrm7 prm))
            walk_at "vc"
            intro p9 hp9
            have e9 := Evl.Ex.new (o := .lst [.str "if", .int b, .ref q1, .ref q2]) hp9
            refine ⟨L, us, .ref p9, rfl, rfl, e9 _ _ hL8, by rw [sizeLine_eq]; omega, ?_⟩
            walk_at "vc"
            have e04 := Evl.Ex.trans e1 (Evl.Ex.trans e3 (wide e4))
            have e06 := Evl.Ex.trans e04 (Evl.Ex.trans e5 (wide e6))
            have e59 := Evl.Ex.trans (wide e6) (Evl.Ex.trans e7 (Evl.Ex.trans (wide e8) (hid_mono e9)))
            have e79 := Evl.Ex.trans (wide e8) (hid_mono (as := [p, rm]) e9)
            have into1 := Evl.Ex.trans (nw_hidmono e59 (all_two hp4 hrm4)) (nw_into e04 (all_two hp4 hrm4) hL4)
            have into2 := Evl.Ex.trans (nw_hidmono e79 (all_two hp6 hrm6)) (nw_into e06 (all_two hp6 hrm6) hL6)
            have e08 := Evl.Ex.trans e06 (Evl.Ex.trans e7 (wide e8))
            have np9 : p9 ≠ L := fun c => by rw [c, hL8] at hp9; cases hp9
            have h9 : nw H (hid [L] (upd H8 p9 (.lst [.str "if", .int b, .ref q1, .ref q2]))) p9 = some (.lst [.str "if", .int b, .ref q1, .ref q2]) := nw_get (back_none e08 (all_two hp8 hrm8) hp9) (hid_get upd_same (by simp; exact np9))
            obtain ⟨f1, f2, f3, f4⟩ := few1
            obtain ⟨f5, f6, f7, f8⟩ := few2
            refine turn_next hA hL e1 hL1 hr1 ha1 hs1 hf1 (Evl.Ex.trans e3 (Evl.Ex.trans (wide e4) (Evl.Ex.trans e5 e59))) (s := .iff b (!isNil r2) r1 r2 .nil) ⟨p9, q1, q2, us1, us2, [], rfl, h9, into1 _ _ hq1, rw1.mono into1, into2 _ _ hq2, rw2.mono into2, rfl, rfl⟩ ⟨al1, al2, trivial⟩ ⟨b0, by omega, ?_, ⟨d', rfl, sh1, sh2⟩, trivial⟩ (fun c => by cases c) (c1 := 1 + c1 + c2) (by omega) ?_ (by omega) (.inr (by omega)) (hp8.new (hp8.neNew hp9)) (e9 _ _ hrm8) ht1 (by omega) hul
            · intro hnil
              cases r2 with
              | nil => rfl
              | line _ _ => cases hnil
              | iff _ _ _ _ _ => cases hnil
              | whl _ _ _ => cases hnil
            · simp only [nl]
              split <;> omega
          · refine iteT_of (decide_eq_true (by rw [c0])) ?_
            walk_at "vc"
            refine iteF_of (decide_eq_false (by omega)) ?_
            walk_at "vc"
            refine iteF_of (decide_eq_false fun e => by have := V.int.inj e; omega) ?_
            walk_at "vc"
            have hrm3 : RoomAt (upd H2 rm (.lst [.int (R0 - 1)])) rm (R0 - 1) := upd_same
            have hp3 : PurseAt (upd H2 rm (.lst [.int (R0 - 1)])) p t2 := hp2.new (purse_room hp2 hrm2)
            have hL3 : upd H2 rm (.lst [.int (R0 - 1)]) L = some (.lst us) := (upd_ne nrL.symm).trans hL2
            have e3 : Ex (hid [p, rm] H1) (hid [p, rm] (upd H2 rm (.lst [.int (R0 - 1)]))) := by
              rw [hid_upd (by simp)]
              exact wide e2
            refine ⟨ty_list (SqL.of hL3), ?_⟩
            walk_at "vc"
            refine ⟨p, t2, rfl, hp3, by omega, fun v l t4 H4 hl _ e4 hv hp4 ht4 => ?_⟩
            have hL4 : H4 L = some (.lst us) := ex_hid _ _ (e4 _ _ (hid_get hL3 pL))
            have hrm4 : RoomAt H4 rm (R0 - 1) := ex_hid _ _ (e4 _ _ (hid_get hrm3 prm))
            refine ⟨L, us, v, rfl, rfl, hL4, by rw [sizeLine_eq]; omega, ?_⟩
            walk_at "vc"
            exact turn_next hA hL e1 hL1 hr1 ha1 hs1 hf1 (Evl.Ex.trans e3 (wide e4)) (s := .line l .nil) ⟨v, [], rfl, hv.mono (nw_into (Evl.Ex.trans e1 e3) (all_two hp3 hrm3) hL3), rfl⟩ ⟨hl, trivial⟩ ⟨byn_nonneg hl, trivial⟩ (fun c => by cases c) (c1 := 0) (Int.le_refl 0) (by simp [nl]) (by omega) (.inl rfl) hp4 hrm4 ht1 (by omega) hul
        · refine iteF_of (decide_eq_false fun e => c0 (V.int.inj e)) ?_
          walk_at "vc"
          by_cases c1 : way = 1
          · refine iteT_of (decide_eq_true (by rw [c1])) ?_
            have hR := hway (.inr c1)
            walk_at "vc"
            have hrm3 : RoomAt (upd H2 rm (.lst [.int (R0 - 8)])) rm (R0 - 8) := upd_same
            have hp3 : PurseAt (upd H2 rm (.lst [.int (R0 - 8)])) p t2 := hp2.new (purse_room hp2 hrm2)
            have hL3 : upd H2 rm (.lst [.int (R0 - 8)]) L = some (.lst us) := (upd_ne nrL.symm).trans hL2
            have e3 : Ex (hid [p, rm] H1) (hid [p, rm] (upd H2 rm (.lst [.int (R0 - 8)]))) := by
              rw [hid_upd (by simp)]
              exact wide e2
            refine ⟨ty_list (SqL.of hL3), ?_⟩
            walk_at "vc"
            refine ⟨p, 12, t2, rfl, by decide, by decide, hp3, by omega, fun b H4 b0 b1 e4 hp4 => ?_⟩
            have hL4 : H4 L = some (.lst us) := ex_hid _ _ (e4 _ _ (hid_get hL3 pL))
            have hrm4 : RoomAt H4 rm (R0 - 8) := ex_hid _ _ (e4 _ _ (hid_get hrm3 prm))
            walk_at "vc"
            refine ⟨p, _, rfl, hp4, by omega, fun q us5 ls t5 H5 hls l1 l8 ll e5 hq5 hlr hp5 ht5 => ?_⟩
            have hL5 : H5 L = some (.lst us) := ex_hid _ _ (e5 _ _ (hid_get hL4 pL))
            have hrm5 : RoomAt H5 rm (R0 - 8) := ex_hid _ _ (e5 _ _ (hid_get hrm4 prm))
            walk_at "vc"
            intro p6 hp6
            have e6 := Evl.Ex.new (o := .lst [.str "while", .int (1 + b), .ref q]) hp6
            refine ⟨L, us, .ref p6, rfl, rfl, e6 _ _ hL5, by rw [sizeLine_eq]; omega, ?_⟩
            walk_at "vc"
            have e14 := Evl.Ex.trans e1 (Evl.Ex.trans e3 (wide e4))
            have into5 : Ex (nw H4 H5) (nw H (hid [L] (upd H5 p6 (.lst [.str "while", .int (1 + b), .ref q])))) := Evl.Ex.trans (nw_mono e6) (nw_into e14 (all_two hp4 hrm4) hL4)
            have e15 := Evl.Ex.trans e14 (wide e5)
            have np6 : p6 ≠ L := fun c => by rw [c, hL5] at hp6; cases hp6
            have h6 : nw H (hid [L] (upd H5 p6 (.lst [.str "while", .int (1 + b), .ref q]))) p6 = some (.lst [.str "while", .int (1 + b), .ref q]) := nw_get (back_none e15 (all_two hp5 hrm5) hp6) (hid_get upd_same (by simp; exact np6))
            refine turn_next hA hL e1 hL1 hr1 ha1 hs1 hf1 (Evl.Ex.trans e3 (Evl.Ex.trans (wide e4) (Evl.Ex.trans (wide e5) (hid_mono e6)))) (s := .whl (1 + b) (ofLns ls) .nil) ⟨p6, q, us5, [], rfl, h6, into5 _ _ hq5, (ofLns_rws hlr).mono into5, rfl⟩ ⟨ofLns_all hls, trivial⟩ ⟨by omega, by omega, ofLns_flat ls, ofLns_shape hls, by rw [ofLns_steps]; exact l1, by rw [ofLns_steps]; exact l8, trivial⟩ (fun c => by cases c) (c1 := 1) (by decide) ?_ (by omega) (.inr (by omega)) (hp5.new (hp5.neNew hp6)) (e6 _ _ hrm5) ht1 (by omega) hul
            simp only [nl, ofLns_nl]
            omega
          · refine iteF_of (decide_eq_false fun e => c1 (V.int.inj e)) ?_
            walk_at "vc"
            have hrm3 : RoomAt (upd H2 rm (.lst [.int (R0 - 1)])) rm (R0 - 1) := upd_same
            have hp3 : PurseAt (upd H2 rm (.lst [.int (R0 - 1)])) p t2 := hp2.new (purse_room hp2 hrm2)
            have hL3 : upd H2 rm (.lst [.int (R0 - 1)]) L = some (.lst us) := (upd_ne nrL.symm).trans hL2
            have e3 : Ex (hid [p, rm] H1) (hid [p, rm] (upd H2 rm (.lst [.int (R0 - 1)]))) := by
              rw [hid_upd (by simp)]
              exact wide e2
            refine ⟨ty_list (SqL.of hL3), ?_⟩
            walk_at "vc"
            refine ⟨p, t2, rfl, hp3, by omega, fun v l t4 H4 hl _ e4 hv hp4 ht4 => ?_⟩
            have hL4 : H4 L = some (.lst us) := ex_hid _ _ (e4 _ _ (hid_get hL3 pL))
            have hrm4 : RoomAt H4 rm (R0 - 1) := ex_hid _ _ (e4 _ _ (hid_get hrm3 prm))
            refine ⟨L, us, v, rfl, rfl, hL4, by rw [sizeLine_eq]; omega, ?_⟩
            walk_at "vc"
            exact turn_next hA hL e1 hL1 hr1 ha1 hs1 hf1 (Evl.Ex.trans e3 (wide e4)) (s := .line l .nil) ⟨v, [], rfl, hv.mono (nw_into (Evl.Ex.trans e1 e3) (all_two hp3 hrm3) hL3), rfl⟩ ⟨hl, trivial⟩ ⟨byn_nonneg hl, trivial⟩ (fun c => by cases c) (c1 := 0) (Int.le_refl 0) (by simp [nl]) (by omega) (.inl rfl) hp4 hrm4 ht1 (by omega) hul
    · rintro σ H1 ⟨us, r, t0, R0, c, v5, v6, v7, v8, rfl, e1, hL1, hr1, ha1, hs1, hn1, hf1, hp1, hrm1, ht1, hul⟩
      walk_at "vc"
      have em : ((m.toNat : Nat) : Int) = m := by omega
      rw [em] at ht1 hf1
      refine k1 L us r t0 R0 c H1 ha1 hs1 (fun h => hn1 (by omega)) hf1 (nw_get hL hL1) (hr1.mono fun a o q => nw_get (nw_some.mp q).1 (ex_hid _ _ (nw_some.mp q).2)) e1 hp1 hrm1 ht1
end
theorem df_noneK {P : Program} {w : World} {K : PySem.W.Frag} {mg : Str → Option Value} {base : Heap} {ps : List Str} {sp : Sp} (Z : Zf K mg) (k i : Nat) {x : Str} {st : Stmt} (h : fns[i]? = some ⟨.glo x, x, x, defArgs st, defBody st, defScope st, [], []⟩) (hx : decide (x ∈ gloNames) = true)
    (bind : ∀ (kV doc pm : Value) (an : Option Addr) (cdv ct : Value) (us : List Value), us.length = ps.length → bindArgs (PySem.W.fnOf x x (defArgs st) (defBody st) (defScope st) .none kV doc pm an cdv ct) ⟨us, []⟩ = pure (ps.zip us))
    (no : ∀ vs H Q E, ¬ sp vs H Q E) : Df P w K mg base x k ps sp := by
  obtain ⟨fd, F⟩ := Z.def_ i h
  exact ⟨He.ga K x, fd, ⟨fun vs H Q E h => absurd h (no vs H Q E), fun A outer s H args us vs Q E _ _ _ _ h => absurd h (no vs H Q E)⟩, Z.glo x hx, F.kp, F.bindsN bind⟩
theorem D_rowsL {P : Program} {w : World} {K : PySem.W.Frag} {mg : Str → Option Value} {base : Heap} (Z : Zf K mg) : ∀ n : Nat, Df P w K mg base "_law_rows" (n + 4) ["_law_purse_here", "_law_room", "_law_deep", "_law_many"] (spRowsL n)
  | 0 => df_noneK Z 4 57 (st := s_z_rows) rfl (by decide +kernel) (fun _ _ _ _ _ _ us hl => match us, hl with | [_, _, _, _], _ => rfl) (fun vs H Q E ⟨_, _, _, _, _, _, _, h, _⟩ => by omega)
  | n + 1 => rows_one Z (D_rowsL Z n) (by omega)
end Ov
/-! text OvL5 -/
set_option Elab.async false
set_option linter.all false
set_option maxRecDepth 100000
namespace Ov
open PySem PySem.Spec PyProof.Rows L2
open Rows TL
local macro_rules | `(tactic| walk_at "hp") => `(tactic| first
  | assumption
  | exact upd_same
  | (refine Evl.Ex.new (by assumption) _ _ ?_; walk_at "hp")
  | (refine (by assumption : Evl.Ex _ _) _ _ ?_; walk_at "hp"))
local macro_rules | `(tactic| walk_at "sq") => `(tactic| first
  | assumption
  | exact SqL.of (by walk_at "hp")
  | exact SqT.of (by walk_at "hp")
  | (refine Evl.ex_l (by assumption) ?_; walk_at "sq")
  | (refine Evl.ex_t (by assumption) ?_; walk_at "sq")
  | (refine Evl.ex_l (Evl.Ex.new (by assumption)) ?_; walk_at "sq")
  | (refine Evl.ex_t (Evl.Ex.new (by assumption)) ?_; walk_at "sq"))
local macro_rules | `(tactic| walk_at "ex") => `(tactic| first
  | assumption
  | exact Evl.Ex.refl _
  | (refine Evl.Ex.trans ?_ (Evl.Ex.new (by assumption)); walk_at "ex")
  | (refine Evl.Ex.trans ?_ (by assumption); walk_at "ex"))
local macro_rules | `(tactic| walk_at "s1") => `(tactic| first
  | refine ⟨_, rfl, ?_⟩
  | refine ⟨rfl, ?_⟩
  | refine ⟨_, _, rfl, rfl, ?_⟩
  | refine ⟨_, _, _, rfl, rfl, ?_⟩)
local macro_rules | `(tactic| walk_at "st") => `(tactic| repeat walk_at "s1")
local macro_rules | `(tactic| walk_at "v1") => `(tactic| first
  | ((with_reducible refine' s_var ?vch ?_); (case vch => exact rfl))
  | with_reducible refine' s_c ?_
  | with_reducible refine' s_seq ?_
  | with_reducible refine' s_asg ?_
  | with_reducible refine' s_name ?_
  | with_reducible refine' s_cons ?_
  | with_reducible refine' s_nil ?_
  | with_reducible refine' s_op ?_
  | with_reducible refine' s_rI0 ?_
  | with_reducible refine' s_ret ?_
  | with_reducible refine' s_test ?_
  | with_reducible refine' s_ifS ?_
  | with_reducible refine' s_call ?_
  | with_reducible refine' s_cb ?_
  | ((with_reducible refine' s_rEq ?vch ?_); (case vch => exact rfl))
  | ((with_reducible refine' s_rNe ?vch ?_); (case vch => exact rfl))
  | ((with_reducible refine' s_ixT ?vch ?vca ?_); (case vch => walk_at "sq"); (case vca => first | exact rfl | exact at_nat 0 rfl | exact at_nat 1 rfl | exact at_nat 2 rfl | exact at_nat 3 rfl | exact at_nat 4 rfl))
  | ((with_reducible refine' s_ixL ?vch ?vca ?_); (case vch => walk_at "sq"); (case vca => first | exact rfl | exact at_nat 0 rfl | exact at_nat 1 rfl | exact at_nat 2 rfl | exact at_nat 3 rfl | exact at_nat 4 rfl))
  | with_reducible refine iteT' ?_
  | with_reducible refine iteF' ?_
  | with_reducible refine' ex_bl ?_
  | with_reducible refine' ex_int ?_
  | with_reducible refine' ex_str ?_
  | with_reducible refine' ex_int1 ?_
  | with_reducible refine' ex_str1 ?_
  | with_reducible refine' ex_int2 ?_
  | with_reducible refine' ex_pair ?_
  | with_reducible refine' s_un ?_
  | with_reducible refine' s_B ?_
  | with_reducible refine' s_andV ?_
  | with_reducible refine' s_orV ?_
  | with_reducible refine' s_notV ?_
  | with_reducible refine' s_and ?_
  | with_reducible refine' s_or ?_
  | with_reducible refine' s_not ?_
  | with_reducible refine' s_if ?_
  | with_reducible refine' s_chain ?_
  | with_reducible refine' s_next ?_
  | with_reducible refine' s_break ?_
  | with_reducible refine' s_cont ?_
  | with_reducible refine' s_drop ?_
  | with_reducible refine' s_retN ?_
  | with_reducible refine' s_par ?_
  | ((with_reducible refine' s_aug ?vch ?_); (case vch => exact rfl))
  | with_reducible refine' s_ip ?_
  | with_reducible refine' s_gcons ?_
  | with_reducible refine' s_gnil ?_
  | ((with_reducible refine' s_gtup ?vch ?vca ?_); (case vch => walk_at "sq"); (case vca => exact rfl))
  | with_reducible refine' s_tup ?_
  | with_reducible refine' s_lst ?_
  | with_reducible refine' s_sl ?_
  | with_reducible refine' s_part ?_
  | with_reducible refine' s_nopart ?_
  | with_reducible refine' s_fld ?_
  | with_reducible refine' s_make ?_
  | with_reducible refine' s_meth ?_
  | with_reducible refine' s_prop ?_
  | with_reducible refine' s_makeK ?_
  | with_reducible refine' s_gsub ?_
  | ((with_reducible refine' s_setL ?vch ?vca ?_); (case vch => walk_at "hp"); (case vca => exact rfl))
  | with_reducible refine' s_par3 ?_
  | with_reducible refine' ex_three ?_
  | with_reducible refine' s_star ?_
  | with_reducible refine' s_dnewK ?_
  | with_reducible refine' s_dsetd ?_
  | with_reducible refine' s_methR ?_
  | with_reducible refine' s_fldaug ?_
  | with_reducible refine' s_dictzip ?_
  | with_reducible refine' s_sfld ?_
  | with_reducible refine' s_bm ?_
  | with_reducible refine' s_bm0 ?_
  | with_reducible refine' s_m1 ?_
  | with_reducible refine' s_dget ?_
  | with_reducible refine' s_lc ?_
  | with_reducible refine' s_for ?_
  | with_reducible refine' s_iList ?_
  | with_reducible refine' s_iTup ?_
  | with_reducible refine' s_iStr ?_
  | with_reducible refine' s_iRng1 ?_
  | with_reducible refine' s_iRng2 ?_
  | with_reducible refine' s_yes ?_
  | with_reducible refine' s_rU ?_
  | ((with_reducible refine' s_isiP ?vch ?_); (case vch => exact rfl))
  | ((with_reducible refine' ex_lenL ?vch ?_); (case vch => walk_at "sq"))
  | ((with_reducible refine' ex_lenT ?vch ?_); (case vch => walk_at "sq"))
  | ((with_reducible refine' ex_tupL ?vch ?_); (case vch => walk_at "sq"))
  | ((with_reducible refine' ex_lstT ?vch ?_); (case vch => walk_at "sq"))
  | ((with_reducible refine' ex_srcL ?vch ?_); (case vch => walk_at "sq"))
  | ((with_reducible refine' ex_srcT ?vch ?_); (case vch => walk_at "sq"))
  | ((with_reducible refine' s_mk ?vch ?_); (case vch => exact small_le (Nat.le_of_ble_eq_true rfl)))
  | with_reducible refine' ⟨_, _, rfl, rfl, ?_⟩
  | with_reducible refine' ⟨⟨_, rfl⟩, ?_⟩
  | with_reducible refine' ⟨rfl, ?_⟩
  | ((with_reducible refine' iteT_of ?vch ?_); (case vch => exact rfl))
  | ((with_reducible refine' iteF_of ?vch ?_); (case vch => exact rfl)))
local macro_rules | `(tactic| walk_at "vc") => `(tactic| repeat walk_at "v1")
/-! ### rows as data -/
theorem lineT_ok {ws : List Str} (h : LineOk ws) : (lineT ws).cps.all (· < 0x110000) = true := by
  have q : ∀ x ∈ tl (lineT ws), x < 0x110000 := by
    unfold lineT
    rw [join_eq, tl_join, tl_sp]
    intro x hx
    rcases joinL_mem hx with e | ⟨p, hp, hm⟩
    · omega
    · obtain ⟨z, hz, rfl⟩ := List.mem_map.mp hp
      have a := wd_ok (h.2.2 z hz)
      rw [Array.all_eq_true_iff_forall_mem] at a
      have b := a x (Array.mem_toList_iff.mp hm)
      simpa using b
  rw [Array.all_eq_true_iff_forall_mem]
  intro x hx
  have b := q x (Array.mem_toList_iff.mpr hx)
  simpa using b
theorem rws_data {K : PySem.W.Frag} {H : Hp} : ∀ {r : Rows} {vs : List V}, AllLn LnOk r → RwsAt H r vs → ∃ ds : List PyData, DpAll K H vs ds ∧ PyData.canLayAll0 ds = true ∧ PyData.depthAll ds ≤ 2 * dep r + 1 ∧ (PyData.eqvAll ds [] = isNil r)
  | .nil, vs, _, h => by
    have e : vs = [] := h
    subst e
    exact ⟨[], .nil, by simp [PyData.canLayAll0], by simp [PyData.depthAll], by simp [PyData.eqvAll, isNil]⟩
  | .line l r, _, ha, ⟨v, vs', rfl, ⟨p, hv, hp⟩, c⟩ => by
    obtain ⟨ds, d1, d2, d3, _⟩ := rws_data (K := K) ha.2 c
    subst hv
    refine ⟨.list [.str "line", .int l.kind, .str (lineT (lw l)), .int l.byn] :: ds, .cons (.lst (SqL.of hp) (.cons (.str _) (.cons (.int _) (.cons (.str _) (.cons (.int _) .nil))))) d1, ?_, ?_, ?_⟩
    · have a1 : (PyData.str "line").canLay0 = true := by simp only [PyData.canLay0]; decide +kernel
      have a2 : (PyData.str (lineT (lw l))).canLay0 = true := by simp only [PyData.canLay0]; exact lineT_ok (lw_ok ha.1)
      simp only [PyData.canLayAll0, PyData.canLay0] at a1 a2 ⊢
      rw [a1, a2, d2]
      rfl
    · simp only [PyData.depthAll, PyData.depth, dep]
      omega
    · simp [PyData.eqvAll, isNil]
  | .iff b e one two r, _, ha, ⟨p, p1, p2, vs1, vs2, vs', rfl, hp, h1, i1, h2, i2, he, i3⟩ => by
    obtain ⟨ds, d1, d2, d3, _⟩ := rws_data (K := K) ha.2.2 i3
    obtain ⟨ds1, e1, e2, e3, _⟩ := rws_data (K := K) ha.1 i1
    obtain ⟨ds2, f1, f2, f3, _⟩ := rws_data (K := K) ha.2.1 i2
    refine ⟨.list [.str "if", .int b, .list ds1, .list ds2] :: ds, .cons (.lst (SqL.of hp) (.cons (.str _) (.cons (.int _) (.cons (.lst (SqL.of h1) e1) (.cons (.lst (SqL.of h2) f1) .nil))))) d1, ?_, ?_, ?_⟩
    · have a1 : (PyData.str "if").canLay0 = true := by simp only [PyData.canLay0]; decide +kernel
      simp only [PyData.canLayAll0, PyData.canLay0] at a1 ⊢
      rw [a1, e2, f2, d2]
      rfl
    · simp only [PyData.depthAll, PyData.depth, dep]
      omega
    · simp [PyData.eqvAll, isNil]
  | .whl b body r, _, ha, ⟨p, p1, vs1, vs', rfl, hp, h1, i1, i3⟩ => by
    obtain ⟨ds, d1, d2, d3, _⟩ := rws_data (K := K) ha.2 i3
    obtain ⟨ds1, e1, e2, e3, _⟩ := rws_data (K := K) ha.1 i1
    refine ⟨.list [.str "while", .int b, .list ds1] :: ds, .cons (.lst (SqL.of hp) (.cons (.str _) (.cons (.int _) (.cons (.lst (SqL.of h1) e1) .nil)))) d1, ?_, ?_, ?_⟩
    · have a1 : (PyData.str "while").canLay0 = true := by simp only [PyData.canLay0]; decide +kernel
      simp only [PyData.canLayAll0, PyData.canLay0] at a1 ⊢
      rw [a1, e2, d2]
      rfl
    · simp only [PyData.depthAll, PyData.depth, dep]
      omega
    · simp [PyData.eqvAll, isNil]
theorem shaped_of {ds : List PyData} (h1 : PyData.canLayAll0 ds = true) (h2 : PyData.depthAll ds ≤ 60) : SeqAt.shaped (.list ds) = true := by
  show ((PyData.list ds).canLay0 && decide ((PyData.list ds).depth ≤ 64)) = true
  rw [Bool.and_eq_true]
  refine ⟨by simp only [PyData.canLay0]; exact h1, decide_eq_true ?_⟩
  simp only [PyData.depth]
  omega
section
variable {P : Program} {w : World} {K : PySem.W.Frag} {mg : Str → Option Value} {base : Heap}
theorem for_rws {J : It} {vs : List V} {G : Hp → Prop} (w : Walk J vs.length G (YAt vs)) {g : TG} {tb : TS} {D : Ends} {σ : L2.St} {H : Hp} {H0 : Hp} (In : Rows → L2.St → Hp → Prop) (r0 : Rows) (hI : RwsAt H0 r0 vs) (h0 : In r0 σ H) (hG : ∀ r σ H, In r σ H → G H)
    (hs : ∀ r x vs' σ H, In r σ H → RwsAt H0 r (x :: vs') → g x σ H fun σ2 H2 => tb { D with nx := fun σ H => ∃ r', RwsAt H0 r' vs' ∧ In r' σ H, ct := fun σ H => ∃ r', RwsAt H0 r' vs' ∧ In r' σ H, bk := D.nx } σ2 H2) (hd : ∀ σ H, In .nil σ H → D.nx σ H) : ForGo J g tb D σ H :=
  for_rows w (RwsAt H0) (fun r h => by
    cases r with
    | nil => rfl
    | line _ _ => obtain ⟨_, _, h, _⟩ := h; cases h
    | iff _ _ _ _ _ => obtain ⟨_, _, _, _, _, _, h, _⟩ := h; cases h
    | whl _ _ _ => obtain ⟨_, _, _, _, h, _⟩ := h; cases h) In r0 hI h0 hG hs hd
/-! ### the lines' texts -/
def spLinesL (n : Nat) : Sp := fun vs H Q _ => ∃ (a : Addr) (us : List V) (r : Rows) (d : Nat), vs = [.ref a] ∧ H a = some (.lst us) ∧ RwsAt H r us ∧ AllLn LnOk r ∧ Shape r d ∧ dep r < n ∧ dep r ≤ 5 ∧ nl r ≤ 300 ∧ ∀ p H', Ex H H' → H p = none → H' p = some (.lst (((wl r).map lineT).map V.str)) → Q (.ref p) H'
theorem sc_z_lines : FnScope ["_law_rows_here", "_law_found", "_law_row"] ["_law_rows_here"] (defScope s_z_lines) := ⟨rfl, rfl, rfl, by decide +kernel, rfl, by decide +kernel, by decide +kernel⟩
theorem linesL_one (Z : Zf K mg) {n : Nat} (R : Df P w K mg base "_law_lines" n ["_law_rows_here"] (spLinesL n)) : Df P w K mg base "_law_lines" (n+1) ["_law_rows_here"] (spLinesL (n+1)) := by
  refine def_ok Z 58 rfl (by decide +kernel) sc_z_lines (fun _ _ _ _ _ _ us hl => match us, hl with | [_], _ => rfl) (fun vs H Q E h => ?_) (fun f cdv A outer s H vs Q E hr h => ⟨_, (pss_cons (ps_asg (pe_lst pa_nil) (pgn 1 sc_z_lines.nd))
      (pss_cons (ps_for PassesOwn.never rfl (pi_list (pv 0)) (pgn 2 sc_z_lines.nd)
      (pss_one (ps_if (pt_cmpR op_eq (pe_ix ix_list (pv 2) pe_int (fun _ _ => rfl)) pe_str (nomark _)) (pss_one (ps_expr (pe_bm PySem.F.plainAttrs_list PySem.F.slot_list_append PySem.F.type_list_append mt_append (pv 1) (pa_cons (pe_ix ix_list (pv 2) pe_int (fun _ _ => rfl)) pa_nil)))) (pss_cons (ps_expr (pe_bm PySem.F.plainAttrs_list PySem.F.slot_list_extend PySem.F.type_list_extend mt_extend (pv 1) (pa_cons (pe_op op_cat (pe_lst (pa_cons (pe_op op_add_str (pe_op op_add_str (pe_ix ix_list (pv 2) pe_int (fun _ _ => rfl)) pe_str) (pe_callTy call_str_int (by rfl) (Z.free "str") (by decide +kernel) (pa_cons (pe_ix ix_list (pv 2) pe_int (fun _ _ => rfl)) pa_nil))) pa_nil)) (pe_callD R hr (by omega) rfl (pa_cons (pe_ix ix_list (pv 2) pe_int (fun _ _ => rfl)) pa_nil))) pa_nil)))
      (pss_cons (ps_if (PW.pt (pw_and (pt_cmpR op_eq (pe_ix ix_list (pv 2) pe_int (fun _ _ => rfl)) pe_str (nomark _)) (pw_and1 (pt_cmpR (op_neD (units64 hr)) (pe_ix ix_list (pv 2) pe_int (fun _ _ => rfl)) (pe_lst pa_nil) (nomark _))))) (pss_one (ps_expr (pe_bm PySem.F.plainAttrs_list PySem.F.slot_list_extend PySem.F.type_list_extend mt_extend (pv 1) (pa_cons (pe_op op_cat (pe_lst (pa_cons pe_str pa_nil)) (pe_callD R hr (by omega) rfl (pa_cons (pe_ix ix_list (pv 2) pe_int (fun _ _ => rfl)) pa_nil))) pa_nil)))) pss_nil)
      (pss_one (ps_expr (pe_bm PySem.F.plainAttrs_list PySem.F.slot_list_append PySem.F.type_list_append mt_append (pv 1) (pa_cons pe_str pa_nil)))))))))
      (pss_one (ps_ret (pv 1))))), ?_⟩)
  · obtain ⟨a, us, r, d, rfl, _⟩ := h
    rfl
  · obtain ⟨a, us, rows, d, rfl, ha, hr, hal, hsh, hdp, hd5, hnl, k⟩ := h
    have haS := SqL.of (K := K) ha
    walk_at "vc"
    intro p hp
    walk_at "vc"
    refine for_rws (walk_list (xs := us)) (H0 := H) (fun r σ H' => Ex H H' ∧ dep r ≤ dep rows ∧ AllLn LnOk r ∧ (∃ d, Shape r d) ∧ ∃ (done : List (List Str)) (v : Option V), σ = [some (.ref a), some (.ref p), v] ∧ H' p = some (.lst ((done.map lineT).map V.str)) ∧ wl rows = done ++ wl r) rows hr ⟨Evl.Ex.new hp, Nat.le_refl _, hal, ⟨d, hsh⟩, [], _, rfl, upd_same, rfl⟩ (fun r σ H' h => Evl.ex_l h.1 haS) ?_ ?_
    · rintro r x vs' σ H1 ⟨e1, hd1, ha1, ⟨d1, hs1⟩, done, v, rfl, hp1, hw⟩ hx
      have hlen : done.length + nl r = nl rows := by rw [← wl_len r, ← wl_len rows, hw, List.length_append]
      have hp1S := SqL.of (K := K) hp1
      rcases r with _ | ⟨l, r⟩ | ⟨b, e, one, two, r⟩ | ⟨b, body, r⟩
      · cases hx
      · obtain ⟨x', vs2, ev, ⟨q, rfl, hq⟩, hr2⟩ := hx
        cases ev
        have hqS := SqL.of (K := K) (e1 _ _ hq)
        simp only [dep] at hd1
        walk_at "vc"
        refine ⟨ty_list hp1S, ?_⟩
        walk_at "vc"
        refine ⟨p, _, _, rfl, rfl, hp1, by rw [List.length_map, List.length_map, sizeLine_eq]; omega, ?_⟩
        walk_at "vc"
        refine ⟨r, hr2, ex_upd e1 hp, hd1, ha1.2, ⟨d1, hs1.2⟩, done ++ [lw l], _, rfl, upd_same.trans ?_, by rw [hw]; simp [wl]⟩
        simp
      · obtain ⟨q, q1, q2, vs1, vs2, vs3, ev, hq, h1, i1, h2, i2, he, hr2⟩ := hx
        cases ev
        obtain ⟨b0, b12, _, ⟨d2, hd2, s1, s2⟩, s3⟩ := hs1
        have hqS := SqL.of (K := K) (e1 _ _ hq)
        simp only [dep, nl] at hd1 hlen
        have hb := wd_len (num_wd (n := b) (by omega) (by omega))
        walk_at "vc"
        refine ⟨ty_list hp1S, ?_⟩
        walk_at "vc"
        refine ⟨log_tiny (by omega) (by omega), ?_⟩
        refine ⟨_, _, rfl, rfl, by show 3 + (num b).length ≤ sizeLine; rw [sizeLine_eq]; omega, ?_⟩
        walk_at "vc"
        intro p3 hp3
        have e3 := Evl.Ex.new (o := .lst [.str (("if" : Str) ++ (" " : Str) ++ Str.ofString (toString b))]) hp3
        have e13 := Evl.Ex.trans e1 e3
        have hqS3 := Evl.ex_l e3 hqS
        walk_at "vc"
        refine ⟨q1, vs1, one, d2, rfl, e13 _ _ h1, i1.mono e13, ha1.1, s1, by omega, by omega, by omega, fun p4 H4 e4 hp4n hp4 => ?_⟩
        have l4 : (wl one).length = nl one := wl_len one
        have e14 := Evl.Ex.trans e13 e4
        refine ⟨p3, p4, _, _, rfl, rfl, e4 _ _ upd_same, hp4, by rw [List.length_map, List.length_map, sizeLine_eq]; simp only [List.length_cons, List.length_nil]; omega, fun p5 hp5 => ?_⟩
        have e5 := Evl.Ex.new (o := .lst ([.str (("if" : Str) ++ (" " : Str) ++ Str.ofString (toString b))] ++ ((wl one).map lineT).map V.str)) hp5
        have e15 := Evl.Ex.trans e14 e5
        have hp15 : upd H4 p5 (.lst ([.str (("if" : Str) ++ (" " : Str) ++ Str.ofString (toString b))] ++ ((wl one).map lineT).map V.str)) p = some (.lst ((done.map lineT).map V.str)) := e5 _ _ (e4 _ _ (e3 _ _ hp1))
        refine ⟨p, p5, _, _, rfl, rfl, hp15, upd_same, by rw [List.length_append, List.length_map, List.length_map, List.length_map, List.length_map, sizeLine_eq]; simp only [List.length_cons, List.length_nil]; omega, ?_⟩
        have et : (done.map lineT).map V.str ++ ([.str (("if" : Str) ++ (" " : Str) ++ Str.ofString (toString b))] ++ ((wl one).map lineT).map V.str) = ((done ++ ((["if", num b] : List Str) :: wl one)).map lineT).map V.str := by
          have e2 : lineT ["if", num b] = ("if" : Str) ++ (" " : Str) ++ Str.ofString (toString b) := (txt_two "if" (num b)).symm
          simp [e2]
        rw [et]
        have e6 := ex_upd (o := .lst (((done ++ ((["if", num b] : List Str) :: wl one)).map lineT).map V.str)) e15 hp
        have hp6 : upd (upd H4 p5 (.lst ([.str (("if" : Str) ++ (" " : Str) ++ Str.ofString (toString b))] ++ ((wl one).map lineT).map V.str))) p (.lst (((done ++ ((["if", num b] : List Str) :: wl one)).map lineT).map V.str)) p = some (.lst (((done ++ ((["if", num b] : List Str) :: wl one)).map lineT).map V.str)) := upd_same
        generalize upd (upd H4 p5 (.lst ([.str (("if" : Str) ++ (" " : Str) ++ Str.ofString (toString b))] ++ ((wl one).map lineT).map V.str))) p (.lst (((done ++ ((["if", num b] : List Str) :: wl one)).map lineT).map V.str)) = H6 at e6 hp6 ⊢
        have hqS6 := SqL.of (K := K) (e6 _ _ hq)
        walk_at "vc"
        intro p7 hp7
        have e7 := Evl.Ex.new (o := .lst []) hp7
        have e67 := Evl.Ex.trans e6 e7
        obtain ⟨ds, w1, w2, w3, w4⟩ := rws_data (K := K) ha1.2.1 (i2.mono e67)
        refine ⟨.list ds, .list [], .lst (SqL.of (e67 _ _ h2)) w1, .lst (SqL.of upd_same) .nil, shaped_of w2 (by omega), by decide +kernel, ?_⟩
        have eq : (!PyData.eqv (.list ds) (.list [])) = e := by
          simp only [PyData.eqv]
          rw [w4, he]
        rw [eq]
        have hqS7 := SqL.of (K := K) (e67 _ _ hq)
        have hp7' := e7 _ _ hp6
        cases e with
        | true =>
          simp only [if_true] at hlen
          walk_at "vc"
          refine ⟨ty_list (SqL.of hp7'), ?_⟩
          walk_at "vc"
          intro p8 hp8
          have e8 := Evl.Ex.new (o := .lst [.str "else"]) hp8
          have e68 := Evl.Ex.trans e67 e8
          have hqS8 := SqL.of (K := K) (e68 _ _ hq)
          walk_at "vc"
          refine ⟨q2, vs2, two, d2, rfl, e68 _ _ h2, i2.mono e68, ha1.2.1, s2, by omega, by omega, by omega, fun p9 H9 e9 _ hp9 => ?_⟩
          have l9 : (wl two).length = nl two := wl_len two
          refine ⟨p8, p9, _, _, rfl, rfl, e9 _ _ upd_same, hp9, by rw [List.length_map, List.length_map, sizeLine_eq]; simp only [List.length_cons, List.length_nil]; omega, fun p10 hp10 => ?_⟩
          have e10 := Evl.Ex.new (o := .lst ([.str "else"] ++ ((wl two).map lineT).map V.str)) hp10
          have e610 := Evl.Ex.trans e68 (Evl.Ex.trans e9 e10)
          have hp11 : upd H9 p10 (.lst ([.str "else"] ++ ((wl two).map lineT).map V.str)) p = some (.lst (((done ++ ((["if", num b] : List Str) :: wl one)).map lineT).map V.str)) := e10 _ _ (e9 _ _ (e8 _ _ hp7'))
          refine ⟨p, p10, _, _, rfl, rfl, hp11, upd_same, by rw [List.length_append, List.length_map, List.length_map, List.length_map, List.length_map, List.length_append, sizeLine_eq]; simp only [List.length_cons, List.length_nil]; omega, ?_⟩
          have e12 := ex_upd (o := .lst (((done ++ ((["if", num b] : List Str) :: wl one)).map lineT).map V.str ++ ([.str "else"] ++ ((wl two).map lineT).map V.str))) e610 hp
          walk_at "vc"
          refine ⟨ty_list (SqL.of upd_same), ?_⟩
          walk_at "vc"
          refine ⟨p, _, _, rfl, rfl, upd_same, ?_, ?_⟩
          · rw [List.length_append, List.length_append, List.length_map, List.length_map, List.length_map, List.length_map, List.length_append, sizeLine_eq]
            simp only [List.length_cons, List.length_nil]
            omega
          walk_at "vc"
          refine ⟨r, hr2, ex_upd e12 hp, by omega, ha1.2.2, ⟨_, s3⟩, done ++ ((["if", num b] : List Str) :: wl one) ++ ((["else"] : List Str) :: wl two) ++ [(["end"] : List Str)], _, rfl, upd_same.trans ?_, by rw [hw]; simp [wl]⟩
          have w1 : lineT ["else"] = "else" := by decide +kernel
          have w2 : lineT ["end"] = "end" := by decide +kernel
          simp [w1, w2]
        | false =>
          simp only [Bool.false_eq_true, if_false] at hlen
          walk_at "vc"
          refine ⟨ty_list (SqL.of hp7'), ?_⟩
          walk_at "vc"
          refine ⟨p, _, _, rfl, rfl, hp7', ?_, ?_⟩
          · rw [List.length_map, List.length_map, List.length_append, sizeLine_eq]
            simp only [List.length_cons]
            omega
          walk_at "vc"
          refine ⟨r, hr2, ex_upd e67 hp, by omega, ha1.2.2, ⟨_, s3⟩, done ++ ((["if", num b] : List Str) :: wl one) ++ [(["end"] : List Str)], _, rfl, upd_same.trans ?_, by rw [hw]; simp [wl]⟩
          have w2 : lineT ["end"] = "end" := by decide +kernel
          simp [w2]
      · obtain ⟨q, q1, vs1, vs3, ev, hq, h1, i1, hr2⟩ := hx
        cases ev
        obtain ⟨b0, b12, hfl, s1, _, _, s3⟩ := hs1
        have hqS := SqL.of (K := K) (e1 _ _ hq)
        simp only [dep, nl] at hd1 hlen
        have hb := wd_len (num_wd (n := b) (by omega) (by omega))
        walk_at "vc"
        refine ⟨ty_list hp1S, ?_⟩
        walk_at "vc"
        refine ⟨log_tiny (by omega) (by omega), ?_⟩
        refine ⟨_, _, rfl, rfl, by show 6 + (num b).length ≤ sizeLine; rw [sizeLine_eq]; omega, ?_⟩
        walk_at "vc"
        intro p3 hp3
        have e3 := Evl.Ex.new (o := .lst [.str (("while" : Str) ++ (" " : Str) ++ Str.ofString (toString b))]) hp3
        have e13 := Evl.Ex.trans e1 e3
        have hqS3 := Evl.ex_l e3 hqS
        walk_at "vc"
        refine ⟨q1, vs1, body, 0, rfl, e13 _ _ h1, i1.mono e13, ha1.1, s1, by omega, by omega, by omega, fun p4 H4 e4 hp4n hp4 => ?_⟩
        have l4 : (wl body).length = nl body := wl_len body
        have e14 := Evl.Ex.trans e13 e4
        refine ⟨p3, p4, _, _, rfl, rfl, e4 _ _ upd_same, hp4, by rw [List.length_map, List.length_map, sizeLine_eq]; simp only [List.length_cons, List.length_nil]; omega, fun p5 hp5 => ?_⟩
        have e5 := Evl.Ex.new (o := .lst ([.str (("while" : Str) ++ (" " : Str) ++ Str.ofString (toString b))] ++ ((wl body).map lineT).map V.str)) hp5
        have e15 := Evl.Ex.trans e14 e5
        have hp15 : upd H4 p5 (.lst ([.str (("while" : Str) ++ (" " : Str) ++ Str.ofString (toString b))] ++ ((wl body).map lineT).map V.str)) p = some (.lst ((done.map lineT).map V.str)) := e5 _ _ (e4 _ _ (e3 _ _ hp1))
        refine ⟨p, p5, _, _, rfl, rfl, hp15, upd_same, by rw [List.length_append, List.length_map, List.length_map, List.length_map, List.length_map, sizeLine_eq]; simp only [List.length_cons, List.length_nil]; omega, ?_⟩
        have et : (done.map lineT).map V.str ++ ([.str (("while" : Str) ++ (" " : Str) ++ Str.ofString (toString b))] ++ ((wl body).map lineT).map V.str) = ((done ++ ((["while", num b] : List Str) :: wl body)).map lineT).map V.str := by
          have e2 : lineT ["while", num b] = ("while" : Str) ++ (" " : Str) ++ Str.ofString (toString b) := (txt_two "while" (num b)).symm
          simp [e2]
        rw [et]
        have e6 := ex_upd (o := .lst (((done ++ ((["while", num b] : List Str) :: wl body)).map lineT).map V.str)) e15 hp
        have hp6 : upd (upd H4 p5 (.lst ([.str (("while" : Str) ++ (" " : Str) ++ Str.ofString (toString b))] ++ ((wl body).map lineT).map V.str))) p (.lst (((done ++ ((["while", num b] : List Str) :: wl body)).map lineT).map V.str)) p = some (.lst (((done ++ ((["while", num b] : List Str) :: wl body)).map lineT).map V.str)) := upd_same
        generalize upd (upd H4 p5 (.lst ([.str (("while" : Str) ++ (" " : Str) ++ Str.ofString (toString b))] ++ ((wl body).map lineT).map V.str))) p (.lst (((done ++ ((["while", num b] : List Str) :: wl body)).map lineT).map V.str)) = H6 at e6 hp6 ⊢
        have hqS6 := SqL.of (K := K) (e6 _ _ hq)
        walk_at "vc"
        refine ⟨ty_list (SqL.of hp6), ?_⟩
        walk_at "vc"
        refine ⟨p, _, _, rfl, rfl, hp6, ?_, ?_⟩
        · rw [List.length_map, List.length_map, List.length_append, sizeLine_eq]
          simp only [List.length_cons]
          omega
        walk_at "vc"
        refine ⟨r, hr2, ex_upd e6 hp, by omega, ha1.2, ⟨_, s3⟩, done ++ ((["while", num b] : List Str) :: wl body) ++ [(["end"] : List Str)], _, rfl, upd_same.trans ?_, by rw [hw]; simp [wl]⟩
        have w2 : lineT ["end"] = "end" := by decide +kernel
        simp [w2]
    · rintro σ H1 ⟨e1, _, _, _, done, v, rfl, hp1, hw⟩
      walk_at "vc"
      have e0 : wl rows = done := by rw [hw]; simp [wl]
      rw [← e0] at hp1
      exact k p H1 e1 hp hp1
theorem D_linesL (Z : Zf K mg) : ∀ n : Nat, Df P w K mg base "_law_lines" n ["_law_rows_here"] (spLinesL n)
  | 0 => df_none Z 58 (st := s_z_lines) rfl (by decide +kernel) (fun _ _ _ _ _ _ us hl => match us, hl with | [_], _ => rfl) (fun vs H Q E ⟨_, _, _, _, _, _, _, _, _, h, _⟩ => absurd h (Nat.not_lt_zero _))
  | n + 1 => linesL_one Z (D_linesL Z n)
end
end Ov
/-! text OvL6 -/
set_option Elab.async false
set_option linter.all false
set_option maxRecDepth 100000
namespace Ov
open PySem PySem.Spec PyProof.Rows L2
open Rows TL
local macro_rules | `(tactic| walk_at "hp") => `(tactic| first
  | assumption
  | exact upd_same
  | (refine Evl.Ex.new (by assumption) _ _ ?_; walk_at "hp")
  | (refine (by assumption : Evl.Ex _ _) _ _ ?_; walk_at "hp"))
local macro_rules | `(tactic| walk_at "sq") => `(tactic| first
  | assumption
  | exact SqL.of (by walk_at "hp")
  | exact SqT.of (by walk_at "hp")
  | (refine Evl.ex_l (by assumption) ?_; walk_at "sq")
  | (refine Evl.ex_t (by assumption) ?_; walk_at "sq")
  | (refine Evl.ex_l (Evl.Ex.new (by assumption)) ?_; walk_at "sq")
  | (refine Evl.ex_t (Evl.Ex.new (by assumption)) ?_; walk_at "sq"))
local macro_rules | `(tactic| walk_at "ex") => `(tactic| first
  | assumption
  | exact Evl.Ex.refl _
  | (refine Evl.Ex.trans ?_ (Evl.Ex.new (by assumption)); walk_at "ex")
  | (refine Evl.Ex.trans ?_ (by assumption); walk_at "ex"))
local macro_rules | `(tactic| walk_at "s1") => `(tactic| first
  | refine ⟨_, rfl, ?_⟩
  | refine ⟨rfl, ?_⟩
  | refine ⟨_, _, rfl, rfl, ?_⟩
  | refine ⟨_, _, _, rfl, rfl, ?_⟩)
local macro_rules | `(tactic| walk_at "st") => `(tactic| repeat walk_at "s1")
local macro_rules | `(tactic| walk_at "v1") => `(tactic| first
  | ((with_reducible refine' s_var ?vch ?_); (case vch => exact rfl))
  | with_reducible refine' s_c ?_
  | with_reducible refine' s_seq ?_
  | with_reducible refine' s_asg ?_
  | with_reducible refine' s_name ?_
  | with_reducible refine' s_cons ?_
  | with_reducible refine' s_nil ?_
  | with_reducible refine' s_op ?_
  | with_reducible refine' s_rI0 ?_
  | with_reducible refine' s_ret ?_
  | with_reducible refine' s_test ?_
  | with_reducible refine' s_ifS ?_
  | with_reducible refine' s_call ?_
  | with_reducible refine' s_cb ?_
  | ((with_reducible refine' s_rEq ?vch ?_); (case vch => exact rfl))
  | ((with_reducible refine' s_rNe ?vch ?_); (case vch => exact rfl))
  | ((with_reducible refine' s_ixT ?vch ?vca ?_); (case vch => walk_at "sq"); (case vca => first | exact rfl | exact at_nat 0 rfl | exact at_nat 1 rfl | exact at_nat 2 rfl | exact at_nat 3 rfl | exact at_nat 4 rfl))
  | ((with_reducible refine' s_ixL ?vch ?vca ?_); (case vch => walk_at "sq"); (case vca => first | exact rfl | exact at_nat 0 rfl | exact at_nat 1 rfl | exact at_nat 2 rfl | exact at_nat 3 rfl | exact at_nat 4 rfl))
  | with_reducible refine iteT' ?_
  | with_reducible refine iteF' ?_
  | with_reducible refine' ex_bl ?_
  | with_reducible refine' ex_int ?_
  | with_reducible refine' ex_str ?_
  | with_reducible refine' ex_int1 ?_
  | with_reducible refine' ex_str1 ?_
  | with_reducible refine' ex_int2 ?_
  | with_reducible refine' ex_pair ?_
  | with_reducible refine' s_un ?_
  | with_reducible refine' s_B ?_
  | with_reducible refine' s_andV ?_
  | with_reducible refine' s_orV ?_
  | with_reducible refine' s_notV ?_
  | with_reducible refine' s_and ?_
  | with_reducible refine' s_or ?_
  | with_reducible refine' s_not ?_
  | with_reducible refine' s_if ?_
  | with_reducible refine' s_chain ?_
  | with_reducible refine' s_next ?_
  | with_reducible refine' s_break ?_
  | with_reducible refine' s_cont ?_
  | with_reducible refine' s_drop ?_
  | with_reducible refine' s_retN ?_
  | with_reducible refine' s_par ?_
  | ((with_reducible refine' s_aug ?vch ?_); (case vch => exact rfl))
  | with_reducible refine' s_ip ?_
  | with_reducible refine' s_gcons ?_
  | with_reducible refine' s_gnil ?_
  | ((with_reducible refine' s_gtup ?vch ?vca ?_); (case vch => walk_at "sq"); (case vca => exact rfl))
  | with_reducible refine' s_tup ?_
  | with_reducible refine' s_lst ?_
  | with_reducible refine' s_sl ?_
  | with_reducible refine' s_part ?_
  | with_reducible refine' s_nopart ?_
  | with_reducible refine' s_fld ?_
  | with_reducible refine' s_make ?_
  | with_reducible refine' s_meth ?_
  | with_reducible refine' s_prop ?_
  | with_reducible refine' s_makeK ?_
  | with_reducible refine' s_gsub ?_
  | ((with_reducible refine' s_setL ?vch ?vca ?_); (case vch => walk_at "hp"); (case vca => exact rfl))
  | with_reducible refine' s_par3 ?_
  | with_reducible refine' ex_three ?_
  | with_reducible refine' s_star ?_
  | with_reducible refine' s_dnewK ?_
  | with_reducible refine' s_dsetd ?_
  | with_reducible refine' s_methR ?_
  | with_reducible refine' s_fldaug ?_
  | with_reducible refine' s_dictzip ?_
  | with_reducible refine' s_sfld ?_
  | with_reducible refine' s_bm ?_
  | with_reducible refine' s_bm0 ?_
  | with_reducible refine' s_m1 ?_
  | with_reducible refine' s_dget ?_
  | with_reducible refine' s_lc ?_
  | with_reducible refine' s_for ?_
  | with_reducible refine' s_iList ?_
  | with_reducible refine' s_iTup ?_
  | with_reducible refine' s_iStr ?_
  | with_reducible refine' s_iRng1 ?_
  | with_reducible refine' s_iRng2 ?_
  | with_reducible refine' s_yes ?_
  | with_reducible refine' s_rU ?_
  | ((with_reducible refine' s_isiP ?vch ?_); (case vch => exact rfl))
  | ((with_reducible refine' ex_lenL ?vch ?_); (case vch => walk_at "sq"))
  | ((with_reducible refine' ex_lenT ?vch ?_); (case vch => walk_at "sq"))
  | ((with_reducible refine' ex_tupL ?vch ?_); (case vch => walk_at "sq"))
  | ((with_reducible refine' ex_lstT ?vch ?_); (case vch => walk_at "sq"))
  | ((with_reducible refine' ex_srcL ?vch ?_); (case vch => walk_at "sq"))
  | ((with_reducible refine' ex_srcT ?vch ?_); (case vch => walk_at "sq"))
  | ((with_reducible refine' s_mk ?vch ?_); (case vch => exact small_le (Nat.le_of_ble_eq_true rfl)))
  | with_reducible refine' ⟨_, _, rfl, rfl, ?_⟩
  | with_reducible refine' ⟨⟨_, rfl⟩, ?_⟩
  | with_reducible refine' ⟨rfl, ?_⟩
  | ((with_reducible refine' iteT_of ?vch ?_); (case vch => exact rfl))
  | ((with_reducible refine' iteF_of ?vch ?_); (case vch => exact rfl)))
local macro_rules | `(tactic| walk_at "vc") => `(tactic| repeat walk_at "v1")
/-! ### rows with their numbers -/
def NLn (H : Hp) (v : V) (l : Ln) (i : Nat) : Prop := ∃ p : Addr, v = .ref p ∧ H p = some (.lst [.str "line", .int (l.kind : Int), .str (lineT (lw l)), .int l.byn, .int (i : Int)])
theorem NLn.mono {H H' : Hp} (e : Ex H H') {v : V} {l : Ln} {i : Nat} (h : NLn H v l i) : NLn H' v l i := let ⟨p, a, b⟩ := h; ⟨p, a, e _ _ b⟩
/-- the numbered rows, the first line's number being i -/
def NRw (H : Hp) : Rows → Nat → List V → Prop
  | .nil, _, vs => vs = []
  | .line l r, i, vs => ∃ v vs', vs = v :: vs' ∧ NLn H v l i ∧ NRw H r (i + 1) vs'
  | .iff b e one two r, i, vs => ∃ (p p1 p2 : Addr) (vs1 vs2 vs' : List V), vs = .ref p :: vs' ∧ H p = some (.lst [.str "if", .int b, .ref p1, .ref p2]) ∧ H p1 = some (.lst vs1) ∧ NRw H one (i + 1) vs1 ∧ H p2 = some (.lst vs2) ∧ NRw H two (i + 1 + nl one + 1) vs2 ∧ NRw H r (i + (1 + nl one + (if e then 1 + nl two else 0) + 1)) vs'
  | .whl b body r, i, vs => ∃ (p p1 p2 : Addr) (vs1 vs' : List V), vs = .ref p :: vs' ∧ H p = some (.lst [.str "while", .int b, .ref p1, .ref p2]) ∧ H p1 = some (.lst vs1) ∧ NRw H body (i + 1) vs1 ∧ H p2 = some (.lst []) ∧ NRw H r (i + (1 + nl body + 1)) vs'
theorem NRw.mono {H H' : Hp} (e : Ex H H') : ∀ {r : Rows} {i : Nat} {vs : List V}, NRw H r i vs → NRw H' r i vs
  | .nil, _, _, h => h
  | .line l r, _, _, ⟨v, vs', a, b, c⟩ => ⟨v, vs', a, b.mono e, NRw.mono e c⟩
  | .iff b f one two r, _, _, ⟨p, p1, p2, vs1, vs2, vs', a, h, h1, i1, h2, i2, i3⟩ => ⟨p, p1, p2, vs1, vs2, vs', a, e _ _ h, e _ _ h1, NRw.mono e i1, e _ _ h2, NRw.mono e i2, NRw.mono e i3⟩
  | .whl b body r, _, _, ⟨p, p1, p2, vs1, vs', a, h, h1, i1, h2, i3⟩ => ⟨p, p1, p2, vs1, vs', a, e _ _ h, e _ _ h1, NRw.mono e i1, e _ _ h2, NRw.mono e i3⟩
theorem nrw_app {H : Hp} : ∀ {r s : Rows} {i : Nat} {vs ws : List V}, NRw H r i vs → NRw H s (i + nl r) ws → NRw H (app r s) i (vs ++ ws)
  | .nil, s, i, vs, ws, h, q => by
    have e : vs = [] := h
    rw [e]; exact q
  | .line l r, s, i, _, ws, ⟨v, vs', a, b, c⟩, q => ⟨v, vs' ++ ws, by rw [a]; rfl, b, nrw_app c (by rw [show i + 1 + nl r = i + nl (.line l r) by simp only [nl]; omega]; exact q)⟩
  | .iff b f one two r, s, i, _, ws, ⟨p, p1, p2, vs1, vs2, vs', a, h, h1, i1, h2, i2, i3⟩, q => ⟨p, p1, p2, vs1, vs2, vs' ++ ws, by rw [a]; rfl, h, h1, i1, h2, i2, nrw_app i3 (by rw [show i + (1 + nl one + (if f then 1 + nl two else 0) + 1) + nl r = i + nl (.iff b f one two r) by simp only [nl]; omega]; exact q)⟩
  | .whl b body r, s, i, _, ws, ⟨p, p1, p2, vs1, vs', a, h, h1, i1, h2, i3⟩, q => ⟨p, p1, p2, vs1, vs' ++ ws, by rw [a]; rfl, h, h1, i1, h2, nrw_app i3 (by rw [show i + (1 + nl body + 1) + nl r = i + nl (.whl b body r) by simp only [nl]; omega]; exact q)⟩
theorem nw_into0 {H0 H1 H2 : Hp} {L : Addr} {o : HO} (e : Ex H0 H1) (hL : H1 L = some o) : Ex (nw H1 H2) (nw H0 (hid [L] H2)) := fun a u q => by
  obtain ⟨q1, q2⟩ := nw_some.mp q
  refine nw_get (ex_none e q1) (hid_get q2 fun m => ?_)
  rw [List.mem_singleton.mp m, hL] at q1
  cases q1
/-- what the loop knows -/
def TurnN (H : Hp) (a p : Addr) (i : Nat) (rows r : Rows) (σ : L2.St) (H' : Hp) : Prop := Ex H H' ∧ dep r ≤ dep rows ∧ AllLn LnOk r ∧ (∃ d, Shape r d) ∧ ∃ (done : Rows) (zs : List V) (v3 v4 v5 : Option V), σ = [some (.ref a), some (.int ((i + nl done : Nat) : Int)), some (.ref p), v3, v4, v5] ∧ H' p = some (.lst zs) ∧ NRw (nw H (hid [p] H')) done i zs ∧ rows = app done r ∧ zs.length ≤ nl done
theorem num_next {H H1 H2 : Hp} {a p : Addr} {i j : Nat} {rows done s r : Rows} {zs : List V} {v : V} {v3 v4 v5 : Option V} (hp : H p = none) (e1 : Ex H H1) (e2 : Ex H1 H2) (hd : dep r ≤ dep rows) (ha : AllLn LnOk r) (hs : ∃ d, Shape r d) (hp1 : H1 p = some (.lst zs)) (hz : NRw (nw H (hid [p] H1)) done i zs) (hv : NRw (nw H (hid [p] H2)) s (i + nl done) [v]) (hr : rows = app done (app s r)) (hl : zs.length ≤ nl done) (h1 : 1 ≤ nl s) (hj : j = i + nl done + nl s) :
    TurnN H a p i rows r [some (.ref a), some (.int (j : Int)), some (.ref p), v3, v4, v5] (upd H2 p (.lst (zs ++ [v]))) := by
  subst hj
  refine ⟨ex_upd (Evl.Ex.trans e1 e2) hp, hd, ha, hs, app done s, zs ++ [v], v3, v4, v5, ?_, upd_same, ?_, by rw [app_assoc]; exact hr, by rw [List.length_append, List.length_singleton, nl_app]; omega⟩
  · rw [nl_app, Nat.add_assoc]
  · rw [hid_upd (by simp)]
    exact nrw_app (hz.mono (nw_mono (hid_mono e2))) hv
section
variable {P : Program} {w : World} {K : PySem.W.Frag} {mg : Str → Option Value} {base : Heap}
def spNum (n : Nat) : Sp := fun vs H Q _ => ∃ (a : Addr) (us : List V) (r : Rows) (d i : Nat), vs = [.ref a, .int (i : Int)] ∧ H a = some (.lst us) ∧ RwsAt H r us ∧ AllLn LnOk r ∧ Shape r d ∧ dep r < n ∧ dep r ≤ 5 ∧ us.length ≤ 1000 ∧ nl r ≤ 300 ∧ ∀ p q zs H', Ex H H' → nw H H' p = some (.lst [.ref q, .int ((i + nl r : Nat) : Int)]) → nw H H' q = some (.lst zs) → NRw (nw H H') r i zs → Q (.ref p) H'
theorem rws_len {H : Hp} : ∀ {r : Rows} {vs : List V}, RwsAt H r vs → vs.length ≤ nl r
  | .nil, vs, h => by
    have e : vs = [] := h
    rw [e]; exact Nat.zero_le _
  | .line l r, _, ⟨v, vs', rfl, b, c⟩ => by
    have := rws_len c
    simp only [nl, List.length_cons]
    omega
  | .iff b f one two r, _, ⟨p, p1, p2, vs1, vs2, vs', rfl, h, h1, i1, h2, i2, he, i3⟩ => by
    have := rws_len i3
    simp only [nl, List.length_cons]
    omega
  | .whl b body r, _, ⟨p, p1, vs1, vs', rfl, h, h1, i1, i3⟩ => by
    have := rws_len i3
    simp only [nl, List.length_cons]
    omega
theorem sc_z_numbered : FnScope ["_law_rows_here", "_law_at", "_law_found", "_law_row", "_law_first", "_law_second"] ["_law_rows_here", "_law_at"] (defScope s_z_numbered) := ⟨rfl, rfl, rfl, by decide +kernel, rfl, by decide +kernel, by decide +kernel⟩
theorem num_one (Z : Zf K mg) {n : Nat} (R : Df P w K mg base "_law_numbered" n ["_law_rows_here", "_law_at"] (spNum n)) : Df P w K mg base "_law_numbered" (n+1) ["_law_rows_here", "_law_at"] (spNum (n+1)) := by
  refine def_ok Z 60 rfl (by decide +kernel) sc_z_numbered (fun _ _ _ _ _ _ us hl => match us, hl with | [_, _], _ => rfl) (fun vs H Q E h => ?_) (fun f cdv A outer s H vs Q E hr h => ⟨_, (pss_cons (ps_asg (pe_lst pa_nil) (pgn 2 sc_z_numbered.nd))
      (pss_cons (ps_for PassesOwn.never rfl (pi_list (pv 0)) (pgn 3 sc_z_numbered.nd)
      (pss_one (ps_if (pt_cmpR op_eq (pe_ix ix_list (pv 3) pe_int (fun _ _ => rfl)) pe_str (nomark _)) (pss_cons (ps_expr (pe_bm PySem.F.plainAttrs_list PySem.F.slot_list_append PySem.F.type_list_append mt_append (pv 2) (pa_cons (pe_op op_cat (pv 3) (pe_lst (pa_cons (pv 1) pa_nil))) pa_nil)))
      (pss_one (ps_asg (pe_op op_add (pv 1) pe_int) (pgn 1 sc_z_numbered.nd)))) (pss_cons (ps_asg (pe_callD R hr (by omega) rfl (pa_cons (pe_ix ix_list (pv 3) pe_int (fun _ _ => rfl)) (pa_cons (pe_op op_add (pv 1) pe_int) pa_nil))) (pgn 4 sc_z_numbered.nd))
      (pss_cons (ps_asg (pe_ix ix_list (pv 4) pe_int (fun _ _ => rfl)) (pgn 1 sc_z_numbered.nd))
      (pss_cons (ps_if (PW.pt (pw_and (pt_cmpR op_eq (pe_ix ix_list (pv 3) pe_int (fun _ _ => rfl)) pe_str (nomark _)) (pw_and1 (pt_cmpR (op_neD (units64 hr)) (pe_ix ix_list (pv 3) pe_int (fun _ _ => rfl)) (pe_lst pa_nil) (nomark _))))) (pss_cons (ps_asg (pe_callD R hr (by omega) rfl (pa_cons (pe_ix ix_list (pv 3) pe_int (fun _ _ => rfl)) (pa_cons (pe_op op_add (pv 1) pe_int) pa_nil))) (pgn 5 sc_z_numbered.nd))
      (pss_cons (ps_asg (pe_ix ix_list (pv 5) pe_int (fun _ _ => rfl)) (pgn 1 sc_z_numbered.nd))
      (pss_one (ps_expr (pe_bm PySem.F.plainAttrs_list PySem.F.slot_list_append PySem.F.type_list_append mt_append (pv 2) (pa_cons (pe_lst (pa_cons pe_str (pa_cons (pe_ix ix_list (pv 3) pe_int (fun _ _ => rfl)) (pa_cons (pe_ix ix_list (pv 4) pe_int (fun _ _ => rfl)) (pa_cons (pe_ix ix_list (pv 5) pe_int (fun _ _ => rfl)) pa_nil))))) pa_nil)))))) (pss_one (ps_expr (pe_bm PySem.F.plainAttrs_list PySem.F.slot_list_append PySem.F.type_list_append mt_append (pv 2) (pa_cons (pe_lst (pa_cons (pe_ix ix_list (pv 3) pe_int (fun _ _ => rfl)) (pa_cons (pe_ix ix_list (pv 3) pe_int (fun _ _ => rfl)) (pa_cons (pe_ix ix_list (pv 4) pe_int (fun _ _ => rfl)) (pa_cons (pe_lst pa_nil) pa_nil))))) pa_nil)))))
      (pss_one (ps_asg (pe_op op_add (pv 1) pe_int) (pgn 1 sc_z_numbered.nd)))))))))
      (pss_one (ps_ret (pe_lst (pa_cons (pv 2) (pa_cons (pv 1) pa_nil))))))), ?_⟩)
  · obtain ⟨a, us, r, d, i, rfl, _⟩ := h
    rfl
  · obtain ⟨a, us, rows, d, i, rfl, ha, hr, hal, hsh, hdp, hd5, hul, hnl, k⟩ := h
    have haS := SqL.of (K := K) ha
    walk_at "vc"
    intro p hp
    walk_at "vc"
    refine for_rws (walk_list (xs := us)) (H0 := H) (fun r σ H' => TurnN H a p i rows r σ H') rows hr ⟨Evl.Ex.new hp, Nat.le_refl _, hal, ⟨d, hsh⟩, .nil, [], none, none, none, rfl, upd_same, rfl, rfl, Nat.le_refl _⟩ (fun r σ H' h => Evl.ex_l h.1 haS) ?_ ?_
    · rintro r x vs' σ H1 ⟨e1, hd1, ha1, ⟨d1, hs1⟩, done, zs, v3, v4, v5, rfl, hp1, hz, hrw, hzl⟩ hx
      have hlen : nl done + nl r = nl rows := by rw [hrw, nl_app]
      have hp1S := SqL.of (K := K) hp1
      rcases r with _ | ⟨l, r⟩ | ⟨b, e, one, two, r⟩ | ⟨b, body, r⟩
      · cases hx
      · obtain ⟨x', vs2, ev, ⟨q, rfl, hq⟩, hr2⟩ := hx
        cases ev
        have hq1 := e1 _ _ hq
        have hqS := SqL.of (K := K) hq1
        simp only [dep, nl] at hd1 hlen
        walk_at "vc"
        refine ⟨ty_list hp1S, ?_⟩
        walk_at "vc"
        intro p3 hp3
        have e3 := Evl.Ex.new (o := .lst [.int ((i + nl done : Nat) : Int)]) hp3
        refine ⟨q, p3, _, _, rfl, rfl, e3 _ _ hq1, upd_same, small_le (Nat.le_of_ble_eq_true rfl), fun p4 hp4 => ?_⟩
        have e4 := Evl.Ex.new (o := .lst ([.str "line", .int (l.kind : Int), .str (lineT (lw l)), .int l.byn] ++ [.int ((i + nl done : Nat) : Int)])) hp4
        have e34 := Evl.Ex.trans e3 e4
        have np4 : p4 ≠ p := fun c => by rw [c, e3 _ _ hp1] at hp4; cases hp4
        refine ⟨p, zs, .ref p4, rfl, rfl, e34 _ _ hp1, by rw [sizeLine_eq]; omega, ?_⟩
        walk_at "vc"
        refine ⟨r, hr2, num_next (s := .line l .nil) hp e1 e34 hd1 ha1.2 ⟨d1, hs1.2⟩ hp1 hz ⟨.ref p4, [], rfl, ⟨p4, rfl, nw_get (ex_none (Evl.Ex.trans e1 e3) hp4) (hid_get upd_same (by simp; exact np4))⟩, rfl⟩ hrw hzl (by simp [nl]) (by simp [nl])⟩
      · obtain ⟨q, q1, q2, vs1, vs2, vs3, ev, hq, h1, i1, h2, i2, he, hr2⟩ := hx
        cases ev
        obtain ⟨b0, b12, hent, ⟨d2, hd2, s1, s2⟩, s3⟩ := hs1
        have hqS := SqL.of (K := K) (e1 _ _ hq)
        simp only [dep, nl] at hd1 hlen
        have ln1 := rws_len i1
        have ln2 := rws_len i2
        walk_at "vc"
        refine ⟨q1, vs1, one, d2, i + nl done + 1, rfl, e1 _ _ h1, i1.mono e1, ha1.1, s1, by omega, by omega, by omega, by omega, fun pf qf zf H2 e2 hpf hqf hnf => ?_⟩
        have hpfS := SqL.of (K := K) (ex_nw _ _ hpf)
        have e12 := Evl.Ex.trans e1 e2
        have hqS2 := SqL.of (K := K) (e12 _ _ hq)
        walk_at "vc"
        intro p5 hp5
        have e5 := Evl.Ex.new (o := .lst []) hp5
        have e15 := Evl.Ex.trans e12 e5
        obtain ⟨ds, w1, w2, w3, w4⟩ := rws_data (K := K) ha1.2.1 (i2.mono e15)
        refine ⟨.list ds, .list [], .lst (SqL.of (e15 _ _ h2)) w1, .lst (SqL.of upd_same) .nil, shaped_of w2 (by omega), by decide +kernel, ?_⟩
        have eq : (!PyData.eqv (.list ds) (.list [])) = e := by
          simp only [PyData.eqv]
          rw [w4, he]
        rw [eq]
        have hqS5 := SqL.of (K := K) (e15 _ _ hq)
        have hp15 := e5 _ _ (e2 _ _ hp1)
        have hpf5 := SqL.of (K := K) (e5 _ _ (ex_nw _ _ hpf))
        have into1 := nw_into0 (H2 := H2) e1 hp1
        cases e with
        | true =>
          simp only [if_true] at hlen
          walk_at "vc"
          refine ⟨q2, vs2, two, d2, i + nl done + 1 + nl one + 1, ?_, e15 _ _ h2, i2.mono e15, ha1.2.1, s2, by omega, by omega, by omega, by omega, fun pg qg zg H6 e6 hpg hqg hng => ?_⟩
          · rfl
          have hpgS := SqL.of (K := K) (ex_nw _ _ hpg)
          have e16 := Evl.Ex.trans e15 e6
          have hp16 := e6 _ _ hp15
          have hqS6 := SqL.of (K := K) (e16 _ _ hq)
          have hpf6 := Evl.ex_l e6 hpf5
          have into2 := nw_into0 (H2 := H6) e15 hp15
          walk_at "vc"
          refine ⟨ty_list (SqL.of hp16), ?_⟩
          walk_at "vc"
          intro p7 hp7
          have e7 := Evl.Ex.new (o := .lst [.str "if", .int b, .ref qf, .ref qg]) hp7
          have np7 : p7 ≠ p := fun c => by rw [c, hp16] at hp7; cases hp7
          refine ⟨p, zs, .ref p7, rfl, rfl, e7 _ _ hp16, by rw [sizeLine_eq]; omega, ?_⟩
          walk_at "vc"
          have e27 : Ex H2 (upd H6 p7 (.lst [.str "if", .int b, .ref qf, .ref qg])) := Evl.Ex.trans e5 (Evl.Ex.trans e6 e7)
          have g1 : Ex (nw H1 H2) (nw H (hid [p] (upd H6 p7 (.lst [.str "if", .int b, .ref qf, .ref qg])))) := Evl.Ex.trans into1 (nw_mono (hid_mono e27))
          have g2 : Ex (nw (upd H2 p5 (.lst [])) H6) (nw H (hid [p] (upd H6 p7 (.lst [.str "if", .int b, .ref qf, .ref qg])))) := Evl.Ex.trans into2 (nw_mono (hid_mono e7))
          refine ⟨r, hr2, num_next (s := .iff b true one two .nil) hp e1 (Evl.Ex.trans e2 e27) (by omega) ha1.2.2 ⟨_, s3⟩ hp1 hz ⟨p7, qf, qg, zf, zg, [], rfl, nw_get (ex_none e16 hp7) (hid_get upd_same (by simp; exact np7)), g1 _ _ hqf, hnf.mono g1, g2 _ _ hqg, hng.mono g2, rfl⟩ hrw hzl (by simp only [nl]; omega) (by simp only [nl, if_true]; omega)⟩
        | false =>
          simp only [Bool.false_eq_true, if_false] at hlen
          have hnil := hent rfl
          subst hnil
          walk_at "vc"
          refine ⟨ty_list (SqL.of hp15), ?_⟩
          walk_at "vc"
          intro p6 hp6
          have e6 := Evl.Ex.new (o := .lst []) hp6
          walk_at "vc"
          intro p7 hp7
          have e7 := Evl.Ex.new (o := .lst [.str "if", .int b, .ref qf, .ref p6]) hp7
          have hp17 := e7 _ _ (e6 _ _ hp15)
          have np6 : p6 ≠ p := fun c => by rw [c, hp15] at hp6; cases hp6
          have np7 : p7 ≠ p := fun c => by rw [c, e6 _ _ hp15] at hp7; cases hp7
          refine ⟨p, zs, .ref p7, rfl, rfl, hp17, by rw [sizeLine_eq]; omega, ?_⟩
          walk_at "vc"
          have e27 := Evl.Ex.trans e5 (Evl.Ex.trans e6 e7)
          have g1 := Evl.Ex.trans into1 (nw_mono (H0 := H) (hid_mono (as := [p]) e27))
          refine ⟨r, hr2, num_next (s := .iff b false one .nil .nil) hp e1 (Evl.Ex.trans e2 e27) (by omega) ha1.2.2 ⟨_, s3⟩ hp1 hz ⟨p7, qf, p6, zf, [], [], rfl, nw_get (ex_none (Evl.Ex.trans e15 e6) hp7) (hid_get upd_same (by simp; exact np7)), g1 _ _ hqf, hnf.mono g1, nw_get (ex_none e15 hp6) (hid_get (e7 _ _ upd_same) (by simp; exact np6)), rfl, rfl⟩ hrw hzl (by simp only [nl]; omega) (by simp only [nl]; simp; omega)⟩
      · obtain ⟨q, q1, vs1, vs3, ev, hq, h1, i1, hr2⟩ := hx
        cases ev
        obtain ⟨b0, b12, hfl, s1, _, _, s3⟩ := hs1
        have hqS := SqL.of (K := K) (e1 _ _ hq)
        simp only [dep, nl] at hd1 hlen
        have ln1 := rws_len i1
        walk_at "vc"
        refine ⟨q1, vs1, body, 0, i + nl done + 1, rfl, e1 _ _ h1, i1.mono e1, ha1.1, s1, by omega, by omega, by omega, by omega, fun pf qf zf H2 e2 hpf hqf hnf => ?_⟩
        have hpfS := SqL.of (K := K) (ex_nw _ _ hpf)
        have e12 := Evl.Ex.trans e1 e2
        have hqS2 := SqL.of (K := K) (e12 _ _ hq)
        have hp12 := e2 _ _ hp1
        have into1 := nw_into0 (H2 := H2) e1 hp1
        walk_at "vc"
        refine ⟨ty_list (SqL.of hp12), ?_⟩
        walk_at "vc"
        intro p6 hp6
        have e6 := Evl.Ex.new (o := .lst []) hp6
        walk_at "vc"
        intro p7 hp7
        have e7 := Evl.Ex.new (o := .lst [.str "while", .int b, .ref qf, .ref p6]) hp7
        have hp17 := e7 _ _ (e6 _ _ hp12)
        have np6 : p6 ≠ p := fun c => by rw [c, hp12] at hp6; cases hp6
        have np7 : p7 ≠ p := fun c => by rw [c, e6 _ _ hp12] at hp7; cases hp7
        refine ⟨p, zs, .ref p7, rfl, rfl, hp17, by rw [sizeLine_eq]; omega, ?_⟩
        walk_at "vc"
        have e27 := Evl.Ex.trans e6 e7
        have g1 := Evl.Ex.trans into1 (nw_mono (H0 := H) (hid_mono (as := [p]) e27))
        refine ⟨r, hr2, num_next (s := .whl b body .nil) hp e1 (Evl.Ex.trans e2 e27) (by omega) ha1.2 ⟨_, s3⟩ hp1 hz ⟨p7, qf, p6, zf, [], rfl, nw_get (ex_none (Evl.Ex.trans e12 e6) hp7) (hid_get upd_same (by simp; exact np7)), g1 _ _ hqf, hnf.mono g1, nw_get (ex_none e12 hp6) (hid_get (e7 _ _ upd_same) (by simp; exact np6)), rfl⟩ hrw hzl (by simp only [nl]; omega) (by simp only [nl]; omega)⟩
    · rintro σ H1 ⟨e1, _, _, _, done, zs, v3, v4, v5, rfl, hp1, hz, hrw, hzl⟩
      walk_at "vc"
      intro p2 hp2
      have e2 := Evl.Ex.new (o := .lst [.ref p, .int ((i + nl done : Nat) : Int)]) hp2
      rw [app_nil] at hrw
      subst hrw
      have hn2 : H p2 = none := ex_none e1 hp2
      refine k p2 p zs _ (Evl.Ex.trans e1 e2) (nw_get hn2 upd_same) (nw_get hp (e2 _ _ hp1)) (hz.mono fun c o q => ?_)
      obtain ⟨q1, q2⟩ := nw_some.mp q
      exact nw_get q1 (e2 _ _ (ex_hid _ _ q2))
theorem D_num (Z : Zf K mg) : ∀ n : Nat, Df P w K mg base "_law_numbered" n ["_law_rows_here", "_law_at"] (spNum n)
  | 0 => df_none Z 60 (st := s_z_numbered) rfl (by decide +kernel) (fun _ _ _ _ _ _ us hl => match us, hl with | [_, _], _ => rfl) (fun vs H Q E ⟨_, _, _, _, _, _, _, _, _, _, h, _⟩ => absurd h (Nat.not_lt_zero _))
  | n + 1 => num_one Z (D_num Z n)
end
end Ov
/-! text OvL7 -/
set_option Elab.async false
set_option linter.all false
set_option maxRecDepth 100000
namespace Ov
open PySem PySem.Spec PyProof.Rows L2
open Rows TL
local macro_rules | `(tactic| walk_at "hp") => `(tactic| first
  | assumption
  | exact upd_same
  | (refine Evl.Ex.new (by assumption) _ _ ?_; walk_at "hp")
  | (refine (by assumption : Evl.Ex _ _) _ _ ?_; walk_at "hp"))
local macro_rules | `(tactic| walk_at "sq") => `(tactic| first
  | assumption
  | exact SqL.of (by walk_at "hp")
  | exact SqT.of (by walk_at "hp")
  | (refine Evl.ex_l (by assumption) ?_; walk_at "sq")
  | (refine Evl.ex_t (by assumption) ?_; walk_at "sq")
  | (refine Evl.ex_l (Evl.Ex.new (by assumption)) ?_; walk_at "sq")
  | (refine Evl.ex_t (Evl.Ex.new (by assumption)) ?_; walk_at "sq"))
local macro_rules | `(tactic| walk_at "ex") => `(tactic| first
  | assumption
  | exact Evl.Ex.refl _
  | (refine Evl.Ex.trans ?_ (Evl.Ex.new (by assumption)); walk_at "ex")
  | (refine Evl.Ex.trans ?_ (by assumption); walk_at "ex"))
local macro_rules | `(tactic| walk_at "s1") => `(tactic| first
  | refine ⟨_, rfl, ?_⟩
  | refine ⟨rfl, ?_⟩
  | refine ⟨_, _, rfl, rfl, ?_⟩
  | refine ⟨_, _, _, rfl, rfl, ?_⟩)
local macro_rules | `(tactic| walk_at "st") => `(tactic| repeat walk_at "s1")
local macro_rules | `(tactic| walk_at "v1") => `(tactic| first
  | ((with_reducible refine' s_var ?vch ?_); (case vch => exact rfl))
  | with_reducible refine' s_c ?_
  | with_reducible refine' s_seq ?_
  | with_reducible refine' s_asg ?_
  | with_reducible refine' s_name ?_
  | with_reducible refine' s_cons ?_
  | with_reducible refine' s_nil ?_
  | with_reducible refine' s_op ?_
  | with_reducible refine' s_rI0 ?_
  | with_reducible refine' s_ret ?_
  | with_reducible refine' s_test ?_
  | with_reducible refine' s_ifS ?_
  | with_reducible refine' s_call ?_
  | with_reducible refine' s_cb ?_
  | ((with_reducible refine' s_rEq ?vch ?_); (case vch => exact rfl))
  | ((with_reducible refine' s_rNe ?vch ?_); (case vch => exact rfl))
  | ((with_reducible refine' s_ixT ?vch ?vca ?_); (case vch => walk_at "sq"); (case vca => first | exact rfl | exact at_nat 0 rfl | exact at_nat 1 rfl | exact at_nat 2 rfl | exact at_nat 3 rfl | exact at_nat 4 rfl))
  | ((with_reducible refine' s_ixL ?vch ?vca ?_); (case vch => walk_at "sq"); (case vca => first | exact rfl | exact at_nat 0 rfl | exact at_nat 1 rfl | exact at_nat 2 rfl | exact at_nat 3 rfl | exact at_nat 4 rfl))
  | with_reducible refine iteT' ?_
  | with_reducible refine iteF' ?_
  | with_reducible refine' ex_bl ?_
  | with_reducible refine' ex_int ?_
  | with_reducible refine' ex_str ?_
  | with_reducible refine' ex_int1 ?_
  | with_reducible refine' ex_str1 ?_
  | with_reducible refine' ex_int2 ?_
  | with_reducible refine' ex_pair ?_
  | with_reducible refine' s_un ?_
  | with_reducible refine' s_B ?_
  | with_reducible refine' s_andV ?_
  | with_reducible refine' s_orV ?_
  | with_reducible refine' s_notV ?_
  | with_reducible refine' s_and ?_
  | with_reducible refine' s_or ?_
  | with_reducible refine' s_not ?_
  | with_reducible refine' s_if ?_
  | with_reducible refine' s_chain ?_
  | with_reducible refine' s_next ?_
  | with_reducible refine' s_break ?_
  | with_reducible refine' s_cont ?_
  | with_reducible refine' s_drop ?_
  | with_reducible refine' s_retN ?_
  | with_reducible refine' s_par ?_
  | ((with_reducible refine' s_aug ?vch ?_); (case vch => exact rfl))
  | with_reducible refine' s_ip ?_
  | with_reducible refine' s_gcons ?_
  | with_reducible refine' s_gnil ?_
  | ((with_reducible refine' s_gtup ?vch ?vca ?_); (case vch => walk_at "sq"); (case vca => exact rfl))
  | with_reducible refine' s_tup ?_
  | with_reducible refine' s_lst ?_
  | with_reducible refine' s_sl ?_
  | with_reducible refine' s_part ?_
  | with_reducible refine' s_nopart ?_
  | with_reducible refine' s_fld ?_
  | with_reducible refine' s_make ?_
  | with_reducible refine' s_meth ?_
  | with_reducible refine' s_prop ?_
  | with_reducible refine' s_makeK ?_
  | with_reducible refine' s_gsub ?_
  | ((with_reducible refine' s_setL ?vch ?vca ?_); (case vch => walk_at "hp"); (case vca => exact rfl))
  | with_reducible refine' s_par3 ?_
  | with_reducible refine' ex_three ?_
  | with_reducible refine' s_star ?_
  | with_reducible refine' s_dnewK ?_
  | with_reducible refine' s_dsetd ?_
  | with_reducible refine' s_methR ?_
  | with_reducible refine' s_fldaug ?_
  | with_reducible refine' s_dictzip ?_
  | with_reducible refine' s_sfld ?_
  | with_reducible refine' s_bm ?_
  | with_reducible refine' s_bm0 ?_
  | with_reducible refine' s_m1 ?_
  | with_reducible refine' s_dget ?_
  | with_reducible refine' s_lc ?_
  | with_reducible refine' s_for ?_
  | with_reducible refine' s_iList ?_
  | with_reducible refine' s_iTup ?_
  | with_reducible refine' s_iStr ?_
  | with_reducible refine' s_iRng1 ?_
  | with_reducible refine' s_iRng2 ?_
  | with_reducible refine' s_yes ?_
  | with_reducible refine' s_rU ?_
  | ((with_reducible refine' s_isiP ?vch ?_); (case vch => exact rfl))
  | ((with_reducible refine' ex_lenL ?vch ?_); (case vch => walk_at "sq"))
  | ((with_reducible refine' ex_lenT ?vch ?_); (case vch => walk_at "sq"))
  | ((with_reducible refine' ex_tupL ?vch ?_); (case vch => walk_at "sq"))
  | ((with_reducible refine' ex_lstT ?vch ?_); (case vch => walk_at "sq"))
  | ((with_reducible refine' ex_srcL ?vch ?_); (case vch => walk_at "sq"))
  | ((with_reducible refine' ex_srcT ?vch ?_); (case vch => walk_at "sq"))
  | ((with_reducible refine' s_mk ?vch ?_); (case vch => exact small_le (Nat.le_of_ble_eq_true rfl)))
  | with_reducible refine' ⟨_, _, rfl, rfl, ?_⟩
  | with_reducible refine' ⟨⟨_, rfl⟩, ?_⟩
  | with_reducible refine' ⟨rfl, ?_⟩
  | ((with_reducible refine' iteT_of ?vch ?_); (case vch => exact rfl))
  | ((with_reducible refine' iteF_of ?vch ?_); (case vch => exact rfl)))
local macro_rules | `(tactic| walk_at "vc") => `(tactic| repeat walk_at "v1")
def StAt (H : Hp) : List V → List (Ln × Nat) → Prop
  | [], [] => True
  | v :: vs, l :: ls => NLn H v l.1 l.2 ∧ StAt H vs ls
  | _, _ => False
theorem StAt.mono {H H' : Hp} (e : Ex H H') : ∀ {vs : List V} {ls : List (Ln × Nat)}, StAt H vs ls → StAt H' vs ls
  | [], [], _ => trivial
  | _ :: _, _ :: _, h => ⟨h.1.mono e, StAt.mono e h.2⟩
  | [], _ :: _, h => h.elim
  | _ :: _, [], h => h.elim
theorem StAt.app {H : Hp} : ∀ {vs ws : List V} {ls ms : List (Ln × Nat)}, StAt H vs ls → StAt H ws ms → StAt H (vs ++ ws) (ls ++ ms)
  | [], _, [], _, _, q => q
  | _ :: _, _, _ :: _, _, h, q => ⟨h.1, StAt.app h.2 q⟩
  | [], _, _ :: _, _, h, _ => h.elim
  | _ :: _, _, [], _, h, _ => h.elim
theorem StAt.len {H : Hp} : ∀ {vs : List V} {ls : List (Ln × Nat)}, StAt H vs ls → vs.length = ls.length
  | [], [], _ => rfl
  | _ :: _, _ :: _, h => by rw [List.length_cons, List.length_cons, StAt.len h.2]
  | [], _ :: _, h => h.elim
  | _ :: _, [], h => h.elim
theorem StAt.get {H : Hp} : ∀ {vs : List V} {ls : List (Ln × Nat)}, StAt H vs ls → ∀ (i : Nat) (v : V), vs[i]? = some v → ∃ l, ls[i]? = some l ∧ NLn H v l.1 l.2
  | [], [], _, i, v, h => by simp at h
  | v :: vs, l :: ls, h, 0, v', e => ⟨l, rfl, by cases e; exact h.1⟩
  | v :: vs, l :: ls, h, i + 1, v', e => by
    obtain ⟨l', h1, h2⟩ := StAt.get h.2 i v' (by simpa using e)
    exact ⟨l', by simpa using h1, h2⟩
  | [], _ :: _, h, _, _, _ => h.elim
  | _ :: _, [], h, _, _, _ => h.elim
theorem stm_len : ∀ {r : Rows} {d : Nat} (i : Nat), Shape r d → (stm r i).length ≤ nl r
  | .nil, _, _, _ => Nat.le_refl _
  | .line l r, d, i, h => by
    have := stm_len (r := r) (i + 1) h.2
    show (stm r (i + 1)).length + 1 ≤ 1 + nl r
    omega
  | .iff b e one two r, d, i, h => by
    obtain ⟨_, _, he, ⟨d', _, h1, h2⟩, h3⟩ := h
    have q1 := stm_len (i + 1) h1
    have q2 := stm_len (i + 1 + nl one + 1) h2
    have q3 := stm_len (i + (1 + nl one + (if e then 1 + nl two else 0) + 1)) h3
    simp only [stm, nl, List.length_append]
    cases e with
    | true =>
      simp only [if_true] at q3 ⊢
      omega
    | false =>
      have e2 := he rfl
      subst e2
      simp only [stm, List.length_nil] at q3 ⊢
      omega
  | .whl b body r, d, i, h => by
    obtain ⟨_, _, _, h1, _, _, h3⟩ := h
    have q1 := stm_len (i + 1) h1
    have q3 := stm_len (i + (1 + nl body + 1)) h3
    simp only [stm, nl, List.length_append]
    omega
/-- rows with their first number -/
def NI (H : Hp) (d : Nat) (R : Rows × Nat) (vs : List V) : Prop := NRw H R.1 R.2 vs
section
variable {P : Program} {w : World} {K : PySem.W.Frag} {mg : Str → Option Value} {base : Heap}
def spStL (n : Nat) : Sp := fun vs H Q _ => ∃ (a : Addr) (us : List V) (r : Rows) (d i : Nat) (H0 : Hp), vs = [.ref a] ∧ Ex H0 H ∧ H0 a = some (.lst us) ∧ NRw H0 r i us ∧ Shape r d ∧ dep r < n ∧ nl r ≤ 300 ∧ ∀ p zs H', Ex H H' → H p = none → H' p = some (.lst zs) → StAt H0 zs (stm r i) → Q (.ref p) H'
theorem for_nrw {J : It} {vs : List V} {G : Hp → Prop} (w : Walk J vs.length G (YAt vs)) {g : TG} {tb : TS} {D : Ends} {σ : L2.St} {H : Hp} {H0 : Hp} (i N : Nat) (In : Rows → L2.St → Hp → Prop) (r0 : Rows) (hN : nl r0 = N) (hI : NRw H0 r0 i vs) (h0 : In r0 σ H) (hG : ∀ r σ H, In r σ H → G H)
    (hs : ∀ r x vs' σ H, In r σ H → nl r ≤ N → NRw H0 r (i + (N - nl r)) (x :: vs') → g x σ H fun σ2 H2 => tb { D with nx := fun σ H => ∃ r', (nl r' ≤ N ∧ NRw H0 r' (i + (N - nl r')) vs') ∧ In r' σ H, ct := fun σ H => ∃ r', (nl r' ≤ N ∧ NRw H0 r' (i + (N - nl r')) vs') ∧ In r' σ H, bk := D.nx } σ2 H2) (hd : ∀ σ H, In .nil σ H → D.nx σ H) : ForGo J g tb D σ H :=
  for_rows w (fun r vs => nl r ≤ N ∧ NRw H0 r (i + (N - nl r)) vs) (fun r h => by
    obtain ⟨_, h⟩ := h
    cases r with
    | nil => rfl
    | line _ _ => obtain ⟨_, _, h, _⟩ := h; cases h
    | iff _ _ _ _ _ => obtain ⟨_, _, _, _, _, _, h, _⟩ := h; cases h
    | whl _ _ _ => obtain ⟨_, _, _, _, _, h, _⟩ := h; cases h) In r0 ⟨Nat.le_of_eq hN, by rw [hN, Nat.sub_self]; exact hI⟩ h0 hG (fun r x vs' σ H a b => hs r x vs' σ H a b.1 b.2) hd
theorem sc_z_statements : FnScope ["_law_rows_here", "_law_found", "_law_row"] ["_law_rows_here"] (defScope s_z_statements) := ⟨rfl, rfl, rfl, by decide +kernel, rfl, by decide +kernel, by decide +kernel⟩
theorem stL_one (Z : Zf K mg) {n : Nat} (R : Df P w K mg base "_law_statements" (n + 1) ["_law_rows_here"] (spStL n)) : Df P w K mg base "_law_statements" (n+2) ["_law_rows_here"] (spStL (n+1)) := by
  refine def_ok Z 62 rfl (by decide +kernel) sc_z_statements (fun _ _ _ _ _ _ us hl => match us, hl with | [_], _ => rfl) (fun vs H Q E h => ?_) (fun f cdv A outer s H vs Q E hr h => ⟨_, (pss_cons (ps_asg (pe_lst pa_nil) (pgn 1 sc_z_statements.nd))
      (pss_cons (ps_for PassesOwn.never rfl (pi_list (pv 0)) (pgn 2 sc_z_statements.nd)
      (pss_one (ps_if (pt_cmpR op_eq (pe_ix ix_list (pv 2) pe_int (fun _ _ => rfl)) pe_str (nomark _)) (pss_one (ps_expr (pe_bm PySem.F.plainAttrs_list PySem.F.slot_list_append PySem.F.type_list_append mt_append (pv 1) (pa_cons (pv 2) pa_nil)))) (pss_one (ps_expr (pe_bm PySem.F.plainAttrs_list PySem.F.slot_list_extend PySem.F.type_list_extend mt_extend (pv 1) (pa_cons (pe_op op_cat (pe_callD R hr (by omega) rfl (pa_cons (pe_ix ix_list (pv 2) pe_int (fun _ _ => rfl)) pa_nil)) (pe_callD R hr (by omega) rfl (pa_cons (pe_ix ix_list (pv 2) pe_int (fun _ _ => rfl)) pa_nil))) pa_nil)))))))
      (pss_one (ps_ret (pv 1))))), ?_⟩)
  · obtain ⟨a, us, r, d, i, H0, rfl, _⟩ := h
    rfl
  · obtain ⟨a, us, rows, d, i, H0, rfl, e0, ha, hr, hsh, hdp, hnl, k⟩ := h
    have haS := SqL.of (K := K) (e0 _ _ ha)
    have hsl := stm_len i hsh
    walk_at "vc"
    intro p hp
    walk_at "vc"
    refine for_nrw (walk_list (xs := us)) (H0 := H0) i (nl rows) (fun r σ H' => Ex H H' ∧ dep r ≤ dep rows ∧ (∃ d, Shape r d) ∧ ∃ (zs : List V) (done : List (Ln × Nat)) (v : Option V), σ = [some (.ref a), some (.ref p), v] ∧ H' p = some (.lst zs) ∧ StAt H0 zs done ∧ stm rows i = done ++ stm r (i + (nl rows - nl r))) rows rfl hr ⟨Evl.Ex.new hp, Nat.le_refl _, ⟨d, hsh⟩, [], [], _, rfl, upd_same, trivial, by rw [Nat.sub_self]; rfl⟩ (fun r σ H' h => Evl.ex_l h.1 haS) ?_ ?_
    · rintro r x vs' σ H1 ⟨e1, hd1, ⟨d1, hs1⟩, zs, done, v, rfl, hp1, hz, hst⟩ hnr hx
      have e01 := Evl.Ex.trans e0 e1
      have hzl := hz.len
      have htl : (stm rows i).length = done.length + (stm r (i + (nl rows - nl r))).length := by rw [hst, List.length_append]
      rcases r with _ | ⟨l, r⟩ | ⟨b, e, one, two, r⟩ | ⟨b, body, r⟩
      · cases hx
      · obtain ⟨x', vs2, ev, ⟨q, rfl, hq⟩, hr2⟩ := hx
        cases ev
        have hqS := SqL.of (K := K) (e01 _ _ hq)
        simp only [dep, nl] at hd1 hnr
        walk_at "vc"
        refine ⟨ty_list (SqL.of hp1), ?_⟩
        walk_at "vc"
        refine ⟨p, zs, .ref q, rfl, rfl, hp1, by rw [sizeLine_eq]; omega, ?_⟩
        walk_at "vc"
        have ei : i + (nl rows - nl (.line l r)) + 1 = i + (nl rows - nl r) := by simp only [nl]; omega
        refine ⟨r, ⟨by omega, by rw [← ei]; exact hr2⟩, ex_upd e1 hp, hd1, ⟨d1, hs1.2⟩, zs ++ [.ref q], done ++ [(l, i + (nl rows - nl (.line l r)))], _, rfl, upd_same, StAt.app hz ⟨⟨q, rfl, hq⟩, trivial⟩, ?_⟩
        rw [hst, ← ei]
        simp [stm]
      · obtain ⟨q, q1, q2, vs1, vs2, vs3, ev, hq, h1, i1, h2, i2, hr2⟩ := hx
        cases ev
        obtain ⟨_, _, hent, ⟨d2, hd2, s1, s2⟩, s3⟩ := hs1
        have hqS := SqL.of (K := K) (e01 _ _ hq)
        have hnr' := hnr
        simp only [dep, nl] at hd1 hnr
        have ntwo : nl two ≤ 300 := by
          cases e with
          | true => simp only [if_true] at hnr; omega
          | false => rw [hent rfl]; decide
        have b1 := stm_len (i + (nl rows - nl (.iff b e one two r)) + 1) s1
        have b2 := stm_len (i + (nl rows - nl (.iff b e one two r)) + 1 + nl one + 1) s2
        walk_at "vc"
        refine ⟨ty_list (SqL.of hp1), ?_⟩
        walk_at "vc"
        refine ⟨q1, vs1, one, d2, _, H0, rfl, e01, h1, i1, s1, by omega, by omega, fun p4 zs4 H4 e4 _ hp4 hz4 => ?_⟩
        have e04 := Evl.Ex.trans e01 e4
        have hqS4 := SqL.of (K := K) (e04 _ _ hq)
        walk_at "vc"
        refine ⟨q2, vs2, two, d2, _, H0, rfl, e04, h2, i2, s2, by omega, ntwo, fun p5 zs5 H5 e5 _ hp5 hz5 => ?_⟩
        have l4 := hz4.len
        have l5 := hz5.len
        have e05 := Evl.Ex.trans e04 e5
        refine ⟨p4, p5, zs4, zs5, rfl, rfl, e5 _ _ hp4, hp5, by rw [sizeLine_eq]; omega, fun p6 hp6 => ?_⟩
        have e6 := Evl.Ex.new (o := .lst (zs4 ++ zs5)) hp6
        have e16 := Evl.Ex.trans e4 (Evl.Ex.trans e5 e6)
        refine ⟨p, p6, zs, zs4 ++ zs5, rfl, rfl, e16 _ _ hp1, upd_same, by rw [List.length_append, sizeLine_eq]; omega, ?_⟩
        walk_at "vc"
        have ei : i + (nl rows - nl (.iff b e one two r)) + (1 + nl one + (if e then 1 + nl two else 0) + 1) = i + (nl rows - nl r) := by simp only [nl]; omega
        refine ⟨r, ⟨by omega, by rw [← ei]; exact hr2⟩, ex_upd (Evl.Ex.trans e1 e16) hp, by omega, ⟨_, s3⟩, zs ++ (zs4 ++ zs5), done ++ (stm one (i + (nl rows - nl (.iff b e one two r)) + 1) ++ stm two (i + (nl rows - nl (.iff b e one two r)) + 1 + nl one + 1)), _, rfl, upd_same, StAt.app hz (StAt.app hz4 hz5), ?_⟩
        rw [hst, ← ei]
        simp [stm]
      · obtain ⟨q, q1, q2, vs1, vs3, ev, hq, h1, i1, h2, hr2⟩ := hx
        cases ev
        obtain ⟨_, _, hfl, s1, _, _, s3⟩ := hs1
        have hqS := SqL.of (K := K) (e01 _ _ hq)
        have hnr' := hnr
        simp only [dep, nl] at hd1 hnr
        have b1 := stm_len (i + (nl rows - nl (.whl b body r)) + 1) s1
        walk_at "vc"
        refine ⟨ty_list (SqL.of hp1), ?_⟩
        walk_at "vc"
        refine ⟨q1, vs1, body, 0, _, H0, rfl, e01, h1, i1, s1, by omega, by omega, fun p4 zs4 H4 e4 _ hp4 hz4 => ?_⟩
        have e04 := Evl.Ex.trans e01 e4
        have hqS4 := SqL.of (K := K) (e04 _ _ hq)
        walk_at "vc"
        refine ⟨q2, [], .nil, 0, 0, H0, rfl, e04, h2, rfl, trivial, by simp only [dep]; omega, by decide, fun p5 zs5 H5 e5 _ hp5 hz5 => ?_⟩
        have l4 := hz4.len
        have l5 := hz5.len
        have e05 := Evl.Ex.trans e04 e5
        refine ⟨p4, p5, zs4, zs5, rfl, rfl, e5 _ _ hp4, hp5, by rw [sizeLine_eq]; simp only [stm, List.length_nil] at l5; omega, fun p6 hp6 => ?_⟩
        have e6 := Evl.Ex.new (o := .lst (zs4 ++ zs5)) hp6
        have e16 := Evl.Ex.trans e4 (Evl.Ex.trans e5 e6)
        refine ⟨p, p6, zs, zs4 ++ zs5, rfl, rfl, e16 _ _ hp1, upd_same, by rw [List.length_append, sizeLine_eq]; simp only [stm, List.length_nil] at l5; omega, ?_⟩
        walk_at "vc"
        have ei : i + (nl rows - nl (.whl b body r)) + (1 + nl body + 1) = i + (nl rows - nl r) := by simp only [nl]; omega
        refine ⟨r, ⟨by omega, by rw [← ei]; exact hr2⟩, ex_upd (Evl.Ex.trans e1 e16) hp, by omega, ⟨_, s3⟩, zs ++ (zs4 ++ zs5), done ++ (stm body (i + (nl rows - nl (.whl b body r)) + 1) ++ []), _, rfl, upd_same, StAt.app hz (StAt.app hz4 hz5), ?_⟩
        rw [hst, ← ei]
        simp [stm]
    · rintro σ H1 ⟨e1, _, _, zs, done, v, rfl, hp1, hz, hst⟩
      walk_at "vc"
      have ee : stm rows i = done := by rw [hst]; simp [stm]
      rw [← ee] at hz
      exact k p zs H1 e1 hp hp1 hz
end
theorem D_stL {P : Program} {w : World} {K : PySem.W.Frag} {mg : Str → Option Value} {base : Heap} (Z : Zf K mg) : ∀ n : Nat, Df P w K mg base "_law_statements" (n + 1) ["_law_rows_here"] (spStL n)
  | 0 => df_noneK Z 1 62 (st := s_z_statements) rfl (by decide +kernel) (fun _ _ _ _ _ _ us hl => match us, hl with | [_], _ => rfl) (fun vs H Q E ⟨_, _, _, _, _, _, _, _, _, _, _, h, _⟩ => absurd h (Nat.not_lt_zero _))
  | n + 1 => stL_one Z (D_stL Z n)
end Ov
/-! text OvL8 -/
set_option Elab.async false
set_option linter.all false
set_option maxRecDepth 100000
namespace Ov
open PySem PySem.Spec PyProof.Rows L2
open Rows TL
local macro_rules | `(tactic| walk_at "hp") => `(tactic| first
  | assumption
  | exact upd_same
  | (refine Evl.Ex.new (by assumption) _ _ ?_; walk_at "hp")
  | (refine (by assumption : Evl.Ex _ _) _ _ ?_; walk_at "hp"))
local macro_rules | `(tactic| walk_at "sq") => `(tactic| first
  | assumption
  | exact SqL.of (by walk_at "hp")
  | exact SqT.of (by walk_at "hp")
  | (refine Evl.ex_l (by assumption) ?_; walk_at "sq")
  | (refine Evl.ex_t (by assumption) ?_; walk_at "sq")
  | (refine Evl.ex_l (Evl.Ex.new (by assumption)) ?_; walk_at "sq")
  | (refine Evl.ex_t (Evl.Ex.new (by assumption)) ?_; walk_at "sq"))
local macro_rules | `(tactic| walk_at "ex") => `(tactic| first
  | assumption
  | exact Evl.Ex.refl _
  | (refine Evl.Ex.trans ?_ (Evl.Ex.new (by assumption)); walk_at "ex")
  | (refine Evl.Ex.trans ?_ (by assumption); walk_at "ex"))
local macro_rules | `(tactic| walk_at "s1") => `(tactic| first
  | refine ⟨_, rfl, ?_⟩
  | refine ⟨rfl, ?_⟩
  | refine ⟨_, _, rfl, rfl, ?_⟩
  | refine ⟨_, _, _, rfl, rfl, ?_⟩)
local macro_rules | `(tactic| walk_at "st") => `(tactic| repeat walk_at "s1")
local macro_rules | `(tactic| walk_at "v1") => `(tactic| first
  | ((with_reducible refine' s_var ?vch ?_); (case vch => exact rfl))
  | with_reducible refine' s_c ?_
  | with_reducible refine' s_seq ?_
  | with_reducible refine' s_asg ?_
  | with_reducible refine' s_name ?_
  | with_reducible refine' s_cons ?_
  | with_reducible refine' s_nil ?_
  | with_reducible refine' s_op ?_
  | with_reducible refine' s_rI0 ?_
  | with_reducible refine' s_ret ?_
  | with_reducible refine' s_test ?_
  | with_reducible refine' s_ifS ?_
  | with_reducible refine' s_call ?_
  | with_reducible refine' s_cb ?_
  | ((with_reducible refine' s_rEq ?vch ?_); (case vch => exact rfl))
  | ((with_reducible refine' s_rNe ?vch ?_); (case vch => exact rfl))
  | ((with_reducible refine' s_ixT ?vch ?vca ?_); (case vch => walk_at "sq"); (case vca => first | exact rfl | exact at_nat 0 rfl | exact at_nat 1 rfl | exact at_nat 2 rfl | exact at_nat 3 rfl | exact at_nat 4 rfl))
  | ((with_reducible refine' s_ixL ?vch ?vca ?_); (case vch => walk_at "sq"); (case vca => first | exact rfl | exact at_nat 0 rfl | exact at_nat 1 rfl | exact at_nat 2 rfl | exact at_nat 3 rfl | exact at_nat 4 rfl))
  | with_reducible refine iteT' ?_
  | with_reducible refine iteF' ?_
  | with_reducible refine' ex_bl ?_
  | with_reducible refine' ex_int ?_
  | with_reducible refine' ex_str ?_
  | with_reducible refine' ex_int1 ?_
  | with_reducible refine' ex_str1 ?_
  | with_reducible refine' ex_int2 ?_
  | with_reducible refine' ex_pair ?_
  | with_reducible refine' s_un ?_
  | with_reducible refine' s_B ?_
  | with_reducible refine' s_andV ?_
  | with_reducible refine' s_orV ?_
  | with_reducible refine' s_notV ?_
  | with_reducible refine' s_and ?_
  | with_reducible refine' s_or ?_
  | with_reducible refine' s_not ?_
  | with_reducible refine' s_if ?_
  | with_reducible refine' s_chain ?_
  | with_reducible refine' s_next ?_
  | with_reducible refine' s_break ?_
  | with_reducible refine' s_cont ?_
  | with_reducible refine' s_drop ?_
  | with_reducible refine' s_retN ?_
  | with_reducible refine' s_par ?_
  | ((with_reducible refine' s_aug ?vch ?_); (case vch => exact rfl))
  | with_reducible refine' s_ip ?_
  | with_reducible refine' s_gcons ?_
  | with_reducible refine' s_gnil ?_
  | ((with_reducible refine' s_gtup ?vch ?vca ?_); (case vch => walk_at "sq"); (case vca => exact rfl))
  | with_reducible refine' s_tup ?_
  | with_reducible refine' s_lst ?_
  | with_reducible refine' s_sl ?_
  | with_reducible refine' s_part ?_
  | with_reducible refine' s_nopart ?_
  | with_reducible refine' s_fld ?_
  | with_reducible refine' s_make ?_
  | with_reducible refine' s_meth ?_
  | with_reducible refine' s_prop ?_
  | with_reducible refine' s_makeK ?_
  | with_reducible refine' s_gsub ?_
  | ((with_reducible refine' s_setL ?vch ?vca ?_); (case vch => walk_at "hp"); (case vca => exact rfl))
  | with_reducible refine' s_par3 ?_
  | with_reducible refine' ex_three ?_
  | with_reducible refine' s_star ?_
  | with_reducible refine' s_dnewK ?_
  | with_reducible refine' s_dsetd ?_
  | with_reducible refine' s_methR ?_
  | with_reducible refine' s_fldaug ?_
  | with_reducible refine' s_dictzip ?_
  | with_reducible refine' s_sfld ?_
  | with_reducible refine' s_bm ?_
  | with_reducible refine' s_bm0 ?_
  | with_reducible refine' s_m1 ?_
  | with_reducible refine' s_dget ?_
  | with_reducible refine' s_lc ?_
  | with_reducible refine' s_for ?_
  | with_reducible refine' s_iList ?_
  | with_reducible refine' s_iTup ?_
  | with_reducible refine' s_iStr ?_
  | with_reducible refine' s_iRng1 ?_
  | with_reducible refine' s_iRng2 ?_
  | with_reducible refine' s_yes ?_
  | with_reducible refine' s_rU ?_
  | ((with_reducible refine' s_isiP ?vch ?_); (case vch => exact rfl))
  | ((with_reducible refine' ex_lenL ?vch ?_); (case vch => walk_at "sq"))
  | ((with_reducible refine' ex_lenT ?vch ?_); (case vch => walk_at "sq"))
  | ((with_reducible refine' ex_tupL ?vch ?_); (case vch => walk_at "sq"))
  | ((with_reducible refine' ex_lstT ?vch ?_); (case vch => walk_at "sq"))
  | ((with_reducible refine' ex_srcL ?vch ?_); (case vch => walk_at "sq"))
  | ((with_reducible refine' ex_srcT ?vch ?_); (case vch => walk_at "sq"))
  | ((with_reducible refine' s_mk ?vch ?_); (case vch => exact small_le (Nat.le_of_ble_eq_true rfl)))
  | with_reducible refine' ⟨_, _, rfl, rfl, ?_⟩
  | with_reducible refine' ⟨⟨_, rfl⟩, ?_⟩
  | with_reducible refine' ⟨rfl, ?_⟩
  | ((with_reducible refine' iteT_of ?vch ?_); (case vch => exact rfl))
  | ((with_reducible refine' iteF_of ?vch ?_); (case vch => exact rfl)))
local macro_rules | `(tactic| walk_at "vc") => `(tactic| repeat walk_at "v1")
theorem s_dget2 {td ty tx : TE} {σ : L2.St} {H : Hp} {Q : VK} (q : td σ H fun x H1 => ∃ a, x = .ref a ∧ IsD H1 a ∧ ty σ H1 fun y H2 => tx σ H2 fun z H3 => ∃ o, DGet H3 a y o ∧ Q (o.getD z) H3) : tDGet2 td ty tx σ H Q := q
theorem s_dput {td ty tv : TE} {D : Ends} {σ : L2.St} {H : Hp} (q : tv σ H fun v H1 => td σ H1 fun x H2 => ty σ H2 fun y H3 => ∃ a H4, x = .ref a ∧ DPut H3 a y v H4 ∧ D.nx σ H4) : sDPut td ty tv D σ H := q
def jk : Key → Int
  | .inl i => i
  | .inr _ => -1
def keysI (kvs : List (Key × V)) : List Int := kvs.map fun q => jk q.1
/-- how often which line was gone through -/
def SeenAt (H : Hp) (s : Addr) (f : Nat → Int) : Prop := ∃ kvs : List (Key × V), H s = some (.dK kvs) ∧ (keysI kvs).Nodup ∧ (∀ q ∈ kvs, ∃ j : Nat, j < 1000 ∧ q.1 = Sum.inl (j : Int)) ∧ ∀ j : Nat, (valV kvs (Sum.inl (j : Int))).getD (.int 0) = .int (f j)
theorem keys_put (kvs : List (Key × V)) (hk : ∀ q ∈ kvs, ∃ j : Nat, j < 1000 ∧ q.1 = Sum.inl (j : Int)) (j : Nat) (y : V) : keysI (putK kvs (Sum.inl (j : Int)) y) = keysI kvs ∨ ((j : Int) ∉ keysI kvs ∧ keysI (putK kvs (Sum.inl (j : Int)) y) = keysI kvs ++ [(j : Int)]) := by
  unfold putK keysI
  by_cases c : (kvs.any fun kv => decide (kv.1 = (Sum.inl (j : Int) : Key))) = true
  · refine .inl ?_
    rw [if_pos c, List.map_map]
    refine List.map_congr_left fun q _ => ?_
    show jk (if q.1 = (Sum.inl (j : Int) : Key) then (q.1, y) else q).1 = jk q.1
    split <;> rfl
  · refine .inr ⟨fun m => ?_, ?_⟩
    · obtain ⟨q, hq, e⟩ := List.mem_map.mp m
      obtain ⟨i, _, ei⟩ := hk q hq
      rw [ei] at e
      have e' : (i : Int) = (j : Int) := e
      exact c (List.any_eq_true.mpr ⟨q, hq, decide_eq_true (by rw [ei, e'])⟩)
    · rw [if_neg c, List.map_append]
      rfl
theorem nodup_lt : ∀ (n : Nat) (l : List Int), l.Nodup → (∀ k ∈ l, 0 ≤ k ∧ k < (n : Int)) → l.length ≤ n
  | 0, [], _, _ => Nat.le_refl _
  | 0, k :: l, _, h => by
    have := h k List.mem_cons_self
    omega
  | n + 1, l, hd, h => by
    by_cases c : (n : Int) ∈ l
    · have q := nodup_lt n (l.erase (n : Int)) (hd.erase _) fun k hk => by
        obtain ⟨h1, h2⟩ := (List.Nodup.mem_erase_iff hd).mp hk
        have := h k h2
        omega
      rw [List.length_erase_of_mem c] at q
      omega
    · have q := nodup_lt n l hd fun k hk => by
        have h1 := h k hk
        have : k ≠ (n : Int) := fun z => c (by rw [← z]; exact hk)
        omega
      omega
theorem seen_small {kvs : List (Key × V)} (h1 : (keysI kvs).Nodup) (h2 : ∀ q ∈ kvs, ∃ j : Nat, j < 1000 ∧ q.1 = Sum.inl (j : Int)) : kvs.length ≤ 1000 := by
  have q := nodup_lt 1000 (keysI kvs) h1 fun k hk => by
    obtain ⟨q, hq, rfl⟩ := List.mem_map.mp hk
    obtain ⟨j, hj, e⟩ := h2 q hq
    rw [e]
    exact ⟨by show (0 : Int) ≤ (j : Int); omega, by show (j : Int) < ((1000 : Nat) : Int); omega⟩
  unfold keysI at q
  rw [List.length_map] at q
  exact q
/-- one more at j -/
theorem SeenAt.put {H : Hp} {s : Addr} {f : Nat → Int} {kvs : List (Key × V)} {j : Nat} (hj : j < 1000) (h1 : (keysI kvs).Nodup) (h2 : ∀ q ∈ kvs, ∃ j : Nat, j < 1000 ∧ q.1 = Sum.inl (j : Int)) (h3 : ∀ j : Nat, (valV kvs (Sum.inl (j : Int))).getD (.int 0) = .int (f j)) : SeenAt (upd H s (.dK (putK kvs (Sum.inl (j : Int)) (.int (f j + 1))))) s (fun t => f t + if j = t then 1 else 0) := by
  refine ⟨_, upd_same, ?_, fun q hq => ?_, fun t => ?_⟩
  · rcases keys_put kvs h2 j (.int (f j + 1)) with e | ⟨n, e⟩
    · rw [e]; exact h1
    · rw [e]
      exact List.nodup_append.mpr ⟨h1, by simp, fun a ha b hb c => n (by rw [← List.mem_singleton.mp hb, ← c]; exact ha)⟩
  · unfold putK at hq
    split at hq
    · obtain ⟨q0, hq0, rfl⟩ := List.mem_map.mp hq
      obtain ⟨i, hi, e⟩ := h2 q0 hq0
      refine ⟨i, hi, ?_⟩
      split <;> exact e
    · rcases List.mem_append.mp hq with hq | hq
      · exact h2 q hq
      · rw [List.mem_singleton.mp hq]
        exact ⟨j, hj, rfl⟩
  · rw [valV_put]
    by_cases c : j = t
    · subst c
      rw [if_pos rfl]
      show V.int (f j + 1) = V.int (f j + if j = j then 1 else 0)
      rw [if_pos rfl]
    · rw [if_neg (fun e => by have e' : (t : Int) = (j : Int) := Sum.inl.inj e; omega), h3 t]
      show V.int (f t) = V.int (f t + if j = t then 1 else 0)
      rw [if_neg c, Int.add_zero]
/-! ### rounds, by turns -/
theorem rounds_lt {b g x : Int} {j : Nat} (hg : 1 ≤ g) (hj : (j : Int) < rounds b g x) : b ≤ x - j * g := by
  unfold rounds at hj
  by_cases c : x < b
  · rw [if_pos c] at hj; omega
  · rw [if_neg c] at hj
    have h1 : (j : Int) ≤ (x - b) / g := by omega
    have h2 := (Int.le_ediv_iff_mul_le (by omega : 0 < g)).mp h1
    omega
theorem rounds_eq2 {b g x : Int} {j : Nat} (hg : 1 ≤ g) (hj : (j : Int) = rounds b g x) : x - j * g < b := by
  unfold rounds at hj
  by_cases c : x < b
  · rw [if_pos c] at hj
    have : j = 0 := by omega
    subst this
    simp
    exact c
  · rw [if_neg c] at hj
    have h1 := Int.lt_ediv_add_one_mul_self (x - b) (show 0 < g by omega)
    rw [hj]
    omega
theorem cnt_flat : ∀ {r : Rows}, Flat r → ∀ i t x y, cnt r i t x = cnt r i t y
  | .nil, _, _, _, _, _ => rfl
  | .line l r, h, i, t, x, y => by
    show (if i = t then 1 else 0) + cnt r (i + 1) t (x - l.byn) = (if i = t then 1 else 0) + cnt r (i + 1) t (y - l.byn)
    rw [cnt_flat (r := r) h (i + 1) t (x - l.byn) (y - l.byn)]
  | .iff _ _ _ _ _, h, _, _, _, _ => h.elim
  | .whl _ _ _, h, _, _, _, _ => h.elim
section
variable {P : Program} {w : World} {K : PySem.W.Frag} {mg : Str → Option Value} {base : Heap}
def spOften (n : Nat) : Sp := fun vs H Q _ => ∃ (a s : Addr) (us : List V) (r : Rows) (d i : Nat) (x : Int) (f : Nat → Int) (H0 : Hp), vs = [.ref a, .int x, .ref s] ∧ Ex H0 H ∧ H0 s = none ∧ H0 a = some (.lst us) ∧ NRw H0 r i us ∧ Shape r d ∧ dep r < n ∧ i + nl r ≤ 1000 ∧ x ≤ 1000 ∧ SeenAt H s f ∧
  ∀ H', Ex H0 H' → Ex (hid [s] H) (hid [s] H') → SeenAt H' s (fun t => f t + cnt r i t x) → Q (.int (rem r x)) H'
theorem sc_z_often : FnScope ["_law_rows_here", "_law_left", "_law_seen", "_law_row", "_law_turn"] ["_law_rows_here", "_law_left", "_law_seen"] (defScope s_z_often) := ⟨rfl, rfl, rfl, by decide +kernel, rfl, by decide +kernel, by decide +kernel⟩
theorem often_one (Z : Zf K mg) {n : Nat} (R : Df P w K mg base "_law_often" n ["_law_rows_here", "_law_left", "_law_seen"] (spOften n)) : Df P w K mg base "_law_often" (n+1) ["_law_rows_here", "_law_left", "_law_seen"] (spOften (n+1)) := by
  refine def_ok Z 61 rfl (by decide +kernel) sc_z_often (fun _ _ _ _ _ _ us hl => match us, hl with | [_, _, _], _ => rfl) (fun vs H Q E h => ?_) (fun f cdv A outer s H vs Q E hr h => ⟨_, (pss_cons (ps_for PassesOwn.never rfl (pi_list (pv 0)) (pgn 3 sc_z_often.nd)
      (pss_one (ps_if (pt_cmpR op_eq (pe_ix ix_list (pv 3) pe_int (fun _ _ => rfl)) pe_str (nomark _)) (pss_cons (ps_dput (hu_of hr) (pv 2) (pe_ix ix_list (pv 3) pe_int (fun _ _ => rfl)) (pe_op op_add (pe_dget2 (hu_of hr) (pv 2) (pe_ix ix_list (pv 3) pe_int (fun _ _ => rfl)) pe_int ⟨rfl, rfl, rfl, rfl⟩) pe_int) rfl)
      (pss_one (ps_asg (pe_op op_sub (pv 1) (pe_ix ix_list (pv 3) pe_int (fun _ _ => rfl))) (pgn 1 sc_z_often.nd)))) (pss_one (ps_if (pt_cmpR op_eq (pe_ix ix_list (pv 3) pe_int (fun _ _ => rfl)) pe_str (nomark _)) (pss_one (ps_asg (pe_callD R hr (by omega) rfl (pa_cons (pe_ifExp (pt_cmpR op_ge (pv 1) (pe_ix ix_list (pv 3) pe_int (fun _ _ => rfl)) (nomark _)) (pe_ix ix_list (pv 3) pe_int (fun _ _ => rfl)) (pe_ix ix_list (pv 3) pe_int (fun _ _ => rfl))) (pa_cons (pv 1) (pa_cons (pv 2) pa_nil)))) (pgn 1 sc_z_often.nd))) (pss_one (ps_for PassesOwn.never rfl (pi_range1 rfl (Z.free "range") (pa_cons (pe_callB (cr_max rfl) (by rfl) (Z.free "max") (by decide +kernel) (pa_cons (pe_lst (pa_cons pe_int (pa_cons (pv 1) pa_nil))) pa_nil)) pa_nil)) (pgn 4 sc_z_often.nd)
      (pss_cons (ps_if (pt_cmpR op_lt (pv 1) (pe_ix ix_list (pv 3) pe_int (fun _ _ => rfl)) (nomark _)) (pss_one ps_break) pss_nil)
      (pss_one (ps_asg (pe_callD R hr (by omega) rfl (pa_cons (pe_ix ix_list (pv 3) pe_int (fun _ _ => rfl)) (pa_cons (pv 1) (pa_cons (pv 2) pa_nil)))) (pgn 1 sc_z_often.nd)))))))))))
      (pss_one (ps_ret (pv 1)))), ?_⟩)
  · obtain ⟨a, s, us, r, d, i, x, f, H0, rfl, _⟩ := h
    rfl
  · obtain ⟨a, s0, us, rows, d, i, x, f0, H0, rfl, e0, hs0, ha, hr, hsh, hdp, hin, hx, hsn, k⟩ := h
    have haS := SqL.of (K := K) (e0 _ _ ha)
    walk_at "vc"
    refine for_nrw (walk_list (xs := us)) (H0 := H0) i (nl rows) (fun r σ H' => Ex H0 H' ∧ Ex (hid [s0] H) (hid [s0] H') ∧ dep r ≤ dep rows ∧ (∃ d, Shape r d) ∧ ∃ (y : Int) (f : Nat → Int) (v3 v4 : Option V), σ = [some (.ref a), some (.int y), some (.ref s0), v3, v4] ∧ y ≤ 1000 ∧ SeenAt H' s0 f ∧ rem r y = rem rows x ∧ ∀ t, f t + cnt r (i + (nl rows - nl r)) t y = f0 t + cnt rows i t x) rows rfl hr ⟨e0, Evl.Ex.refl _, Nat.le_refl _, ⟨d, hsh⟩, x, f0, _, _, rfl, hx, hsn, rfl, fun t => by rw [Nat.sub_self]; rfl⟩ (fun r σ H' h => SqL.of (h.1 _ _ ha)) ?_ ?_
    · rintro r x' vs' σ H1 ⟨e1, eh1, hd1, ⟨d1, hs1⟩, y, f, v3, v4, rfl, hy, hsn1, hrem, hcnt⟩ hnr hx'
      rcases r with _ | ⟨l, r⟩ | ⟨b, e, one, two, r⟩ | ⟨b, body, r⟩
      · cases hx'
      · obtain ⟨x'', vs2, ev, ⟨q, rfl, hq⟩, hr2⟩ := hx'
        cases ev
        have hqS := SqL.of (K := K) (e1 _ _ hq)
        have hnr' := hnr
        simp only [dep, nl] at hd1 hnr
        obtain ⟨kvs, hkv, q1, q2, q3⟩ := id hsn1
        have hj : i + (nl rows - nl (.line l r)) < 1000 := by simp only [nl]; omega
        walk_at "vc"
        refine s_dput ?_
        walk_at "vc"
        refine s_dget2 ?_
        walk_at "vc"
        refine ⟨s0, rfl, .inl ⟨kvs, .inl hkv⟩, ?_⟩
        walk_at "vc"
        refine ⟨valV kvs (Sum.inl ((i + (nl rows - nl (.line l r)) : Nat) : Int)), DGet.k (k := (Sum.inl ((i + (nl rows - nl (.line l r)) : Nat) : Int) : Key)) hkv, ?_⟩
        rw [q3]
        walk_at "vc"
        refine ⟨s0, _, rfl, DPut.k (k := (Sum.inl ((i + (nl rows - nl (.line l r)) : Nat) : Int) : Key)) hkv (by have := seen_small q1 q2; rw [sizeLine_eq]; omega), ?_⟩
        have e2 : Ex H0 (upd H1 s0 (.dK (putK kvs (Sum.inl ((i + (nl rows - nl (.line l r)) : Nat) : Int)) (.int (f (i + (nl rows - nl (.line l r))) + 1))))) := ex_upd e1 hs0
        have hqS2 := SqL.of (K := K) (e2 _ _ hq)
        walk_at "vc"
        have ei : i + (nl rows - nl (.line l r)) + 1 = i + (nl rows - nl r) := by simp only [nl]; omega
        refine ⟨r, ⟨by omega, by rw [← ei]; exact hr2⟩, e2, ?_, hd1, ⟨d1, hs1.2⟩, y - l.byn, _, _, _, rfl, by have := hs1.1; omega, SeenAt.put hj q1 q2 q3, hrem, fun t => ?_⟩
        · rw [hid_upd (by simp)]
          exact eh1
        · have h := hcnt t
          simp only [Rows.cnt] at h
          rw [ei] at h
          omega
      · obtain ⟨q, q1, q2, vs1, vs2, vs3, ev, hq, h1, i1, h2, i2, hr2⟩ := hx'
        cases ev
        obtain ⟨b0, b12, hent, ⟨d2, hd2, s1, s2⟩, s3⟩ := hs1
        have hqS := SqL.of (K := K) (e1 _ _ hq)
        have hnr' := hnr
        simp only [dep, nl] at hd1 hnr
        have ntwo : (if e then 1 + nl two else 0) = 0 → nl two = 0 := fun z => by
          cases e with
          | true => simp at z
          | false => rw [hent rfl]; rfl
        have ntwo2 : nl two ≤ (if e then 1 + nl two else 0) := by
          cases e with
          | true => simp
          | false => rw [hent rfl]; exact Nat.le_refl _
        have ei : i + (nl rows - nl (.iff b e one two r)) + (1 + nl one + (if e then 1 + nl two else 0) + 1) = i + (nl rows - nl r) := by simp only [nl]; omega
        have rest : ∀ (H2 : Hp) (o : Rows) (j : Nat) (v3 v4 : Option V), (b ≤ y ∧ o = one ∧ j = i + (nl rows - nl (.iff b e one two r)) + 1 ∨ ¬ b ≤ y ∧ o = two ∧ j = i + (nl rows - nl (.iff b e one two r)) + 1 + nl one + 1) → Shape o d2 → Ex H0 H2 → Ex (hid [s0] H1) (hid [s0] H2) → SeenAt H2 s0 (fun t => f t + cnt o j t y) →
            ∃ r', (nl r' ≤ nl rows ∧ NRw H0 r' (i + (nl rows - nl r')) vs') ∧ Ex H0 H2 ∧ Ex (hid [s0] H) (hid [s0] H2) ∧ dep r' ≤ dep rows ∧ (∃ d, Shape r' d) ∧ ∃ (y' : Int) (f' : Nat → Int) (v3' v4' : Option V), [some (.ref a), some (.int (rem o y)), some (.ref s0), v3, v4] = [some (.ref a), some (.int y'), some (.ref s0), v3', v4'] ∧ y' ≤ 1000 ∧ SeenAt H2 s0 f' ∧ rem r' y' = rem rows x ∧ ∀ t, f' t + cnt r' (i + (nl rows - nl r')) t y' = f0 t + cnt rows i t x := by
          intro H2 o j v3 v4 ho so e2 eh2 hsn2
          have hle := rem_le so y
          refine ⟨r, ⟨by omega, by rw [← ei]; exact hr2⟩, e2, Evl.Ex.trans eh1 eh2, by omega, ⟨_, s3⟩, rem o y, _, _, _, rfl, by omega, hsn2, ?_, fun t => ?_⟩
          · rcases ho with ⟨c, rfl, _⟩ | ⟨c, rfl, _⟩
            · have h := hrem
              simp only [Rows.rem] at h
              rw [if_pos c] at h
              exact h
            · have h := hrem
              simp only [Rows.rem] at h
              rw [if_neg c] at h
              exact h
          · rcases ho with ⟨c, rfl, rfl⟩ | ⟨c, rfl, rfl⟩
            · have h := hcnt t
              simp only [Rows.cnt] at h
              rw [if_pos c, if_pos c, ei] at h
              omega
            · have h := hcnt t
              simp only [Rows.cnt] at h
              rw [if_neg c, if_neg c, ei] at h
              omega
        walk_at "vc"
        by_cases c : b ≤ y
        · refine iteT_of (decide_eq_true c) ?_
          walk_at "vc"
          refine ⟨q1, s0, vs1, one, d2, _, y, f, H0, rfl, e1, hs0, h1, i1, s1, by omega, by omega, hy, hsn1, fun H2 e2 eh2 hsn2 => ?_⟩
          walk_at "vc"
          exact rest H2 one _ _ _ (.inl ⟨c, rfl, rfl⟩) s1 e2 eh2 hsn2
        · refine iteF_of (decide_eq_false c) ?_
          walk_at "vc"
          refine ⟨q2, s0, vs2, two, d2, _, y, f, H0, rfl, e1, hs0, h2, i2, s2, by omega, by omega, hy, hsn1, fun H2 e2 eh2 hsn2 => ?_⟩
          walk_at "vc"
          exact rest H2 two _ _ _ (.inr ⟨c, rfl, rfl⟩) s2 e2 eh2 hsn2
      · obtain ⟨q, q1, q2, vs1, vs3, ev, hq, h1, i1, h2, hr2⟩ := hx'
        cases ev
        obtain ⟨b0, b12, hfl, s1, g1, g8, s3⟩ := hs1
        have hqS := SqL.of (K := K) (e1 _ _ hq)
        have hnr' := hnr
        simp only [dep, nl] at hd1 hnr
        have ei : i + (nl rows - nl (.whl b body r)) + (1 + nl body + 1) = i + (nl rows - nl r) := by simp only [nl]; omega
        have eg := gain_flat hfl
        have hrb := rounds_bounds (b := b) (g := steps body) (x := y) g1 b0
        simp only [Rows.rem] at hrem
        rw [eg] at hrem
        have hcnt' : ∀ t, f t + (rounds b (steps body) y * cnt body (i + (nl rows - nl (.whl b body r)) + 1) t 0 + cnt r (i + (nl rows - nl r)) t (y - rounds b (steps body) y * steps body)) = f0 t + cnt rows i t x := fun t => by
          have h := hcnt t
          simp only [Rows.cnt] at h
          rw [ei, eg] at h
          exact h
        have fin : ∀ (H2 : Hp) (j : Nat) (v3 v4 : Option V), (j : Int) = rounds b (steps body) y → Ex H0 H2 → Ex (hid [s0] H1) (hid [s0] H2) → SeenAt H2 s0 (fun t => f t + (j : Int) * cnt body (i + (nl rows - nl (.whl b body r)) + 1) t 0) →
            ∃ r', (nl r' ≤ nl rows ∧ NRw H0 r' (i + (nl rows - nl r')) vs') ∧ Ex H0 H2 ∧ Ex (hid [s0] H) (hid [s0] H2) ∧ dep r' ≤ dep rows ∧ (∃ d, Shape r' d) ∧ ∃ (y' : Int) (f' : Nat → Int) (v3' v4' : Option V), [some (.ref a), some (.int (y - (j : Int) * steps body)), some (.ref s0), v3, v4] = [some (.ref a), some (.int y'), some (.ref s0), v3', v4'] ∧ y' ≤ 1000 ∧ SeenAt H2 s0 f' ∧ rem r' y' = rem rows x ∧ ∀ t, f' t + cnt r' (i + (nl rows - nl r')) t y' = f0 t + cnt rows i t x := by
          intro H2 j v3 v4 hj e2 eh2 hsn2
          have hjg : 0 ≤ (j : Int) * steps body := Int.mul_nonneg (by omega) (by omega)
          refine ⟨r, ⟨by omega, by rw [← ei]; exact hr2⟩, e2, Evl.Ex.trans eh1 eh2, by omega, ⟨_, s3⟩, y - (j : Int) * steps body, _, _, _, rfl, by omega, hsn2, by rw [hj]; exact hrem, fun t => ?_⟩
          have h := hcnt' t
          rw [hj]
          omega
        walk_at "vc"
        intro pl hpl
        have epl := Evl.Ex.new (o := .lst [.int 0, .int y]) hpl
        have spl : s0 ≠ pl := fun c => by
          obtain ⟨kvs, hk, _⟩ := hsn1
          rw [c, hpl] at hk
          cases hk
        refine ⟨pl, [0, y], rfl, SqL.of upd_same, Nat.succ_pos _, fun m hm hmax => ?_⟩
        have hm0 : 0 ≤ m := hmax 0 List.mem_cons_self
        have hmy : y ≤ m := hmax y (List.mem_cons_of_mem _ List.mem_cons_self)
        have hm1 : m = 0 ∨ m = y := by simpa using hm
        walk_at "vc"
        refine ⟨by omega, by omega, ?_⟩
        refine for_go walk_range (fun j σ H' => ∃ (v4 : Option V), σ = [some (.ref a), some (.int (y - (j : Int) * steps body)), some (.ref s0), some (.ref q), v4] ∧ (j : Int) ≤ rounds b (steps body) y ∧ Ex H0 H' ∧ Ex (hid [s0] H1) (hid [s0] H') ∧ SeenAt H' s0 (fun t => f t + (j : Int) * cnt body (i + (nl rows - nl (.whl b body r)) + 1) t 0)) ⟨v4, by rw [show ((0 : Nat) : Int) * steps body = 0 by simp, Int.sub_zero]; rfl, by simpa using hrb.1, Evl.Ex.trans e1 epl, hid_mono epl, ?_⟩ (fun _ _ _ _ _ => trivial) ?_ ?_
        · obtain ⟨kvs, hk, k1, k2, k3⟩ := hsn1
          refine ⟨kvs, (upd_ne spl).trans hk, k1, k2, fun t => ?_⟩
          rw [k3 t]
          show V.int (f t) = V.int (f t + ((0 : Nat) : Int) * _)
          rw [show ((0 : Nat) : Int) = 0 from rfl, Int.zero_mul, Int.add_zero]
        · rintro j x' σ H2 H3 hj ⟨v4, rfl, hjr, e2, eh2, hsn2⟩ ⟨eH, rfl⟩
          rw [eH]
          have hqS2 := SqL.of (K := K) (e2 _ _ hq)
          walk_at "vc"
          by_cases c : y - (j : Int) * steps body < b
          · refine iteT_of (decide_eq_true c) ?_
            walk_at "vc"
            have hje : (j : Int) = rounds b (steps body) y := by
              by_cases z : (j : Int) < rounds b (steps body) y
              · have := rounds_lt g1 z
                omega
              · omega
            exact fin H2 j _ _ hje e2 eh2 hsn2
          · refine iteF_of (decide_eq_false c) ?_
            have hje : (j : Int) < rounds b (steps body) y := by
              by_cases z : (j : Int) = rounds b (steps body) y
              · have := rounds_eq2 g1 z
                omega
              · omega
            have hjg : 0 ≤ (j : Int) * steps body := Int.mul_nonneg (by omega) (by omega)
            walk_at "vc"
            refine ⟨q1, s0, vs1, body, 0, _, _, _, H0, rfl, e2, hs0, h1, i1, s1, by omega, by omega, by omega, hsn2, fun H4 e4 eh4 hsn4 => ?_⟩
            walk_at "vc"
            have em : ((j + 1 : Nat) : Int) * steps body = (j : Int) * steps body + steps body := by rw [show ((j + 1 : Nat) : Int) = (j : Int) + 1 by omega, Int.add_mul, Int.one_mul]
            refine ⟨some (.int (0 + (j : Int))), ?_, by omega, e4, Evl.Ex.trans eh2 eh4, ?_⟩
            · rw [rem_flat hfl, em]
              show ([some (.ref a), some (.int (y - (j : Int) * steps body - steps body)), some (.ref s0), some (.ref q), some (.int (0 + (j : Int)))] : L2.St) = _
              rw [show y - (j : Int) * steps body - steps body = y - ((j : Int) * steps body + steps body) by omega]
            · have ef : (fun t => f t + ((j + 1 : Nat) : Int) * cnt body (i + (nl rows - nl (.whl b body r)) + 1) t 0) = fun t => (f t + (j : Int) * cnt body (i + (nl rows - nl (.whl b body r)) + 1) t 0) + cnt body (i + (nl rows - nl (.whl b body r)) + 1) t (y - (j : Int) * steps body) := by
                funext t
                rw [cnt_flat hfl _ t (y - (j : Int) * steps body) 0, show ((j + 1 : Nat) : Int) = (j : Int) + 1 by omega, Int.add_mul, Int.one_mul]
                omega
              rw [ef]
              exact hsn4
        · rintro σ H2 ⟨v4, rfl, hjr, e2, eh2, hsn2⟩
          refine fin H2 m.toNat _ _ ?_ e2 eh2 hsn2
          by_cases z : ((m.toNat : Nat) : Int) = rounds b (steps body) y
          · exact z
          · omega
    · rintro σ H1 ⟨e1, eh1, _, _, y, f, v3, v4, rfl, hy, hsn1, hrem, hcnt⟩
      walk_at "vc"
      have er : y = rem rows x := hrem
      rw [er]
      refine k H1 e1 eh1 ?_
      have ef : f = fun t => f0 t + cnt rows i t x := by
        funext t
        have h := hcnt t
        simp only [Rows.cnt] at h
        omega
      rw [← ef]
      exact hsn1
theorem D_often (Z : Zf K mg) : ∀ n : Nat, Df P w K mg base "_law_often" n ["_law_rows_here", "_law_left", "_law_seen"] (spOften n)
  | 0 => df_none Z 61 (st := s_z_often) rfl (by decide +kernel) (fun _ _ _ _ _ _ us hl => match us, hl with | [_, _, _], _ => rfl) (fun vs H Q E ⟨_, _, _, _, _, _, _, _, _, _, _, _, _, _, _, h, _⟩ => absurd h (Nat.not_lt_zero _))
  | n + 1 => often_one Z (D_often Z n)
end
end Ov
/-! text OvL9 -/
set_option Elab.async false
set_option linter.all false
set_option maxRecDepth 100000
namespace Ov
open PySem PySem.Spec PyProof.Rows L2
open Rows TL
local macro_rules | `(tactic| walk_at "hp") => `(tactic| first
  | assumption
  | exact upd_same
  | (refine Evl.Ex.new (by assumption) _ _ ?_; walk_at "hp")
  | (refine (by assumption : Evl.Ex _ _) _ _ ?_; walk_at "hp"))
local macro_rules | `(tactic| walk_at "sq") => `(tactic| first
  | assumption
  | exact SqL.of (by walk_at "hp")
  | exact SqT.of (by walk_at "hp")
  | (refine Evl.ex_l (by assumption) ?_; walk_at "sq")
  | (refine Evl.ex_t (by assumption) ?_; walk_at "sq")
  | (refine Evl.ex_l (Evl.Ex.new (by assumption)) ?_; walk_at "sq")
  | (refine Evl.ex_t (Evl.Ex.new (by assumption)) ?_; walk_at "sq"))
local macro_rules | `(tactic| walk_at "ex") => `(tactic| first
  | assumption
  | exact Evl.Ex.refl _
  | (refine Evl.Ex.trans ?_ (Evl.Ex.new (by assumption)); walk_at "ex")
  | (refine Evl.Ex.trans ?_ (by assumption); walk_at "ex"))
local macro_rules | `(tactic| walk_at "s1") => `(tactic| first
  | refine ⟨_, rfl, ?_⟩
  | refine ⟨rfl, ?_⟩
  | refine ⟨_, _, rfl, rfl, ?_⟩
  | refine ⟨_, _, _, rfl, rfl, ?_⟩)
local macro_rules | `(tactic| walk_at "st") => `(tactic| repeat walk_at "s1")
local macro_rules | `(tactic| walk_at "v1") => `(tactic| first
  | ((with_reducible refine' s_var ?vch ?_); (case vch => exact rfl))
  | with_reducible refine' s_c ?_
  | with_reducible refine' s_seq ?_
  | with_reducible refine' s_asg ?_
  | with_reducible refine' s_name ?_
  | with_reducible refine' s_cons ?_
  | with_reducible refine' s_nil ?_
  | with_reducible refine' s_op ?_
  | with_reducible refine' s_rI0 ?_
  | with_reducible refine' s_ret ?_
  | with_reducible refine' s_test ?_
  | with_reducible refine' s_ifS ?_
  | with_reducible refine' s_call ?_
  | with_reducible refine' s_cb ?_
  | ((with_reducible refine' s_rEq ?vch ?_); (case vch => exact rfl))
  | ((with_reducible refine' s_rNe ?vch ?_); (case vch => exact rfl))
  | ((with_reducible refine' s_ixT ?vch ?vca ?_); (case vch => walk_at "sq"); (case vca => first | exact rfl | exact at_nat 0 rfl | exact at_nat 1 rfl | exact at_nat 2 rfl | exact at_nat 3 rfl | exact at_nat 4 rfl))
  | ((with_reducible refine' s_ixL ?vch ?vca ?_); (case vch => walk_at "sq"); (case vca => first | exact rfl | exact at_nat 0 rfl | exact at_nat 1 rfl | exact at_nat 2 rfl | exact at_nat 3 rfl | exact at_nat 4 rfl))
  | with_reducible refine iteT' ?_
  | with_reducible refine iteF' ?_
  | with_reducible refine' ex_bl ?_
  | with_reducible refine' ex_int ?_
  | with_reducible refine' ex_str ?_
  | with_reducible refine' ex_int1 ?_
  | with_reducible refine' ex_str1 ?_
  | with_reducible refine' ex_int2 ?_
  | with_reducible refine' ex_pair ?_
  | with_reducible refine' s_un ?_
  | with_reducible refine' s_B ?_
  | with_reducible refine' s_andV ?_
  | with_reducible refine' s_orV ?_
  | with_reducible refine' s_notV ?_
  | with_reducible refine' s_and ?_
  | with_reducible refine' s_or ?_
  | with_reducible refine' s_not ?_
  | with_reducible refine' s_if ?_
  | with_reducible refine' s_chain ?_
  | with_reducible refine' s_next ?_
  | with_reducible refine' s_break ?_
  | with_reducible refine' s_cont ?_
  | with_reducible refine' s_drop ?_
  | with_reducible refine' s_retN ?_
  | with_reducible refine' s_par ?_
  | ((with_reducible refine' s_aug ?vch ?_); (case vch => exact rfl))
  | with_reducible refine' s_ip ?_
  | with_reducible refine' s_gcons ?_
  | with_reducible refine' s_gnil ?_
  | ((with_reducible refine' s_gtup ?vch ?vca ?_); (case vch => walk_at "sq"); (case vca => exact rfl))
  | with_reducible refine' s_tup ?_
  | with_reducible refine' s_lst ?_
  | with_reducible refine' s_sl ?_
  | with_reducible refine' s_part ?_
  | with_reducible refine' s_nopart ?_
  | with_reducible refine' s_fld ?_
  | with_reducible refine' s_make ?_
  | with_reducible refine' s_meth ?_
  | with_reducible refine' s_prop ?_
  | with_reducible refine' s_makeK ?_
  | with_reducible refine' s_gsub ?_
  | ((with_reducible refine' s_setL ?vch ?vca ?_); (case vch => walk_at "hp"); (case vca => exact rfl))
  | with_reducible refine' s_par3 ?_
  | with_reducible refine' ex_three ?_
  | with_reducible refine' s_star ?_
  | with_reducible refine' s_dnewK ?_
  | with_reducible refine' s_dsetd ?_
  | with_reducible refine' s_methR ?_
  | with_reducible refine' s_fldaug ?_
  | with_reducible refine' s_dictzip ?_
  | with_reducible refine' s_sfld ?_
  | with_reducible refine' s_bm ?_
  | with_reducible refine' s_bm0 ?_
  | with_reducible refine' s_m1 ?_
  | with_reducible refine' s_dget ?_
  | with_reducible refine' s_lc ?_
  | with_reducible refine' s_for ?_
  | with_reducible refine' s_iList ?_
  | with_reducible refine' s_iTup ?_
  | with_reducible refine' s_iStr ?_
  | with_reducible refine' s_iRng1 ?_
  | with_reducible refine' s_iRng2 ?_
  | with_reducible refine' s_yes ?_
  | with_reducible refine' s_rU ?_
  | ((with_reducible refine' s_isiP ?vch ?_); (case vch => exact rfl))
  | ((with_reducible refine' ex_lenL ?vch ?_); (case vch => walk_at "sq"))
  | ((with_reducible refine' ex_lenT ?vch ?_); (case vch => walk_at "sq"))
  | ((with_reducible refine' ex_tupL ?vch ?_); (case vch => walk_at "sq"))
  | ((with_reducible refine' ex_lstT ?vch ?_); (case vch => walk_at "sq"))
  | ((with_reducible refine' ex_srcL ?vch ?_); (case vch => walk_at "sq"))
  | ((with_reducible refine' ex_srcT ?vch ?_); (case vch => walk_at "sq"))
  | ((with_reducible refine' s_mk ?vch ?_); (case vch => exact small_le (Nat.le_of_ble_eq_true rfl)))
  | with_reducible refine' ⟨_, _, rfl, rfl, ?_⟩
  | with_reducible refine' ⟨⟨_, rfl⟩, ?_⟩
  | with_reducible refine' ⟨rfl, ?_⟩
  | ((with_reducible refine' iteT_of ?vch ?_); (case vch => exact rfl))
  | ((with_reducible refine' iteF_of ?vch ?_); (case vch => exact rfl)))
local macro_rules | `(tactic| walk_at "vc") => `(tactic| repeat walk_at "v1")
section
variable {P : Program} {w : World} {K : PySem.W.Frag} {mg : Str → Option Value} {base : Heap}
def spPurse (K : PySem.W.Frag) : Sp := fun vs H Q _ => ∃ (a : Addr) (ns : List Int) (k : Nat), vs = [.ref a, .int (k : Int)] ∧ SqL K H a (ns.map V.int) ∧ ns.length ≤ 63 ∧ k ≤ 3 ∧ ∀ p H', Ex H H' → H p = none → PurseAt H' p (k : Int) → Q (.ref p) H'
theorem sc_z_purse : FnScope ["_law_script", "_law_k", "_law_rest", "_law_cell", "_law_digits", "_law_x"] ["_law_script", "_law_k"] (defScope s_z_purse) := ⟨rfl, rfl, rfl, by decide +kernel, rfl, by decide +kernel, by decide +kernel⟩
theorem D_z_purse (Z : Zf K mg) : Df P w K mg base "_law_purse" (1) ["_law_script", "_law_k"] (spPurse K) := by
  refine def_ok Z 51 rfl (by decide +kernel) sc_z_purse (fun _ _ _ _ _ _ us hl => match us, hl with | [_, _], _ => rfl) (fun vs H Q E h => ?_) (fun f cdv A outer s H vs Q E hr h => ⟨_, (pss_cons (ps_asg (pe_op op_add (pe_op op_add (pe_op op_mul pe_int (pv 1)) (pe_op op_mul pe_int (pe_callB call_lenL (by rfl) (Z.free "len") (by decide +kernel) (pa_cons (pv 0) pa_nil)))) (pe_callB (cr_sum rfl) (by rfl) (Z.free "sum") (by decide +kernel) (pa_cons (pe_lc (own := [("_law_x", 5)]) (g := gName 5) (tt := tYes) rfl sc_z_purse.nd (pi_list (pe_slice sl_list (pv 0) po_none (po_some pe_int))) (blkOk_by (own := [("_law_x", 5)]) (N := ["_law_script", "_law_k", "_law_rest", "_law_cell", "_law_digits", "_law_x"]) (sc := defScope s_z_purse) (by decide +kernel)) (fun _ _ _ _ _ => (pgn 5 sc_z_purse.nd)) (fun _ _ _ _ _ => pts_nil) (fun _ _ _ _ _ => (pe_op op_mod (pe_callTy call_intI (by rfl) (Z.free "int") (by decide +kernel) (pa_cons (pv 5) pa_nil)) pe_int))) pa_nil))) (pgn 2 sc_z_purse.nd))
      (C8.pss_cut (ps_asg (pe_ifExp (pt_cmpR op_lt (pv 1) (pe_callB call_lenL (by rfl) (Z.free "len") (by decide +kernel) (pa_cons (pv 0) pa_nil)) (nomark _)) (pe_callTy call_intI (by rfl) (Z.free "int") (by decide +kernel) (pa_cons (pe_ix ix_list (pv 0) (pv 1) (fun _ _ => rfl)) pa_nil)) (pv 2)) (pgn 3 sc_z_purse.nd))
      (pss_cons (ps_asg (pe_ifExp (pt_cmpR op_ge (pv 3) (pe_op op_pow pe_int pe_int) (nomark _)) (pv 3) pe_int) (pgn 4 sc_z_purse.nd))
      (pss_one (ps_ret (pe_lst (pa_cons (pv 4) (pa_cons (pe_op op_mod (pe_callTy call_intI (by rfl) (Z.free "int") (by decide +kernel) (pa_cons (pe_op op_add (pe_op op_add (pe_callB call_abs (by rfl) (Z.free "abs") (by decide +kernel) (pa_cons (pv 3) pa_nil)) (pe_op op_mul pe_int (pv 1))) pe_int) pa_nil)) pe_int) (pa_cons (pv 1) pa_nil))))))))), ?_⟩)
  · obtain ⟨a, ns, k, rfl, _⟩ := h
    rfl
  · obtain ⟨a, ns, k, rfl, ha, hl, hk, q⟩ := h
    walk_at "vc"
    refine s_rI (.inl ⟨by decide, by decide⟩) ?_
    walk_at "vc"
    refine s_rI (.inl ⟨by decide, by decide⟩) ?_
    walk_at "vc"
    refine s_slL ha fun p1 hp1 => ?_
    have e1 := Evl.Ex.new (o := .lst (cutV (ns.map V.int) none (some 4))) hp1
    refine ⟨p1, rfl, ⟨_, SqL.of upd_same⟩, ?_⟩
    have hcut : cutV (ns.map V.int) none (some 4) = (ns.take 4).map V.int := by
      rw [show (some (4 : Int)) = some ((4 : Nat) : Int) from rfl, cut_to, List.map_take]
    rw [hcut] at e1 ⊢
    have hcl : ((ns.take 4).map V.int).length = (ns.take 4).length := List.length_map ..
    have ha1 := Evl.ex_l e1 ha
    refine lc_ex (walk_list (xs := (ns.take 4).map V.int)) (j := 5) (fun i => ((ns.take 4).map V.int).getD i .non) (fun _ => true) (fun i v _ => v = V.int ((ns.take 4).getD i 0 % 10007)) (fun _ _ _ _ _ h => h) ?_ (fun H' e => Evl.ex_l e (SqL.of upd_same)) (by rw [hcl, List.length_take]; omega) (fun _ => rfl) ?_ ?_ ?_
    · rintro i H2 x H' hi ⟨e, hx⟩
      exact ⟨e, by rw [List.getD_eq_getElem?_getD, hx]; rfl⟩
    · intro i H2 _ _ Q1 k1
      exact k1 H2 (Evl.Ex.refl _)
    · intro i H2 hi _ e2 Q1 k1
      rw [hcl] at hi
      have ev : ((ns.take 4).map V.int).getD i .non = V.int ((ns.take 4).getD i 0) := getD_ints hi
      rw [ev]
      walk_at "vc"
      refine s_rI (show (0 : Int) < 10007 by decide) ?_
      exact k1 _ _ (Evl.Ex.refl _) rfl
    intro D ysD H2 hD e2 hyD hm
    have ey := Made.allVals hm
    rw [hcl] at ey
    have hyS : SqL K H2 D (((ns.take 4).map fun n => n % 10007).map V.int) := by
      refine SqL.of ?_
      rw [hyD, ey, ← range_get (fun n : Int => n % 10007) 0 (ns.take 4), List.map_map]
      rfl
    walk_at "vc"
    refine ⟨D, _, rfl, hyS, ?_⟩
    have e12 := Evl.Ex.trans e1 e2
    have ha2 := Evl.ex_l e12 ha
    walk_at "vc"
    refine ⟨fun σ' H' => H' = H2 ∧ ∃ r c : Int, σ' = [some (.ref a), some (.int (k : Int)), some (.int r), some (.int c), none, none], ?_, ?_⟩
    · walk_at "vc"
      rw [List.length_map]
      by_cases c : (k : Int) < (ns.length : Int)
      · refine iteT_of (decide_eq_true c) ?_
        walk_at "vc"
        refine s_ixL ha2 (at_ints (hs := ns) (by omega) c) ?_
        walk_at "vc"
        exact ⟨_, _, rfl⟩
      · refine iteF_of (decide_eq_false c) ?_
        walk_at "vc"
        exact ⟨_, _, rfl⟩
    · rintro σ' H3 ⟨rfl, r, c, rfl⟩
      have last : ∀ d : Int, 0 ≤ d → ∀ p2, H3 p2 = none → Q (.ref p2) (upd H3 p2 (.lst [.int d, .int (((if c < 0 then -c else c) + 4099 * (k : Int) + 17) % 2147483549), .int (k : Int)])) := fun d hd p2 hp2 =>
        q p2 _ (Evl.Ex.trans e12 (Evl.Ex.new hp2)) (ex_none e12 hp2) ⟨d, _, upd_same, hd, Int.emod_nonneg _ (by decide), Int.emod_lt_of_pos _ (by decide), by omega⟩
      walk_at "vc"
      refine s_rI ⟨by decide, by decide, by decide⟩ ?_
      walk_at "vc"
      by_cases c18 : (10 : Int) ^ (18 : Int).toNat ≤ c
      · refine iteT_of (decide_eq_true c18) ?_
        have c0 : 0 ≤ c := Int.le_trans (by decide) c18
        walk_at "vc"
        refine s_rI (.inl ⟨by decide, by decide⟩) ?_
        walk_at "vc"
        refine s_rI (show (0 : Int) < 2147483549 by decide) ?_
        walk_at "vc"
        exact last c c0
      · refine iteF_of (decide_eq_false c18) ?_
        walk_at "vc"
        refine s_rI (.inl ⟨by decide, by decide⟩) ?_
        walk_at "vc"
        refine s_rI (show (0 : Int) < 2147483549 by decide) ?_
        walk_at "vc"
        exact last 0 (Int.le_refl 0)
end
end Ov
/-! text OvL10 -/
set_option Elab.async false
set_option linter.all false
set_option maxRecDepth 100000
namespace Ov
open PySem PySem.Spec PyProof.Rows L2
open Rows TL
local macro_rules | `(tactic| walk_at "hp") => `(tactic| first
  | assumption
  | exact upd_same
  | (refine Evl.Ex.new (by assumption) _ _ ?_; walk_at "hp")
  | (refine (by assumption : Evl.Ex _ _) _ _ ?_; walk_at "hp"))
local macro_rules | `(tactic| walk_at "sq") => `(tactic| first
  | assumption
  | exact SqL.of (by walk_at "hp")
  | exact SqT.of (by walk_at "hp")
  | (refine Evl.ex_l (by assumption) ?_; walk_at "sq")
  | (refine Evl.ex_t (by assumption) ?_; walk_at "sq")
  | (refine Evl.ex_l (Evl.Ex.new (by assumption)) ?_; walk_at "sq")
  | (refine Evl.ex_t (Evl.Ex.new (by assumption)) ?_; walk_at "sq"))
local macro_rules | `(tactic| walk_at "ex") => `(tactic| first
  | assumption
  | exact Evl.Ex.refl _
  | (refine Evl.Ex.trans ?_ (Evl.Ex.new (by assumption)); walk_at "ex")
  | (refine Evl.Ex.trans ?_ (by assumption); walk_at "ex"))
local macro_rules | `(tactic| walk_at "s1") => `(tactic| first
  | refine ⟨_, rfl, ?_⟩
  | refine ⟨rfl, ?_⟩
  | refine ⟨_, _, rfl, rfl, ?_⟩
  | refine ⟨_, _, _, rfl, rfl, ?_⟩)
local macro_rules | `(tactic| walk_at "st") => `(tactic| repeat walk_at "s1")
local macro_rules | `(tactic| walk_at "v1") => `(tactic| first
  | ((with_reducible refine' s_var ?vch ?_); (case vch => exact rfl))
  | with_reducible refine' s_c ?_
  | with_reducible refine' s_seq ?_
  | with_reducible refine' s_asg ?_
  | with_reducible refine' s_name ?_
  | with_reducible refine' s_cons ?_
  | with_reducible refine' s_nil ?_
  | with_reducible refine' s_op ?_
  | with_reducible refine' s_rI0 ?_
  | with_reducible refine' s_ret ?_
  | with_reducible refine' s_test ?_
  | with_reducible refine' s_ifS ?_
  | with_reducible refine' s_call ?_
  | with_reducible refine' s_cb ?_
  | ((with_reducible refine' s_rEq ?vch ?_); (case vch => exact rfl))
  | ((with_reducible refine' s_rNe ?vch ?_); (case vch => exact rfl))
  | ((with_reducible refine' s_ixT ?vch ?vca ?_); (case vch => walk_at "sq"); (case vca => first | exact rfl | exact at_nat 0 rfl | exact at_nat 1 rfl | exact at_nat 2 rfl | exact at_nat 3 rfl | exact at_nat 4 rfl))
  | ((with_reducible refine' s_ixL ?vch ?vca ?_); (case vch => walk_at "sq"); (case vca => first | exact rfl | exact at_nat 0 rfl | exact at_nat 1 rfl | exact at_nat 2 rfl | exact at_nat 3 rfl | exact at_nat 4 rfl))
  | with_reducible refine iteT' ?_
  | with_reducible refine iteF' ?_
  | with_reducible refine' ex_bl ?_
  | with_reducible refine' ex_int ?_
  | with_reducible refine' ex_str ?_
  | with_reducible refine' ex_int1 ?_
  | with_reducible refine' ex_str1 ?_
  | with_reducible refine' ex_int2 ?_
  | with_reducible refine' ex_pair ?_
  | with_reducible refine' s_un ?_
  | with_reducible refine' s_B ?_
  | with_reducible refine' s_andV ?_
  | with_reducible refine' s_orV ?_
  | with_reducible refine' s_notV ?_
  | with_reducible refine' s_and ?_
  | with_reducible refine' s_or ?_
  | with_reducible refine' s_not ?_
  | with_reducible refine' s_if ?_
  | with_reducible refine' s_chain ?_
  | with_reducible refine' s_next ?_
  | with_reducible refine' s_break ?_
  | with_reducible refine' s_cont ?_
  | with_reducible refine' s_drop ?_
  | with_reducible refine' s_retN ?_
  | with_reducible refine' s_par ?_
  | ((with_reducible refine' s_aug ?vch ?_); (case vch => exact rfl))
  | with_reducible refine' s_ip ?_
  | with_reducible refine' s_gcons ?_
  | with_reducible refine' s_gnil ?_
  | ((with_reducible refine' s_gtup ?vch ?vca ?_); (case vch => walk_at "sq"); (case vca => exact rfl))
  | with_reducible refine' s_tup ?_
  | with_reducible refine' s_lst ?_
  | with_reducible refine' s_sl ?_
  | with_reducible refine' s_part ?_
  | with_reducible refine' s_nopart ?_
  | with_reducible refine' s_fld ?_
  | with_reducible refine' s_make ?_
  | with_reducible refine' s_meth ?_
  | with_reducible refine' s_prop ?_
  | with_reducible refine' s_makeK ?_
  | with_reducible refine' s_gsub ?_
  | ((with_reducible refine' s_setL ?vch ?vca ?_); (case vch => walk_at "hp"); (case vca => exact rfl))
  | with_reducible refine' s_par3 ?_
  | with_reducible refine' ex_three ?_
  | with_reducible refine' s_star ?_
  | with_reducible refine' s_dnewK ?_
  | with_reducible refine' s_dsetd ?_
  | with_reducible refine' s_methR ?_
  | with_reducible refine' s_fldaug ?_
  | with_reducible refine' s_dictzip ?_
  | with_reducible refine' s_sfld ?_
  | with_reducible refine' s_bm ?_
  | with_reducible refine' s_bm0 ?_
  | with_reducible refine' s_m1 ?_
  | with_reducible refine' s_dget ?_
  | with_reducible refine' s_lc ?_
  | with_reducible refine' s_for ?_
  | with_reducible refine' s_iList ?_
  | with_reducible refine' s_iTup ?_
  | with_reducible refine' s_iStr ?_
  | with_reducible refine' s_iRng1 ?_
  | with_reducible refine' s_iRng2 ?_
  | with_reducible refine' s_yes ?_
  | with_reducible refine' s_rU ?_
  | ((with_reducible refine' s_isiP ?vch ?_); (case vch => exact rfl))
  | ((with_reducible refine' ex_lenL ?vch ?_); (case vch => walk_at "sq"))
  | ((with_reducible refine' ex_lenT ?vch ?_); (case vch => walk_at "sq"))
  | ((with_reducible refine' ex_tupL ?vch ?_); (case vch => walk_at "sq"))
  | ((with_reducible refine' ex_lstT ?vch ?_); (case vch => walk_at "sq"))
  | ((with_reducible refine' ex_srcL ?vch ?_); (case vch => walk_at "sq"))
  | ((with_reducible refine' ex_srcT ?vch ?_); (case vch => walk_at "sq"))
  | ((with_reducible refine' s_mk ?vch ?_); (case vch => exact small_le (Nat.le_of_ble_eq_true rfl)))
  | with_reducible refine' ⟨_, _, rfl, rfl, ?_⟩
  | with_reducible refine' ⟨⟨_, rfl⟩, ?_⟩
  | with_reducible refine' ⟨rfl, ?_⟩
  | ((with_reducible refine' iteT_of ?vch ?_); (case vch => exact rfl))
  | ((with_reducible refine' iteF_of ?vch ?_); (case vch => exact rfl)))
local macro_rules | `(tactic| walk_at "vc") => `(tactic| repeat walk_at "v1")
/-! ### heights -/
theorem cost_congr {p q : Nat → Int} (h : ∀ j, j < 6 → p j = q j) : ∀ (r : Rows) (x : Int), cost p r x = cost q r x
  | .nil, _ => rfl
  | .line l r, x => by
    show p l.kind + cost p r (x - l.byn) = q l.kind + cost q r (x - l.byn)
    rw [h l.kind (by have := kind_lt l; omega), cost_congr h r (x - l.byn)]
  | .iff b e one two r, x => by
    simp only [cost]
    rw [cost_congr h one x, cost_congr h two x, h 5 (by decide), cost_congr h r]
  | .whl b body r, x => by
    simp only [cost]
    rw [cost_congr h body 0, h 5 (by decide), cost_congr h r]
theorem rise_congr {p q : Nat → Int} (h : ∀ j, j < 6 → p j = q j) (r : Rows) : rise p r = rise q r := by
  unfold rise
  cases long r with
  | none => rfl
  | some b =>
    show cost p b 0 + p 5 = cost q b 0 + q 5
    rw [cost_congr h b 0, h 5 (by decide)]
theorem heights_congr {p q : Nat → Int} (h : ∀ j, j < 6 → p j = q j) (r : Rows) : heights p r = heights q r := by
  unfold heights
  refine List.map_congr_left fun c _ => cost_congr h r c
theorem heights_len (p : Nat → Int) (r : Rows) : (heights p r).length = (many r).toNat := by
  unfold heights
  rw [List.length_map, List.length_range]
theorem both_map (s : Int) (f g : Nat → Int) (n : Nat) : both s ((List.range n).map f) ((List.range n).map g) = (List.range n).map fun c => f c + s * g c := by
  unfold both
  rw [List.zipWith_map_left, List.zipWith_map_right, List.zipWith_self]
theorem heights_add (p q : Nat → Int) (r : Rows) : both 1 (heights p r) (heights q r) = heights (fun k => p k + q k) r := by
  unfold heights
  rw [both_map]
  refine List.map_congr_left fun c _ => ?_
  rw [cost_add, Int.one_mul]
theorem heights_sub (p : Nat → Int) (r : Rows) : both (-1) (heights p r) (heights p r) = heights (fun _ => 0) r := by
  unfold heights
  rw [both_map]
  refine List.map_congr_left fun c _ => ?_
  rw [cost_zero]
  omega
/-- what a form's lengths keep -/
theorem form_fits {r : Rows} (hs : Shape r 3) (h : steps r ≤ 1000) (p : Nat → Int) : 1 ≤ per r ∧ per r < ((heights p r).length : Int) ∧ (heights p r).length ≤ 2000 := by
  have h1 := per_bounds hs
  have h2 := steps_nonneg hs
  have h3 := steps_small hs h
  rw [heights_len]
  unfold many at h3 ⊢
  exact ⟨h1.1, by omega, by omega⟩
section
variable {X : Cx} {k k' : Nat} {ps : List Str} {sp : Sp} {fe e : Expr} {es : List Expr} {pos : Pos} {tf : TE} {t : TA}
/-- a form called -/
theorem pe_callF (Z : Zf X.K X.mg) (D : Mf X.prog X.w X.K X.mg X.base "Form" "__call__" k ps sp) (hr : Room k' X.A) (hk : k ≤ k') (hf : PE X fe tf) (ha : PA X (e :: es) t)
    (ht : eval (.Call fe (e :: es) [] pos) X.env = (do callWith pos (← eval fe X.env) [] (backTo pos (starEach (e :: es) X.env)) (backToKw pos (keywordEach [] X.env))) := by rfl)
    (he : starEach (e :: es) X.env = (false, eval e X.env) :: starEach es X.env := by rfl) (hpl : (backTo pos (starEach es X.env)).any (·.1) = false := by rfl) :
    PE X (.Call fe (e :: es) [] pos) (StX.tCallO X (He.ga X.K "Form") (fun vs H Q E => sp (vs ++ []) H Q E) E0 tf t) := by
  obtain ⟨fd, F, b⟩ := D.ex
  exact StX.pe_callO hf ⟨(Z.meth "Form" "__call__").at_, (Z.meth "Form" "__call__").fn, Z.callF⟩ (F.raw b .nil) (hr.mono hk) pass0 ha ht he hpl
/-- the same, told without the place -/
def tCallF (K : PySem.W.Frag) (sp : Sp) (tf : TE) (t : TA) : TE := fun σ H Q => ∀ X : Cx, StX.tCallO X (He.ga K "Form") (fun vs H Q E => sp (vs ++ []) H Q E) E0 tf t σ H Q
theorem pe_callG {K : PySem.W.Frag} (hK : X.K = K) (Z : Zf X.K X.mg) (D : Mf X.prog X.w X.K X.mg X.base "Form" "__call__" k ps sp) (hr : Room k' X.A) (hk : k ≤ k') (hf : PE X fe tf) (ha : PA X (e :: es) t)
    (ht : eval (.Call fe (e :: es) [] pos) X.env = (do callWith pos (← eval fe X.env) [] (backTo pos (starEach (e :: es) X.env)) (backToKw pos (keywordEach [] X.env))) := by rfl)
    (he : starEach (e :: es) X.env = (false, eval e X.env) :: starEach es X.env := by rfl) (hpl : (backTo pos (starEach es X.env)).any (·.1) = false := by rfl) :
    PE X (.Call fe (e :: es) [] pos) (tCallF K sp tf t) :=
  ⟨fun pins s σ H Q I q => (pe_callF Z D hr hk hf ha ht he hpl).run pins s σ H Q I (by subst hK; exact q X)⟩
theorem s_callF {K : PySem.W.Frag} {σ : L2.St} {H : Hp} {Q : VK} {i j : Nat} {a dx : Addr} {fs : List (Str × V)} {v : V} (h1 : σ[i]? = some (some (.ref a))) (h2 : σ[j]? = some (some v)) (hi : H a = some (.ins (He.ga K "Form") dx fs)) (q : sp [.ref a, v] H Q E0) : tCallF K sp (tVar i) (tCons (tVar j) tNil) σ H Q :=
  fun X => ⟨_, h1, a, rfl, ⟨_, h2, .inr ⟨dx, fs, hi⟩, q⟩⟩
end
end Ov
/-! text OvN1 -/
set_option Elab.async false
set_option linter.all false
set_option maxRecDepth 100000
/-! The plain law of a line left out: its text, its form. -/
namespace Ov
open PySem PySem.Spec PyProof.Rows L2
open Rows TL
/-! ### the text without the line -/
theorem cut_out : ∀ {r : Rows} {i t : Nat}, (∀ l, (l, t) ∉ stm r i) → cut r i t = r
  | .nil, _, _, _ => rfl
  | .line l r, i, t, h => by
    have c : i ≠ t := fun e => h l (by simp [stm, e])
    simp only [cut]
    rw [if_neg c, cut_out (r := r) fun l' m => h l' (by simp only [stm]; exact List.mem_cons_of_mem _ m)]
  | .iff b e one two r, i, t, h => by
    simp only [cut]
    rw [cut_out (r := one) fun l m => h l (by simp only [stm, List.mem_append]; exact .inl (.inl m)), cut_out (r := two) fun l m => h l (by simp only [stm, List.mem_append]; exact .inl (.inr m)), cut_out (r := r) fun l m => h l (by simp only [stm, List.mem_append]; exact .inr m)]
  | .whl b body r, i, t, h => by
    simp only [cut]
    rw [cut_out (r := body) fun l m => h l (by simp only [stm, List.mem_append]; exact .inl m), cut_out (r := r) fun l m => h l (by simp only [stm, List.mem_append]; exact .inr m)]
theorem erase_left {α : Type} {a b : List α} {k : Nat} (h : k < a.length) : (a ++ b).eraseIdx k = a.eraseIdx k ++ b := List.eraseIdx_append_of_lt_length h b
theorem erase_right {α : Type} {a b : List α} {k : Nat} (h : a.length ≤ k) : (a ++ b).eraseIdx k = a ++ b.eraseIdx (k - a.length) := List.eraseIdx_append_of_length_le h b
theorem erase_cons {α : Type} (x : α) (a : List α) {k : Nat} (h : 1 ≤ k) : (x :: a).eraseIdx k = x :: a.eraseIdx (k - 1) := by
  obtain ⟨m, rfl⟩ : ∃ m, k = m + 1 := ⟨k - 1, by omega⟩
  rfl
theorem cut_text : ∀ {r : Rows} {i t d : Nat} {l : Ln}, Shape r d → (l, t) ∈ stm r i → wl (cut r i t) = (wl r).eraseIdx (t - i) ∧ nl (cut r i t) + 1 = nl r
  | .nil, i, t, d, l, _, h => by simp [stm] at h
  | .line l0 r, i, t, d, l, hs, h => by
    by_cases c : i = t
    · subst c
      have n : ∀ l', (l', i) ∉ stm r (i + 1) := fun l' m => by have := stm_bounds hs.2 m; omega
      rw [show cut (.line l0 r) i i = cut r (i + 1) i from if_pos rfl, cut_out n, Nat.sub_self]
      exact ⟨rfl, by simp only [nl]; omega⟩
    · simp only [stm, List.mem_cons, Prod.mk.injEq] at h
      have h' : (l, t) ∈ stm r (i + 1) := by
        rcases h with ⟨_, e⟩ | h
        · exact absurd e.symm c
        · exact h
      have bd := stm_bounds hs.2 h'
      obtain ⟨w1, w2⟩ := cut_text (r := r) hs.2 h'
      simp only [cut]
      rw [if_neg c]
      refine ⟨?_, by simp only [nl]; omega⟩
      simp only [wl]
      rw [erase_cons _ _ (by omega), w1, show t - i - 1 = t - (i + 1) by omega]
  | .iff b e one two r, i, t, d, l, hs, h => by
    obtain ⟨_, _, he, ⟨d', _, h1, h2⟩, h3⟩ := hs
    have two_e : ∀ {k}, (k, t) ∈ stm two (i + 1 + nl one + 1) → e = true := fun {k} q => by
      cases e with
      | true => rfl
      | false => rw [he rfl] at q; simp [stm] at q
    simp only [stm, List.mem_append] at h
    rcases h with (h | h) | h
    · have bd := stm_bounds h1 h
      have o2 : cut two (i + 1 + nl one + 1) t = two := cut_out fun k q => by have := stm_bounds h2 q; omega
      have o3 : cut r (i + (1 + nl one + (if e then 1 + nl two else 0) + 1)) t = r := cut_out fun k q => by have := stm_bounds h3 q; omega
      obtain ⟨w1, w2⟩ := cut_text h1 h
      simp only [cut]
      rw [o2, o3]
      refine ⟨?_, by simp only [nl]; omega⟩
      simp only [wl]
      rw [erase_cons _ _ (by omega), erase_left (by rw [wl_len]; omega), w1, show t - i - 1 = t - (i + 1) by omega]
    · have bd := stm_bounds h2 h
      have ee := two_e h
      subst ee
      have o1 : cut one (i + 1) t = one := cut_out fun k q => by have := stm_bounds h1 q; omega
      have o3 : cut r (i + (1 + nl one + (1 + nl two) + 1)) t = r := cut_out fun k q => by
        have := stm_bounds h3 q
        omega
      obtain ⟨w1, w2⟩ := cut_text h2 h
      simp only [cut, if_true]
      rw [o1, o3]
      refine ⟨?_, by simp only [nl, if_true]; omega⟩
      simp only [wl, if_true]
      rw [erase_cons _ _ (by omega), erase_right (by rw [wl_len]; omega), List.cons_append, List.cons_append, erase_cons _ _ (by rw [wl_len]; omega), erase_left (by rw [wl_len, wl_len]; omega), w1, wl_len, show t - i - 1 - nl one - 1 = t - (i + 1 + nl one + 1) by omega]
    · have bd := stm_bounds h3 h
      have o1 : cut one (i + 1) t = one := cut_out fun k q => by have := stm_bounds h1 q; omega
      have o2 : cut two (i + 1 + nl one + 1) t = two := cut_out fun k q => by
        have b2 := stm_bounds h2 q
        have ee := two_e q
        subst ee
        simp only [if_true] at bd
        omega
      obtain ⟨w1, w2⟩ := cut_text h3 h
      simp only [cut]
      rw [o1, o2]
      refine ⟨?_, by simp only [nl]; omega⟩
      simp only [wl]
      have l2 : (if e = true then (["else"] : List Str) :: wl two else []).length = if e then 1 + nl two else 0 := by
        cases e with
        | true => simp only [if_true, List.length_cons, wl_len]; omega
        | false => simp
      rw [erase_cons _ _ (by omega), erase_right (by rw [wl_len]; omega), erase_right (by rw [l2, wl_len]; omega), erase_cons _ _ (by rw [l2, wl_len]; omega), w1, wl_len, l2, show t - i - 1 - nl one - (if e then 1 + nl two else 0) - 1 = t - (i + (1 + nl one + (if e then 1 + nl two else 0) + 1)) by omega]
  | .whl b body r, i, t, d, l, hs, h => by
    obtain ⟨_, _, _, h1, _, _, h3⟩ := hs
    simp only [stm, List.mem_append] at h
    rcases h with h | h
    · have bd := stm_bounds h1 h
      have o3 : cut r (i + (1 + nl body + 1)) t = r := cut_out fun k q => by have := stm_bounds h3 q; omega
      obtain ⟨w1, w2⟩ := cut_text h1 h
      simp only [cut]
      rw [o3]
      refine ⟨?_, by simp only [nl]; omega⟩
      simp only [wl]
      rw [erase_cons _ _ (by omega), erase_left (by rw [wl_len]; omega), w1, show t - i - 1 = t - (i + 1) by omega]
    · have bd := stm_bounds h3 h
      have o1 : cut body (i + 1) t = body := cut_out fun k q => by have := stm_bounds h1 q; omega
      obtain ⟨w1, w2⟩ := cut_text h3 h
      simp only [cut]
      rw [o1]
      refine ⟨?_, by simp only [nl]; omega⟩
      simp only [wl]
      rw [erase_cons _ _ (by omega), erase_right (by rw [wl_len]; omega), erase_cons _ _ (by rw [wl_len]; omega), w1, wl_len, show t - i - 1 - nl body - 1 = t - (i + (1 + nl body + 1)) by omega]
theorem stm_ok {P : Ln → Prop} : ∀ {r : Rows} {i t : Nat} {l : Ln}, AllLn P r → (l, t) ∈ stm r i → P l
  | .nil, i, t, l, _, h => by simp [stm] at h
  | .line l0 r, i, t, l, ha, h => by
    simp only [stm, List.mem_cons, Prod.mk.injEq] at h
    rcases h with ⟨rfl, _⟩ | h
    · exact ha.1
    · exact stm_ok (r := r) ha.2 h
  | .iff b e one two r, i, t, l, ha, h => by
    simp only [stm, List.mem_append] at h
    rcases h with (h | h) | h
    · exact stm_ok ha.1 h
    · exact stm_ok ha.2.1 h
    · exact stm_ok ha.2.2 h
  | .whl b body r, i, t, l, ha, h => by
    simp only [stm, List.mem_append] at h
    rcases h with h | h
    · exact stm_ok ha.1 h
    · exact stm_ok ha.2 h
theorem byn_nostep {l : Ln} (h : l.kind ≠ 4) : l.byn = 0 := by
  cases l with
  | step n => exact absurd rfl h
  | _ => rfl
theorem byn_four {l : Ln} (h : LnOk l) : l.byn ≤ 4 := by
  cases l with
  | step n => exact h.2
  | work _ _ _ => exact (by decide : (0 : Int) ≤ 4)
  | load _ _ _ => exact (by decide : (0 : Int) ≤ 4)
  | store _ _ _ => exact (by decide : (0 : Int) ≤ 4)
  | copy _ _ => exact (by decide : (0 : Int) ≤ 4)
theorem steps_four : ∀ {r : Rows} {d : Nat}, Shape r d → AllLn LnOk r → steps r ≤ 4 * (nl r : Int)
  | .nil, _, _, _ => by simp [steps, nl]
  | .line l r, d, hs, ha => by
    have h1 := steps_four (r := r) hs.2 ha.2
    have h2 := byn_four ha.1
    simp only [steps, nl]
    omega
  | .iff b e one two r, d, hs, ha => by
    obtain ⟨_, _, he, ⟨d', _, s1, s2⟩, s3⟩ := hs
    have h1 := steps_four s1 ha.1
    have h2 := steps_four s2 ha.2.1
    have h3 := steps_four s3 ha.2.2
    simp only [steps, nl]
    cases e with
    | true => simp only [if_true]; omega
    | false =>
      rw [he rfl] at h2 ⊢
      simp only [steps, nl] at h2 ⊢
      simp
      omega
  | .whl b body r, d, hs, ha => by
    obtain ⟨_, _, _, s1, _, _, s3⟩ := hs
    have h1 := steps_four s1 ha.1
    have h3 := steps_four s3 ha.2
    simp only [steps, nl]
    omega
theorem cnt_flat_le : ∀ {r : Rows}, Flat r → ∀ i t x, cnt r i t x ≤ (nl r : Int)
  | .nil, _, _, _, _ => Int.le_refl 0
  | .line l r, h, i, t, x => by
    have h1 := cnt_flat_le (r := r) h (i + 1) t (x - l.byn)
    simp only [Rows.cnt, nl]
    split <;> omega
  | .iff _ _ _ _ _, h, _, _, _ => h.elim
  | .whl _ _ _, h, _, _, _ => h.elim
theorem cnt_le : ∀ {r : Rows} {d : Nat}, Shape r d → ∀ i t x, x ≤ 1000 → cnt r i t x ≤ 1001 * (nl r : Int)
  | .nil, _, _, _, _, _, _ => Int.le_refl 0
  | .line l r, d, h, i, t, x, hx => by
    have h1 := cnt_le (r := r) h.2 (i + 1) t (x - l.byn) (by have := h.1; omega)
    simp only [Rows.cnt, nl]
    split <;> omega
  | .iff b e one two r, d, hs, i, t, x, hx => by
    obtain ⟨_, _, he, ⟨d', _, s1, s2⟩, s3⟩ := hs
    have h1 := cnt_le s1 (i + 1) t x hx
    have h2 := cnt_le s2 (i + 1 + nl one + 1) t x hx
    have l1 := rem_le s1 x
    have l2 := rem_le s2 x
    have h3 := cnt_le s3 (i + (1 + nl one + (if e then 1 + nl two else 0) + 1)) t (if b ≤ x then rem one x else rem two x) (by split <;> omega)
    have h4 : (nl two : Int) ≤ ((if e then 1 + nl two else 0 : Nat) : Int) := by
      cases e with
      | true => simp only [if_true]; omega
      | false => rw [he rfl]; exact Int.le_refl 0
    simp only [Rows.cnt, nl]
    generalize (if e = true then 1 + nl two else 0) = z at *
    by_cases c : b ≤ x
    · rw [if_pos c] at h3 ⊢
      rw [if_pos c]
      omega
    · rw [if_neg c] at h3 ⊢
      rw [if_neg c]
      omega
  | .whl b body r, d, hs, i, t, x, hx => by
    obtain ⟨b0, b1, hf, s1, g1, g2, s3⟩ := hs
    have h1 := cnt_flat_le hf (i + 1) t 0
    have h0 := cnt_nonneg s1 (i + 1) t 0
    have eg := gain_flat hf
    have hr := rounds_bounds (b := b) (g := -(rem body 0)) (x := x) (by omega) b0
    have hj := Int.mul_nonneg hr.1 (show 0 ≤ -(rem body 0) by omega)
    have h3 := cnt_le s3 (i + (1 + nl body + 1)) t (x - rounds b (-(rem body 0)) x * (-(rem body 0))) (by omega)
    have hm : rounds b (-(rem body 0)) x * cnt body (i + 1) t 0 ≤ 1000 * (nl body : Int) := Int.le_trans (Int.mul_le_mul_of_nonneg_right (show rounds b (-(rem body 0)) x ≤ 1000 by omega) h0) (Int.mul_le_mul_of_nonneg_left h1 (by decide))
    simp only [Rows.cnt, nl]
    omega
/-! ### forms tell times -/
theorem heights_get (p : Nat → Int) (r : Rows) {i : Nat} (h : i < (many r).toNat) : (heights p r).getD i 0 = cost p r (i : Int) := by
  unfold heights
  rw [List.getD_eq_getElem?_getD, List.getElem?_map, List.getElem?_eq_getElem (by rw [List.length_range]; exact h), List.getElem_range]
  rfl
theorem height_cost (p : Nat → Int) {r : Rows} (hs : Shape r 3) {x : Int} (h0 : 0 ≤ x) : heightAt (heights p r) (per r) (rise p r) x = cost p r x := by
  have b := per_bounds hs
  have s0 := steps_nonneg hs
  have hm : many r = steps r + 12 + per r := rfl
  unfold heightAt
  rw [heights_len, show (((many r).toNat : Nat) : Int) - per r = steps r + 12 by omega]
  by_cases c : x < steps r + 12
  · rw [if_pos c, heights_get p r (by omega), show ((x.toNat : Nat) : Int) = x by omega]
  · rw [if_neg c]
    have m0 := Int.emod_nonneg (x - (steps r + 12)) (show per r ≠ 0 by omega)
    have m1 := Int.emod_lt_of_pos (x - (steps r + 12)) (show 0 < per r by omega)
    have d0 : 0 ≤ (x - (steps r + 12)) / per r := Int.ediv_nonneg (by omega) (by omega)
    have e := Int.emod_add_mul_ediv (x - (steps r + 12)) (per r)
    rw [heights_get p r (by omega)]
    generalize (x - (steps r + 12)) / per r = q at *
    generalize (x - (steps r + 12)) % per r = m at *
    obtain ⟨n, rfl⟩ : ∃ n : Nat, q = (n : Int) := ⟨q.toNat, by omega⟩
    have z := periodic_mul p hs (steps r + 12 + m) (by omega) n
    rw [show ((steps r + 12 + m).toNat : Int) = steps r + 12 + m by omega, ← z]
    congr 1
    rw [Int.mul_comm]
    omega
theorem both_get (s : Int) {a b : List Int} (h : a.length = b.length) (i : Nat) : (both s a b).getD i 0 = a.getD i 0 + s * b.getD i 0 := by
  unfold both
  rw [List.getD_eq_getElem?_getD, List.getD_eq_getElem?_getD, List.getD_eq_getElem?_getD]
  by_cases c : i < a.length
  · rw [List.getElem?_eq_getElem (by rw [List.length_zipWith]; omega), List.getElem?_eq_getElem c, List.getElem?_eq_getElem (by omega), List.getElem_zipWith]
    rfl
  · rw [List.getElem?_eq_none_iff.mpr (by rw [List.length_zipWith]; omega), List.getElem?_eq_none_iff.mpr (by omega), List.getElem?_eq_none_iff.mpr (by omega)]
    simp
theorem height_both (s : Int) {a b : List Int} (h : a.length = b.length) (n g1 g2 x : Int) : heightAt (both s a b) n (g1 + s * g2) x = heightAt a n g1 x + s * heightAt b n g2 x := by
  unfold heightAt
  rw [both_len h, ← h]
  by_cases c : x < (a.length : Int) - n
  · rw [if_pos c, if_pos c, if_pos c, both_get s h]
  · rw [if_neg c, if_neg c, if_neg c, both_get s h, Int.mul_add, Int.mul_add, Int.mul_left_comm]
    omega
/-- the line with the number t, no step, left out -/
structure Left (p : Nat → Int) (r r' : Rows) (l : Ln) (t : Nat) : Prop where
  shape : Shape r' 3
  ok : AllLn LnOk r'
  text : (wl r).eraseIdx t = wl r'
  bound : t < nl r
  nlr : nl r' + 1 = nl r
  per : per r' = per r
  steps : steps r' = steps r
  len : (heights p r').length = (heights p r).length
  below : ∀ x ∈ both (-1) (heights p r) (heights p r'), 0 ≤ x
  slow : rise p r' ≤ rise p r
  gone : ∀ x : Int, 0 ≤ x → heightAt (both (-1) (heights p r) (heights p r')) (Rows.per r) (rise p r + -1 * rise p r') x = p l.kind * cnt r 0 t x
theorem left_out {p : Nat → Int} {r : Rows} {l : Ln} {t : Nat} (hs : Shape r 3) (ha : AllLn LnOk r) (hm : (l, t) ∈ stm r 0) (hk : l.kind ≠ 4) (hp : 0 ≤ p l.kind) : Left p r (cut r 0 t) l t := by
  have h : ∀ l', (l', t) ∈ stm r 0 → l'.byn = 0 ∧ p l'.kind = p l.kind := fun l' m => by
    have e := stm_one hs hm m
    subst e
    exact ⟨byn_nostep hk, rfl⟩
  have h0 : ∀ l', (l', t) ∈ stm r 0 → l'.byn = 0 := fun l' m => (h l' m).1
  have bd := stm_bounds hs hm
  have hsc := cut_shape hs h0
  have hlen : (heights p (cut r 0 t)).length = (heights p r).length := by rw [heights_len, heights_len, cut_many h0]
  obtain ⟨w1, w2⟩ := cut_text hs hm
  refine ⟨hsc, cut_all ha, w1.symm, by omega, w2, cut_per h0, cut_steps h0, hlen, fun x hx => ?_, by have := cut_rise hs hp h; omega, fun x hx => ?_⟩
  · unfold both heights at hx
    rw [cut_many h0, List.zipWith_map_left, List.zipWith_map_right, List.zipWith_self] at hx
    obtain ⟨c, _, rfl⟩ := List.mem_map.mp hx
    have q := cut_cost h (c : Int)
    have n := Int.mul_nonneg hp (cnt_nonneg hs 0 t (c : Int))
    omega
  · rw [height_both (-1) hlen.symm, height_cost p hs hx]
    have z := height_cost p hsc hx
    rw [cut_per h0] at z
    rw [z, cut_cost h x]
    omega
end Ov
/-! text OvL11 -/
set_option Elab.async false
set_option linter.all false
set_option maxRecDepth 100000
namespace Ov
open PySem PySem.Spec PyProof.Rows L2
open Rows TL
local macro_rules | `(tactic| walk_at "hp") => `(tactic| first
  | assumption
  | exact upd_same
  | (refine Evl.Ex.new (by assumption) _ _ ?_; walk_at "hp")
  | (refine (by assumption : Evl.Ex _ _) _ _ ?_; walk_at "hp"))
local macro_rules | `(tactic| walk_at "sq") => `(tactic| first
  | assumption
  | exact SqL.of (by walk_at "hp")
  | exact SqT.of (by walk_at "hp")
  | (refine Evl.ex_l (by assumption) ?_; walk_at "sq")
  | (refine Evl.ex_t (by assumption) ?_; walk_at "sq")
  | (refine Evl.ex_l (Evl.Ex.new (by assumption)) ?_; walk_at "sq")
  | (refine Evl.ex_t (Evl.Ex.new (by assumption)) ?_; walk_at "sq"))
local macro_rules | `(tactic| walk_at "ex") => `(tactic| first
  | assumption
  | exact Evl.Ex.refl _
  | (refine Evl.Ex.trans ?_ (Evl.Ex.new (by assumption)); walk_at "ex")
  | (refine Evl.Ex.trans ?_ (by assumption); walk_at "ex"))
local macro_rules | `(tactic| walk_at "s1") => `(tactic| first
  | refine ⟨_, rfl, ?_⟩
  | refine ⟨rfl, ?_⟩
  | refine ⟨_, _, rfl, rfl, ?_⟩
  | refine ⟨_, _, _, rfl, rfl, ?_⟩)
local macro_rules | `(tactic| walk_at "st") => `(tactic| repeat walk_at "s1")
local macro_rules | `(tactic| walk_at "v1") => `(tactic| first
  | ((with_reducible refine' s_var ?vch ?_); (case vch => exact rfl))
  | with_reducible refine' s_c ?_
  | with_reducible refine' s_seq ?_
  | with_reducible refine' s_asg ?_
  | with_reducible refine' s_name ?_
  | with_reducible refine' s_cons ?_
  | with_reducible refine' s_nil ?_
  | with_reducible refine' s_op ?_
  | with_reducible refine' s_rI0 ?_
  | with_reducible refine' s_ret ?_
  | with_reducible refine' s_test ?_
  | with_reducible refine' s_ifS ?_
  | with_reducible refine' s_call ?_
  | with_reducible refine' s_cb ?_
  | ((with_reducible refine' s_rEq ?vch ?_); (case vch => exact rfl))
  | ((with_reducible refine' s_rNe ?vch ?_); (case vch => exact rfl))
  | ((with_reducible refine' s_ixT ?vch ?vca ?_); (case vch => walk_at "sq"); (case vca => first | exact rfl | exact at_nat 0 rfl | exact at_nat 1 rfl | exact at_nat 2 rfl | exact at_nat 3 rfl | exact at_nat 4 rfl))
  | ((with_reducible refine' s_ixL ?vch ?vca ?_); (case vch => walk_at "sq"); (case vca => first | exact rfl | exact at_nat 0 rfl | exact at_nat 1 rfl | exact at_nat 2 rfl | exact at_nat 3 rfl | exact at_nat 4 rfl))
  | with_reducible refine iteT' ?_
  | with_reducible refine iteF' ?_
  | with_reducible refine' ex_bl ?_
  | with_reducible refine' ex_int ?_
  | with_reducible refine' ex_str ?_
  | with_reducible refine' ex_int1 ?_
  | with_reducible refine' ex_str1 ?_
  | with_reducible refine' ex_int2 ?_
  | with_reducible refine' ex_pair ?_
  | with_reducible refine' s_un ?_
  | with_reducible refine' s_B ?_
  | with_reducible refine' s_andV ?_
  | with_reducible refine' s_orV ?_
  | with_reducible refine' s_notV ?_
  | with_reducible refine' s_and ?_
  | with_reducible refine' s_or ?_
  | with_reducible refine' s_not ?_
  | with_reducible refine' s_if ?_
  | with_reducible refine' s_chain ?_
  | with_reducible refine' s_next ?_
  | with_reducible refine' s_break ?_
  | with_reducible refine' s_cont ?_
  | with_reducible refine' s_drop ?_
  | with_reducible refine' s_retN ?_
  | with_reducible refine' s_par ?_
  | ((with_reducible refine' s_aug ?vch ?_); (case vch => exact rfl))
  | with_reducible refine' s_ip ?_
  | with_reducible refine' s_gcons ?_
  | with_reducible refine' s_gnil ?_
  | ((with_reducible refine' s_gtup ?vch ?vca ?_); (case vch => walk_at "sq"); (case vca => exact rfl))
  | with_reducible refine' s_tup ?_
  | with_reducible refine' s_lst ?_
  | with_reducible refine' s_sl ?_
  | with_reducible refine' s_part ?_
  | with_reducible refine' s_nopart ?_
  | with_reducible refine' s_fld ?_
  | with_reducible refine' s_make ?_
  | with_reducible refine' s_meth ?_
  | with_reducible refine' s_prop ?_
  | with_reducible refine' s_makeK ?_
  | with_reducible refine' s_gsub ?_
  | ((with_reducible refine' s_setL ?vch ?vca ?_); (case vch => walk_at "hp"); (case vca => exact rfl))
  | with_reducible refine' s_par3 ?_
  | with_reducible refine' ex_three ?_
  | with_reducible refine' s_star ?_
  | with_reducible refine' s_dnewK ?_
  | with_reducible refine' s_dsetd ?_
  | with_reducible refine' s_methR ?_
  | with_reducible refine' s_fldaug ?_
  | with_reducible refine' s_dictzip ?_
  | with_reducible refine' s_sfld ?_
  | with_reducible refine' s_bm ?_
  | with_reducible refine' s_bm0 ?_
  | with_reducible refine' s_m1 ?_
  | with_reducible refine' s_dget ?_
  | with_reducible refine' s_lc ?_
  | with_reducible refine' s_for ?_
  | with_reducible refine' s_iList ?_
  | with_reducible refine' s_iTup ?_
  | with_reducible refine' s_iStr ?_
  | with_reducible refine' s_iRng1 ?_
  | with_reducible refine' s_iRng2 ?_
  | with_reducible refine' s_yes ?_
  | with_reducible refine' s_rU ?_
  | ((with_reducible refine' s_isiP ?vch ?_); (case vch => exact rfl))
  | ((with_reducible refine' ex_lenL ?vch ?_); (case vch => walk_at "sq"))
  | ((with_reducible refine' ex_lenT ?vch ?_); (case vch => walk_at "sq"))
  | ((with_reducible refine' ex_tupL ?vch ?_); (case vch => walk_at "sq"))
  | ((with_reducible refine' ex_lstT ?vch ?_); (case vch => walk_at "sq"))
  | ((with_reducible refine' ex_srcL ?vch ?_); (case vch => walk_at "sq"))
  | ((with_reducible refine' ex_srcT ?vch ?_); (case vch => walk_at "sq"))
  | ((with_reducible refine' s_mk ?vch ?_); (case vch => exact small_le (Nat.le_of_ble_eq_true rfl)))
  | with_reducible refine' ⟨_, _, rfl, rfl, ?_⟩
  | with_reducible refine' ⟨⟨_, rfl⟩, ?_⟩
  | with_reducible refine' ⟨rfl, ?_⟩
  | ((with_reducible refine' iteT_of ?vch ?_); (case vch => exact rfl))
  | ((with_reducible refine' iteF_of ?vch ?_); (case vch => exact rfl)))
local macro_rules | `(tactic| walk_at "vc") => `(tactic| repeat walk_at "v1")
section
variable {P : Program} {w : World} {K : PySem.W.Frag} {mg : Str → Option Value} {base : Heap}
def In4 (p : Nat → Int) : Prop := ∀ n ∈ six p, 0 ≤ n ∧ n ≤ 400
theorem six_all {p : Nat → Int} {C : Int → Prop} : (∀ n ∈ six p, C n) ↔ ∀ k, k < 6 → C (p k) := by
  constructor
  · intro h k hk
    match k, hk with
    | 0, _ => exact h _ (by simp [six])
    | 1, _ => exact h _ (by simp [six])
    | 2, _ => exact h _ (by simp [six])
    | 3, _ => exact h _ (by simp [six])
    | 4, _ => exact h _ (by simp [six])
    | 5, _ => exact h _ (by simp [six])
  · intro h n hn
    simp only [six, List.mem_cons, List.not_mem_nil, or_false] at hn
    rcases hn with rfl | rfl | rfl | rfl | rfl | rfl
    · exact h 0 (by decide)
    · exact h 1 (by decide)
    · exact h 2 (by decide)
    · exact h 3 (by decide)
    · exact h 4 (by decide)
    · exact h 5 (by decide)
theorem six_get (p : Nat → Int) {i : Nat} (h : i < 6) : (six p).getD i 0 = p i := by
  match i, h with
  | 0, _ => rfl
  | 1, _ => rfl
  | 2, _ => rfl
  | 3, _ => rfl
  | 4, _ => rfl
  | 5, _ => rfl
/-- the form of a time -/
def TimeAt (K : PySem.W.Frag) (H : Hp) (f : Addr) (p : Nat → Int) (r : Rows) : Prop := FormAt K H f (heights p r) (per r) (rise p r)
theorem TimeAt.mono {K : PySem.W.Frag} {H H' : Hp} (e : Ex H H') {f : Addr} {p : Nat → Int} {r : Rows} (h : TimeAt K H f p r) : TimeAt K H' f p r := FormAt.mono e h
theorem TimeAt.congr {K : PySem.W.Frag} {H : Hp} {f : Addr} {p q : Nat → Int} {r : Rows} (h : TimeAt K H f p r) (e : ∀ j, j < 6 → p j = q j) : TimeAt K H f q r := by
  unfold TimeAt at h ⊢
  rw [← heights_congr e r, ← rise_congr e r]
  exact h
theorem TimeAt.add {K : PySem.W.Frag} {H : Hp} {f : Addr} {p q : Nat → Int} {r : Rows} (h : FormAt K H f (both 1 (heights p r) (heights q r)) (per r) (rise p r + 1 * rise q r)) : TimeAt K H f (fun k => p k + q k) r := by
  unfold TimeAt
  rw [← heights_add, rise_add, ← Int.one_mul (rise q r)]
  exact h
theorem TimeAt.sub {K : PySem.W.Frag} {H : Hp} {f : Addr} {p : Nat → Int} {r : Rows} (h : FormAt K H f (both (-1) (heights p r) (heights p r)) (per r) (rise p r + -1 * rise p r)) : TimeAt K H f (fun _ => 0) r := by
  unfold TimeAt
  rw [← heights_sub p, rise_zero, show (0 : Int) = rise p r + -1 * rise p r by omega]
  exact h
/-- the operators at times -/
def Fit (r : Rows) : Prop := ∀ p : Nat → Int, 1 ≤ per r ∧ per r < ((heights p r).length : Int) ∧ (heights p r).length ≤ 2000
theorem s_addF {H : Hp} {Q : VK} {r : Rows} {f1 f2 : Addr} {p q : Nat → Int} (ft : Fit r) (h1 : TimeAt K H f1 p r) (h2 : TimeAt K H f2 q r) (k : ∀ f H', Ex H H' → TimeAt K H' f (fun k => p k + q k) r → Q (.ref f) H') : rOwn2 (He.ga K "Form") (spFOp K 1) (.ref f1) (.ref f2) H Q := by
  obtain ⟨dx, t, i1, _⟩ := FormAt.held h1
  obtain ⟨dx2, t2, i2, _⟩ := FormAt.held h2
  have z := ft p
  exact ⟨f1, f2, dx, dx2, _, _, rfl, rfl, i1, i2, f1, f2, _, _, _, _, _, rfl, h1, h2, by rw [heights_len, heights_len], z.1, by omega, by omega, fun f H' e hf => k f H' e (TimeAt.add hf)⟩
theorem s_subF {H : Hp} {Q : VK} {r : Rows} {f1 f2 : Addr} {p : Nat → Int} (ft : Fit r) (h1 : TimeAt K H f1 p r) (h2 : TimeAt K H f2 p r) (k : ∀ f H', Ex H H' → TimeAt K H' f (fun _ => 0) r → Q (.ref f) H') : rOwn2 (He.ga K "Form") (spFOp K (-1)) (.ref f1) (.ref f2) H Q := by
  obtain ⟨dx, t, i1, _⟩ := FormAt.held h1
  obtain ⟨dx2, t2, i2, _⟩ := FormAt.held h2
  have z := ft p
  exact ⟨f1, f2, dx, dx2, _, _, rfl, rfl, i1, i2, f1, f2, _, _, _, _, _, rfl, h1, h2, rfl, z.1, by omega, by omega, fun f H' e hf => k f H' e (TimeAt.sub hf)⟩
theorem s_eqF {H : Hp} {Q : VK} {r : Rows} {f1 f2 : Addr} {p : Nat → Int} (ft : Fit r) (h1 : TimeAt K H f1 p r) (h2 : TimeAt K H f2 p r) (k : ∀ H', Ex H H' → Q (.bl true) H') : rOwn2 (He.ga K "Form") (spFEq K) (.ref f1) (.ref f2) H Q := by
  obtain ⟨dx, t, i1, _⟩ := FormAt.held h1
  obtain ⟨dx2, t2, i2, _⟩ := FormAt.held h2
  have z := ft p
  exact ⟨f1, f2, dx, dx2, _, _, rfl, rfl, i1, i2, f1, f2, _, _, _, rfl, h1, h2, z.1, by omega, by omega, k⟩
theorem s_neF {H : Hp} {G : Bool → Hp → Prop} {r : Rows} {f1 f2 : Addr} {p : Nat → Int} (ft : Fit r) (h1 : TimeAt K H f1 p r) (h2 : TimeAt K H f2 p r) (k : ∀ H', Ex H H' → G true H') : ∃ a b dx dy fs gs, V.ref f1 = .ref a ∧ V.ref f2 = .ref b ∧ H a = some (.ins (He.ga K "Form") dx fs) ∧ H b = some (.ins (He.ga K "Form") dy gs) ∧ spFEq K [.ref a, .ref b] H (fun v H' => ∃ c, v = .bl c ∧ G c H') E0 := by
  obtain ⟨dx, t, i1, _⟩ := FormAt.held h1
  obtain ⟨dx2, t2, i2, _⟩ := FormAt.held h2
  have z := ft p
  exact ⟨f1, f2, dx, dx2, _, _, rfl, rfl, i1, i2, f1, f2, _, _, _, rfl, h1, h2, z.1, by omega, by omega, fun H' e => ⟨true, rfl, k H' e⟩⟩
def spSums (K : PySem.W.Frag) : Sp := fun vs H Q _ => ∃ (m a1 a2 : Addr) (text : Str) (r : Rows) (p q : Nat → Int), vs = [.ref m, .ref a1, .ref a2] ∧ ProgAt K H m text r ∧ Shape r 3 ∧ steps r ≤ 1000 ∧ SqL K H a1 ((six p).map V.int) ∧ SqL K H a2 ((six q).map V.int) ∧ In4 p ∧ In4 q ∧ ∀ H', Ex H H' → Q (.bl true) H'
theorem sc_z_sums_right : FnScope ["_law_mine", "_law_one", "_law_two", "_law_both", "_law_shape", "_law_other", "_law_free", "_law_total", "_law_k", "_law_single", "_law_turn", "_law_j", "_law_each"] ["_law_mine", "_law_one", "_law_two"] (defScope s_z_sums_right) := ⟨rfl, rfl, rfl, by decide +kernel, rfl, by decide +kernel, by decide +kernel⟩
theorem D_z_sums_right (Z : Zf K mg) : Df P w K mg base "_law_sums_right" (16) ["_law_mine", "_law_one", "_law_two"] (spSums K) := by
  refine def_ok Z 63 rfl (by decide +kernel) sc_z_sums_right (fun _ _ _ _ _ _ us hl => match us, hl with | [_, _, _], _ => rfl) (fun vs H Q E h => ?_) (fun f cdv A outer s H vs Q E hr h => ⟨_, (pss_cons (ps_setLc (i := 3) (own := [("_law_k", 8)]) (g := gName 8) (tt := tYes) rfl sc_z_sums_right.nd rfl rfl (sw_true rfl rfl rfl (by decide +kernel)) (pi_range1 rfl (Z.free "range") (pa_cons pe_int pa_nil)) (blkOk_by (own := [("_law_k", 8)]) (N := ["_law_mine", "_law_one", "_law_two", "_law_both", "_law_shape", "_law_other", "_law_free", "_law_total", "_law_k", "_law_single", "_law_turn", "_law_j", "_law_each"]) (sc := defScope s_z_sums_right) (by decide +kernel)) (fun _ _ _ _ _ => (pgn 8 sc_z_sums_right.nd)) (fun _ _ _ _ _ => pts_nil) (fun _ _ _ _ _ => (pe_op op_add (pe_ix (ixLK (K := K) rfl) (pv 1) (pv 8) (fun _ _ => rfl)) (pe_ix (ixLK (K := K) rfl) (pv 2) (pv 8) (fun _ _ => rfl)))))
      (C8.pss_cut (ps_par (i := 4) (j := 5) (by rfl) sc_z_sums_right.nd rfl rfl (by decide) rfl rfl (pa_cons (pe_callD (D_time_of Z) hr (by omega) rfl (pa_cons (pv 0) (pa_cons (pe_callD (D_z_paid Z) hr (by omega) rfl (pa_cons (pv 1) pa_nil)) pa_nil))) (pa_cons (pe_callD (D_time_of Z) hr (by omega) rfl (pa_cons (pv 0) (pa_cons (pe_callD (D_z_paid Z) hr (by omega) rfl (pa_cons (pv 2) pa_nil)) pa_nil))) pa_nil)) (by rfl))
      (C8.pss_cut (ps_if (pt_cmpR (op_neF Z (D_Formu_equ Z) hr (by omega)) (pe_callD (D_time_of Z) hr (by omega) rfl (pa_cons (pv 0) (pa_cons (pe_callD (D_z_paid Z) hr (by omega) rfl (pa_cons (pv 3) pa_nil)) pa_nil))) (pe_op (op_addF Z (D_Formu_addu Z) hr (by omega)) (pv 4) (pv 5)) (nomark _)) (pss_one (ps_ret pe_bl)) pss_nil)
      (C8.pss_cut (ps_asg (pe_callD (D_time_of Z) hr (by omega) rfl (pa_cons (pv 0) (pa_cons (pe_callD (D_z_paid Z) hr (by omega) rfl (pa_cons (pe_op op_rep (pe_lst (pa_cons pe_int pa_nil)) pe_int) pa_nil)) pa_nil))) (pgn 6 sc_z_sums_right.nd))
      (C8.pss_cut (ps_if (PW.pt (pw_or (pt_cmpR (op_neF Z (D_Formu_equ Z) hr (by omega)) (pv 6) (pe_op (op_subF Z (D_Formu_subu Z) hr (by omega)) (pv 4) (pv 4)) (nomark _)) (pw_or1 (pt_cmpR (op_neD (units64 hr)) (pe_lc (own := [("_law_k", 8)]) (g := gName 8) (tt := tYes) rfl sc_z_sums_right.nd (pi_range1 rfl (Z.free "range") (pa_cons pe_int pa_nil)) (blkOk_by (own := [("_law_k", 8)]) (N := ["_law_mine", "_law_one", "_law_two", "_law_both", "_law_shape", "_law_other", "_law_free", "_law_total", "_law_k", "_law_single", "_law_turn", "_law_j", "_law_each"]) (sc := defScope s_z_sums_right) (by decide +kernel)) (fun _ _ _ _ _ => (pgn 8 sc_z_sums_right.nd)) (fun _ _ _ _ _ => pts_nil) (fun _ _ _ _ _ => (pe_callG (K := K) rfl Z (D_Formu_callu Z) hr (by omega) (pv 6) (pa_cons (pv 8) pa_nil)))) (pe_op op_rep (pe_lst (pa_cons pe_int pa_nil)) pe_int) (nomark _))))) (pss_one (ps_ret pe_bl)) pss_nil)
      (pss_cons (ps_asg (pv 6) (pgn 7 sc_z_sums_right.nd))
      (pss_cons (ps_for PassesOwn.never rfl (pi_range1 rfl (Z.free "range") (pa_cons pe_int pa_nil)) (pgn 8 sc_z_sums_right.nd)
      (pss_cons (ps_asg (pe_callD (D_time_of Z) hr (by omega) rfl (pa_cons (pv 0) (pa_cons (pe_callD (D_z_paid Z) hr (by omega) rfl (pa_cons (pe_lc (own := [("_law_j", 11)]) (g := gName 11) (tt := tYes) rfl sc_z_sums_right.nd (pi_range1 rfl (Z.free "range") (pa_cons pe_int pa_nil)) (blkOk_by (own := [("_law_j", 11)]) (N := ["_law_mine", "_law_one", "_law_two", "_law_both", "_law_shape", "_law_other", "_law_free", "_law_total", "_law_k", "_law_single", "_law_turn", "_law_j", "_law_each"]) (sc := defScope s_z_sums_right) (by decide +kernel)) (fun _ _ _ _ _ => (pgn 11 sc_z_sums_right.nd)) (fun _ _ _ _ _ => pts_nil) (fun _ _ _ _ _ => (pe_callTy call_intB (by rfl) (Z.free "int") (by decide +kernel) (pa_cons (pe_cmpR op_eq (pv 11) (pv 8) (nomark _)) pa_nil)))) pa_nil)) pa_nil))) (pgn 9 sc_z_sums_right.nd))
      (pss_one (ps_for PassesOwn.never rfl (pi_range1 rfl (Z.free "range") (pa_cons (pe_op op_mod (pe_callTy call_intI (by rfl) (Z.free "int") (by decide +kernel) (pa_cons (pe_ix ix_list (pv 1) (pv 8) (fun _ _ => rfl)) pa_nil)) pe_int) pa_nil)) (pgn 10 sc_z_sums_right.nd)
      (pss_one (ps_asg (pe_op (op_addF Z (D_Formu_addu Z) hr (by omega)) (pv 7) (pv 9)) (pgn 7 sc_z_sums_right.nd)))))))
      (pss_one (ps_ret (pe_cmpR (op_eqF Z (D_Formu_equ Z) hr (by omega)) (pv 7) (pe_callD (D_time_of Z) hr (by omega) rfl (pa_cons (pv 0) (pa_cons (pe_callD (D_z_paid Z) hr (by omega) rfl (pa_cons (pe_lc (own := [("_law_each", 12)]) (g := gName 12) (tt := tYes) rfl sc_z_sums_right.nd (pi_list (pv 1)) (blkOk_by (own := [("_law_each", 12)]) (N := ["_law_mine", "_law_one", "_law_two", "_law_both", "_law_shape", "_law_other", "_law_free", "_law_total", "_law_k", "_law_single", "_law_turn", "_law_j", "_law_each"]) (sc := defScope s_z_sums_right) (by decide +kernel)) (fun _ _ _ _ _ => (pgn 12 sc_z_sums_right.nd)) (fun _ _ _ _ _ => pts_nil) (fun _ _ _ _ _ => (pe_op op_mod (pe_callTy call_intI (by rfl) (Z.free "int") (by decide +kernel) (pa_cons (pv 12) pa_nil)) pe_int))) pa_nil)) pa_nil))) (nomark _))))))))))), ?_⟩)
  · obtain ⟨m, a1, a2, text, r, p, q, rfl, _⟩ := h
    rfl
  · obtain ⟨m, a1, a2, text, r, p, q, rfl, hm, hs, h1000, ha1, ha2, hp4, hq4, k⟩ := h
    have ft : Fit r := form_fits hs h1000
    walk_at "vc"
    refine ⟨by decide, by decide, ?_⟩
    refine lc_ex walk_range (j := 8) (fun i => V.int (0 + (i : Int))) (fun _ => true) (fun i v _ => v = V.int ((six p).getD i 0 + (six q).getD i 0)) (fun _ _ _ _ _ h => h) (fun i H x H' _ h => h) (fun _ _ => trivial) (by decide) (fun _ => rfl) ?_ ?_ ?_
    · intro i H2 _ _ Q1 k1
      exact k1 H2 (Evl.Ex.refl _)
    · intro i H2 hi _ e2 Q1 k1
      have hi : i < 6 := hi
      have ha1' := Evl.ex_l e2 ha1
      have ha2' := Evl.ex_l e2 ha2
      walk_at "vc"
      refine s_ixL ha1' (at_ints (hs := six p) (by omega) (by show 0 + (i : Int) < ((6 : Nat) : Int); omega)) ?_
      walk_at "vc"
      refine s_ixL ha2' (at_ints (hs := six q) (by omega) (by show 0 + (i : Int) < ((6 : Nat) : Int); omega)) ?_
      walk_at "vc"
      rw [show (0 + (i : Int)).toNat = i by omega]
      exact k1 _ _ (Evl.Ex.refl _) rfl
    intro D ysD H1 hD e1 hyD hmd
    have ey := Made.allVals hmd
    have hb : SqL K H1 D ((six fun k => p k + q k).map V.int) := by
      refine SqL.of ?_
      rw [hyD, ey]
      rfl
    have hp10 : ∀ n ∈ six p, 0 ≤ n ∧ n ≤ 1000 := fun n hn => ⟨(hp4 n hn).1, by have := (hp4 n hn).2; omega⟩
    have hq10 : ∀ n ∈ six q, 0 ≤ n ∧ n ≤ 1000 := fun n hn => ⟨(hq4 n hn).1, by have := (hq4 n hn).2; omega⟩
    have hb10 : ∀ n ∈ six fun k => p k + q k, 0 ≤ n ∧ n ≤ 1000 := six_all.mpr fun k hk => by
      have h1 := six_all.mp hp4 k hk
      have h2 := six_all.mp hq4 k hk
      omega
    walk_at "vc"
    refine ⟨fun σ' H' => Ex H H' ∧ ∃ f1 f2 : Addr, σ' = [some (.ref m), some (.ref a1), some (.ref a2), some (.ref D), some (.ref f1), some (.ref f2), none, none, none, none, none, none, none] ∧ TimeAt K H' f1 p r ∧ TimeAt K H' f2 q r ∧ SqL K H' D ((six fun k => p k + q k).map V.int), ?_, ?_⟩
    · walk_at "vc"
      refine ⟨a1, p, rfl, Evl.ex_l e1 ha1, hp10, fun c1 H2 e2 hc1 => ?_⟩
      walk_at "vc"
      have e12 := Evl.Ex.trans e1 e2
      refine ⟨m, c1, text, r, p, rfl, hm.mono e12, hs, h1000, hc1, fun f1 H3 e3 hf1 => ?_⟩
      have e13 := Evl.Ex.trans e12 e3
      walk_at "vc"
      refine ⟨a2, q, rfl, Evl.ex_l e13 ha2, hq10, fun c2 H4 e4 hc2 => ?_⟩
      have e14 := Evl.Ex.trans e13 e4
      walk_at "vc"
      refine ⟨m, c2, text, r, q, rfl, hm.mono e14, hs, h1000, hc2, fun f2 H5 e5 hf2 => ?_⟩
      walk_at "vc"
      exact ⟨Evl.Ex.trans e14 e5, f1, f2, rfl, FormAt.mono (Evl.Ex.trans e4 e5) hf1, hf2, Evl.ex_l (Evl.Ex.trans (Evl.Ex.trans e2 e3) (Evl.Ex.trans e4 e5)) hb⟩
    rintro σ' H2 ⟨e2, f1, f2, rfl, hf1, hf2, hb2⟩
    refine ⟨fun σ' H' => Ex H2 H' ∧ σ' = [some (.ref m), some (.ref a1), some (.ref a2), some (.ref D), some (.ref f1), some (.ref f2), none, none, none, none, none, none, none], ?_, ?_⟩
    · walk_at "vc"
      refine ⟨D, fun k => p k + q k, rfl, hb2, hb10, fun c1 H3 e3 hc1 => ?_⟩
      walk_at "vc"
      have e13 := Evl.Ex.trans e2 e3
      refine ⟨m, c1, text, r, _, rfl, hm.mono e13, hs, h1000, hc1, fun f3 H4 e4 hf3 => ?_⟩
      walk_at "vc"
      have e24 := Evl.Ex.trans e3 e4
      refine s_addF ft (hf1.mono e24) (hf2.mono e24) fun f4 H5 e5 hf4 => ?_
      refine s_neF ft (hf3.mono e5) hf4 fun H6 e6 => ?_
      walk_at "vc"
      exact ⟨Evl.Ex.trans e24 (Evl.Ex.trans e5 e6), rfl⟩
    rintro σ' H3 ⟨e3, rfl⟩
    have z10 : ∀ n ∈ six fun _ => 0, 0 ≤ n ∧ n ≤ 1000 := by decide
    have e03 := Evl.Ex.trans e2 e3
    refine ⟨fun σ' H' => Ex H3 H' ∧ ∃ f3 : Addr, σ' = [some (.ref m), some (.ref a1), some (.ref a2), some (.ref D), some (.ref f1), some (.ref f2), some (.ref f3), none, none, none, none, none, none] ∧ TimeAt K H' f3 (fun _ => 0) r, ?_, ?_⟩
    · walk_at "vc"
      intro p1 hp1
      walk_at "vc"
      refine ⟨p1, 6, [.int 0], rfl, rfl, upd_same, by decide, by decide, by decide, fun p2 hp2 => ?_⟩
      walk_at "vc"
      refine ⟨p2, fun _ => 0, rfl, SqL.of upd_same, z10, fun c1 H4 e4 hc1 => ?_⟩
      have e34 := Evl.Ex.trans (Evl.Ex.trans (Evl.Ex.new hp1) (Evl.Ex.new hp2)) e4
      walk_at "vc"
      refine ⟨m, c1, text, r, _, rfl, hm.mono (Evl.Ex.trans e03 e34), hs, h1000, hc1, fun f3 H5 e5 hf3 => ?_⟩
      walk_at "vc"
      exact ⟨Evl.Ex.trans e34 e5, f3, rfl, hf3⟩
    rintro σ' H4 ⟨e4, f3, rfl, hf3⟩
    have e04 := Evl.Ex.trans e03 e4
    have e24 := Evl.Ex.trans e3 e4
    refine ⟨fun σ' H' => Ex H4 H' ∧ σ' = [some (.ref m), some (.ref a1), some (.ref a2), some (.ref D), some (.ref f1), some (.ref f2), some (.ref f3), none, none, none, none, none, none], ?_, ?_⟩
    · walk_at "vc"
      refine s_subF ft (hf1.mono e24) (hf1.mono e24) fun f4 H5 e5 hf4 => ?_
      refine s_neF ft (hf3.mono e5) hf4 fun H6 e6 => ?_
      walk_at "vc"
      refine ⟨by decide, by decide, ?_⟩
      have e46 := Evl.Ex.trans e5 e6
      refine lc_ex walk_range (j := 8) (fun i => V.int (0 + (i : Int))) (fun _ => true) (fun i v _ => v = V.int 0) (fun _ _ _ _ _ h => h) (fun i H x H' _ h => h) (fun _ _ => trivial) (by decide) (fun _ => rfl) ?_ ?_ ?_
      · intro i H2 _ _ Q1 k1
        exact k1 H2 (Evl.Ex.refl _)
      · intro i H7 hi _ e7 Q1 k1
        have hi : i < 5 := hi
        have hf7 := hf3.mono (Evl.Ex.trans e46 e7)
        obtain ⟨dx7, t7, i7, _⟩ := FormAt.held hf7
        refine s_callF rfl rfl i7 ?_
        have z := ft fun _ => 0
        refine ⟨f3, _, _, _, _, rfl, hf7, z.1, by omega, by omega, by omega, by omega, fun H8 e8 => ?_⟩
        rw [height_cost _ hs (by omega), cost_zero]
        exact k1 _ _ e8 rfl
      intro D7 ys7 H7 hD7 e7 hy7 hm7
      have ey7 := Made.allVals hm7
      rw [ey7] at hy7
      walk_at "vc"
      intro p8 hp8
      walk_at "vc"
      have e8 := Evl.Ex.new (o := .lst [V.int 0]) hp8
      refine ⟨p8, 5, [.int 0], rfl, rfl, upd_same, by decide, by decide, by decide, fun p9 hp9 => ?_⟩
      have e9 := Evl.Ex.new (o := .lst (List.replicate (Int.toNat 5) [V.int 0]).flatten) hp9
      refine ⟨.list [.int 0, .int 0, .int 0, .int 0, .int 0], .list [.int 0, .int 0, .int 0, .int 0, .int 0], .lst (SqL.of (e9 _ _ (e8 _ _ hy7))) (.cons (.int _) (.cons (.int _) (.cons (.int _) (.cons (.int _) (.cons (.int _) .nil))))), .lst (SqL.of upd_same) (.cons (.int _) (.cons (.int _) (.cons (.int _) (.cons (.int _) (.cons (.int _) .nil))))), by decide +kernel, by decide +kernel, ?_⟩
      rw [show (!PyData.eqv (.list [.int 0, .int 0, .int 0, .int 0, .int 0]) (.list [.int 0, .int 0, .int 0, .int 0, .int 0])) = false by decide +kernel]
      walk_at "vc"
      exact ⟨Evl.Ex.trans e46 (Evl.Ex.trans e7 (Evl.Ex.trans e8 e9)), rfl⟩
    rintro σ' H5 ⟨e5, rfl⟩
    have e05 := Evl.Ex.trans e04 e5
    walk_at "vc"
    refine ⟨by decide, by decide, ?_⟩
    refine for_go walk_range (fun i σ H' => Ex H5 H' ∧ ∃ (f : Addr) (v8 v9 v10 : Option V), σ = [some (.ref m), some (.ref a1), some (.ref a2), some (.ref D), some (.ref f1), some (.ref f2), some (.ref f3), some (.ref f), v8, v9, v10, none, none] ∧ TimeAt K H' f (fun j => if j < i then p j % 5 else 0) r) ⟨Evl.Ex.refl _, f3, _, _, _, rfl, (hf3.mono e5).congr fun j _ => by simp⟩ (fun _ _ _ _ _ => trivial) ?_ ?_
    · rintro i x σ H6 H7 hi ⟨e6, f, v8, v9, v10, rfl, hf⟩ ⟨eH, rfl⟩
      rw [eH]
      have hi : i < 6 := hi
      walk_at "vc"
      refine ⟨by decide, by decide, ?_⟩
      refine lc_ex walk_range (j := 11) (fun t => V.int (0 + (t : Int))) (fun _ => true) (fun t v _ => v = V.int (if t = i then 1 else 0)) (fun _ _ _ _ _ h => h) (fun i H x H' _ h => h) (fun _ _ => trivial) (by decide) (fun _ => rfl) ?_ ?_ ?_
      · intro t H2 _ _ Q1 k1
        exact k1 H2 (Evl.Ex.refl _)
      · intro t H8 ht _ e8 Q1 k1
        walk_at "vc"
        refine ⟨_, rfl, ?_⟩
        refine k1 _ _ (Evl.Ex.refl _) ?_
        by_cases c : t = i
        · subst c
          simp
        · rw [if_neg c, decide_eq_false fun e => c (by have := V.int.inj e; omega)]
          rfl
      intro D8 ys8 H8 hD8 e8 hy8 hm8
      have ey8 := Made.allVals hm8
      have e68 := Evl.Ex.trans e6 e8
      have hl8 : SqL K H8 D8 ((six fun j => if j = i then 1 else 0).map V.int) := by
        refine SqL.of ?_
        rw [hy8, ey8]
        rfl
      have o10 : ∀ n ∈ six fun j => if j = i then 1 else 0, 0 ≤ n ∧ n ≤ 1000 := six_all.mpr fun k hk => by
        by_cases c : k = i
        · rw [if_pos c]; decide
        · rw [if_neg c]; decide
      walk_at "vc"
      refine ⟨D8, fun j => if j = i then 1 else 0, rfl, hl8, o10, fun c1 H9 e9 hc1 => ?_⟩
      walk_at "vc"
      have e59 := Evl.Ex.trans e68 e9
      refine ⟨m, c1, text, r, _, rfl, hm.mono (Evl.Ex.trans e05 e59), hs, h1000, hc1, fun f9 H10 e10 hf9 => ?_⟩
      have hf9 : TimeAt K H10 f9 (fun j => if j = i then 1 else 0) r := hf9
      have e510 := Evl.Ex.trans e59 e10
      have ha10 := Evl.ex_l (Evl.Ex.trans e05 e510) ha1
      walk_at "vc"
      refine s_ixL ha10 (at_ints (hs := six p) (by omega) (by show 0 + (i : Int) < ((6 : Nat) : Int); omega)) ?_
      rw [show (0 + (i : Int)).toNat = i by omega, six_get p hi]
      walk_at "vc"
      refine s_rI (show (0 : Int) < 5 by decide) ?_
      have m0 := Int.emod_nonneg (p i) (show (5 : Int) ≠ 0 by decide)
      have m1 := Int.emod_lt_of_pos (p i) (show (0 : Int) < 5 by decide)
      refine ⟨_, rfl, by omega, by omega, ?_⟩
      refine for_go walk_range (fun t σ H' => Ex H10 H' ∧ ∃ (f : Addr) (v10 : Option V), σ = [some (.ref m), some (.ref a1), some (.ref a2), some (.ref D), some (.ref f1), some (.ref f2), some (.ref f3), some (.ref f), some (.int (0 + (i : Int))), some (.ref f9), v10, none, none] ∧ TimeAt K H' f (fun j => (if j < i then p j % 5 else 0) + (t : Int) * if j = i then 1 else 0) r) ⟨Evl.Ex.refl _, f, _, rfl, (hf.mono (Evl.Ex.trans e8 (Evl.Ex.trans e9 e10))).congr fun j _ => by simp⟩ (fun _ _ _ _ _ => trivial) ?_ ?_
      · rintro t x σ H11 H12 ht ⟨e11, f', v10, rfl, hf'⟩ ⟨eH, rfl⟩
        rw [eH]
        walk_at "vc"
        refine s_addF ft hf' (hf9.mono e11) fun f12 H13 e13 hf12 => ?_
        walk_at "vc"
        refine ⟨Evl.Ex.trans e11 e13, f12, _, rfl, hf12.congr fun j _ => ?_⟩
        rw [show ((t + 1 : Nat) : Int) = (t : Int) + 1 by omega, Int.add_mul]
        omega
      · rintro σ H11 ⟨e11, f', v10, rfl, hf'⟩
        walk_at "vc"
        refine ⟨Evl.Ex.trans e510 e11, f', _, _, _, rfl, hf'.congr fun j _ => ?_⟩
        by_cases c : j = i
        · subst c
          rw [if_pos rfl, if_neg (Nat.lt_irrefl _), if_pos (Nat.lt_succ_self _), show (((p j % 5).toNat : Nat) : Int) = p j % 5 by omega]
          omega
        · rw [if_neg c, Int.mul_zero, Int.add_zero]
          by_cases c2 : j < i
          · rw [if_pos c2, if_pos (by omega)]
          · rw [if_neg c2, if_neg (by omega)]
    · rintro σ H6 ⟨e6, f, v8, v9, v10, rfl, hf⟩
      have e06 := Evl.Ex.trans e05 e6
      have ha6 := Evl.ex_l e06 ha1
      walk_at "vc"
      refine lc_ex (walk_list (xs := (six p).map V.int)) (j := 12) (fun i => ((six p).map V.int).getD i .non) (fun _ => true) (fun i v _ => v = V.int ((six p).getD i 0 % 5)) (fun _ _ _ _ _ h => h) ?_ (fun H' e => Evl.ex_l e ha6) (by show 6 ≤ 100000; decide) (fun _ => rfl) ?_ ?_ ?_
      · rintro i H2 x H' hi ⟨e, hx⟩
        exact ⟨e, by rw [List.getD_eq_getElem?_getD, hx]; rfl⟩
      · intro i H2 _ _ Q1 k1
        exact k1 H2 (Evl.Ex.refl _)
      · intro i H7 hi _ e7 Q1 k1
        have hi : i < 6 := hi
        rw [getD_ints (hs := six p) hi]
        walk_at "vc"
        refine s_rI (show (0 : Int) < 5 by decide) ?_
        exact k1 _ _ (Evl.Ex.refl _) rfl
      intro D7 ys7 H7 hD7 e7 hy7 hm7
      have ey7 := Made.allVals hm7
      have hl7 : SqL K H7 D7 ((six fun j => p j % 5).map V.int) := by
        refine SqL.of ?_
        rw [hy7, ey7]
        rfl
      have d10 : ∀ n ∈ six fun j => p j % 5, 0 ≤ n ∧ n ≤ 1000 := six_all.mpr fun k hk => by
        have := Int.emod_nonneg (p k) (show (5 : Int) ≠ 0 by decide)
        have := Int.emod_lt_of_pos (p k) (show (0 : Int) < 5 by decide)
        omega
      walk_at "vc"
      refine ⟨D7, fun j => p j % 5, rfl, hl7, d10, fun c1 H8 e8 hc1 => ?_⟩
      walk_at "vc"
      have e08 := Evl.Ex.trans e06 (Evl.Ex.trans e7 e8)
      refine ⟨m, c1, text, r, _, rfl, hm.mono e08, hs, h1000, hc1, fun f9 H9 e9 hf9 => ?_⟩
      have hf9 : TimeAt K H9 f9 (fun j => p j % 5) r := hf9
      walk_at "vc"
      refine s_eqF ft (hf.mono (Evl.Ex.trans e7 (Evl.Ex.trans e8 e9))) (hf9.congr fun j hj => by rw [show (Int.toNat 6) = 6 from rfl, if_pos hj]) fun H10 e10 => ?_
      exact k _ (Evl.Ex.trans e08 (Evl.Ex.trans e9 e10))
end
end Ov
/-! text OvL12 -/
set_option Elab.async false
set_option linter.all false
set_option maxRecDepth 100000
namespace Ov
open PySem PySem.Spec PyProof.Rows L2
open Rows TL
local macro_rules | `(tactic| walk_at "hp") => `(tactic| first
  | assumption
  | exact upd_same
  | (refine Evl.Ex.new (by assumption) _ _ ?_; walk_at "hp")
  | (refine (by assumption : Evl.Ex _ _) _ _ ?_; walk_at "hp"))
local macro_rules | `(tactic| walk_at "sq") => `(tactic| first
  | assumption
  | exact SqL.of (by walk_at "hp")
  | exact SqT.of (by walk_at "hp")
  | (refine Evl.ex_l (by assumption) ?_; walk_at "sq")
  | (refine Evl.ex_t (by assumption) ?_; walk_at "sq")
  | (refine Evl.ex_l (Evl.Ex.new (by assumption)) ?_; walk_at "sq")
  | (refine Evl.ex_t (Evl.Ex.new (by assumption)) ?_; walk_at "sq"))
local macro_rules | `(tactic| walk_at "ex") => `(tactic| first
  | assumption
  | exact Evl.Ex.refl _
  | (refine Evl.Ex.trans ?_ (Evl.Ex.new (by assumption)); walk_at "ex")
  | (refine Evl.Ex.trans ?_ (by assumption); walk_at "ex"))
local macro_rules | `(tactic| walk_at "s1") => `(tactic| first
  | refine ⟨_, rfl, ?_⟩
  | refine ⟨rfl, ?_⟩
  | refine ⟨_, _, rfl, rfl, ?_⟩
  | refine ⟨_, _, _, rfl, rfl, ?_⟩)
local macro_rules | `(tactic| walk_at "st") => `(tactic| repeat walk_at "s1")
local macro_rules | `(tactic| walk_at "v1") => `(tactic| first
  | ((with_reducible refine' s_var ?vch ?_); (case vch => exact rfl))
  | with_reducible refine' s_c ?_
  | with_reducible refine' s_seq ?_
  | with_reducible refine' s_asg ?_
  | with_reducible refine' s_name ?_
  | with_reducible refine' s_cons ?_
  | with_reducible refine' s_nil ?_
  | with_reducible refine' s_op ?_
  | with_reducible refine' s_rI0 ?_
  | with_reducible refine' s_ret ?_
  | with_reducible refine' s_test ?_
  | with_reducible refine' s_ifS ?_
  | with_reducible refine' s_call ?_
  | with_reducible refine' s_cb ?_
  | ((with_reducible refine' s_rEq ?vch ?_); (case vch => exact rfl))
  | ((with_reducible refine' s_rNe ?vch ?_); (case vch => exact rfl))
  | ((with_reducible refine' s_ixT ?vch ?vca ?_); (case vch => walk_at "sq"); (case vca => first | exact rfl | exact at_nat 0 rfl | exact at_nat 1 rfl | exact at_nat 2 rfl | exact at_nat 3 rfl | exact at_nat 4 rfl))
  | ((with_reducible refine' s_ixL ?vch ?vca ?_); (case vch => walk_at "sq"); (case vca => first | exact rfl | exact at_nat 0 rfl | exact at_nat 1 rfl | exact at_nat 2 rfl | exact at_nat 3 rfl | exact at_nat 4 rfl))
  | with_reducible refine iteT' ?_
  | with_reducible refine iteF' ?_
  | with_reducible refine' ex_bl ?_
  | with_reducible refine' ex_int ?_
  | with_reducible refine' ex_str ?_
  | with_reducible refine' ex_int1 ?_
  | with_reducible refine' ex_str1 ?_
  | with_reducible refine' ex_int2 ?_
  | with_reducible refine' ex_pair ?_
  | with_reducible refine' s_un ?_
  | with_reducible refine' s_B ?_
  | with_reducible refine' s_andV ?_
  | with_reducible refine' s_orV ?_
  | with_reducible refine' s_notV ?_
  | with_reducible refine' s_and ?_
  | with_reducible refine' s_or ?_
  | with_reducible refine' s_not ?_
  | with_reducible refine' s_if ?_
  | with_reducible refine' s_chain ?_
  | with_reducible refine' s_next ?_
  | with_reducible refine' s_break ?_
  | with_reducible refine' s_cont ?_
  | with_reducible refine' s_drop ?_
  | with_reducible refine' s_retN ?_
  | with_reducible refine' s_par ?_
  | ((with_reducible refine' s_aug ?vch ?_); (case vch => exact rfl))
  | with_reducible refine' s_ip ?_
  | with_reducible refine' s_gcons ?_
  | with_reducible refine' s_gnil ?_
  | ((with_reducible refine' s_gtup ?vch ?vca ?_); (case vch => walk_at "sq"); (case vca => exact rfl))
  | with_reducible refine' s_tup ?_
  | with_reducible refine' s_lst ?_
  | with_reducible refine' s_sl ?_
  | with_reducible refine' s_part ?_
  | with_reducible refine' s_nopart ?_
  | with_reducible refine' s_fld ?_
  | with_reducible refine' s_make ?_
  | with_reducible refine' s_meth ?_
  | with_reducible refine' s_prop ?_
  | with_reducible refine' s_makeK ?_
  | with_reducible refine' s_gsub ?_
  | ((with_reducible refine' s_setL ?vch ?vca ?_); (case vch => walk_at "hp"); (case vca => exact rfl))
  | with_reducible refine' s_par3 ?_
  | with_reducible refine' ex_three ?_
  | with_reducible refine' s_star ?_
  | with_reducible refine' s_dnewK ?_
  | with_reducible refine' s_dsetd ?_
  | with_reducible refine' s_methR ?_
  | with_reducible refine' s_fldaug ?_
  | with_reducible refine' s_dictzip ?_
  | with_reducible refine' s_sfld ?_
  | with_reducible refine' s_bm ?_
  | with_reducible refine' s_bm0 ?_
  | with_reducible refine' s_m1 ?_
  | with_reducible refine' s_dget ?_
  | with_reducible refine' s_lc ?_
  | with_reducible refine' s_for ?_
  | with_reducible refine' s_iList ?_
  | with_reducible refine' s_iTup ?_
  | with_reducible refine' s_iStr ?_
  | with_reducible refine' s_iRng1 ?_
  | with_reducible refine' s_iRng2 ?_
  | with_reducible refine' s_yes ?_
  | with_reducible refine' s_rU ?_
  | ((with_reducible refine' s_isiP ?vch ?_); (case vch => exact rfl))
  | ((with_reducible refine' ex_lenL ?vch ?_); (case vch => walk_at "sq"))
  | ((with_reducible refine' ex_lenT ?vch ?_); (case vch => walk_at "sq"))
  | ((with_reducible refine' ex_tupL ?vch ?_); (case vch => walk_at "sq"))
  | ((with_reducible refine' ex_lstT ?vch ?_); (case vch => walk_at "sq"))
  | ((with_reducible refine' ex_srcL ?vch ?_); (case vch => walk_at "sq"))
  | ((with_reducible refine' ex_srcT ?vch ?_); (case vch => walk_at "sq"))
  | ((with_reducible refine' s_mk ?vch ?_); (case vch => exact small_le (Nat.le_of_ble_eq_true rfl)))
  | with_reducible refine' ⟨_, _, rfl, rfl, ?_⟩
  | with_reducible refine' ⟨⟨_, rfl⟩, ?_⟩
  | with_reducible refine' ⟨rfl, ?_⟩
  | ((with_reducible refine' iteT_of ?vch ?_); (case vch => exact rfl))
  | ((with_reducible refine' iteF_of ?vch ?_); (case vch => exact rfl)))
local macro_rules | `(tactic| walk_at "vc") => `(tactic| repeat walk_at "v1")
section
variable {P : Program} {w : World} {K : PySem.W.Frag} {mg : Str → Option Value} {base : Heap}
def spCut (K : PySem.W.Frag) : Sp := fun vs H Q _ => ∃ (m k a : Addr) (r : Rows) (us : List V) (p : Nat → Int), vs = [.ref m, .ref k, .ref a] ∧ ProgAt K H m (textT (wl r)) r ∧ r ≠ .nil ∧ Shape r 3 ∧ AllLn LnOk r ∧ nl r ≤ 200 ∧ H k = some (.lst us) ∧ NRw H r 0 us ∧ SqL K H a ((six p).map V.int) ∧ In4 p ∧ ∀ H', Ex H H' → Q (.bl true) H'
theorem sc_z_without_right : FnScope ["_law_mine", "_law_marked", "_law_row", "_law_shape", "_law_some", "_law_line_here", "_law_shorter", "_law_gone", "_law_number", "_law_seen", "_law_due"] ["_law_mine", "_law_marked", "_law_row"] (defScope s_z_without_right) := ⟨rfl, rfl, rfl, by decide +kernel, rfl, by decide +kernel, by decide +kernel⟩
theorem D_z_without_right (Z : Zf K mg) : Df P w K mg base "_law_without_right" (19) ["_law_mine", "_law_marked", "_law_row"] (spCut K) := by
  refine def_ok Z 64 rfl (by decide +kernel) sc_z_without_right (fun _ _ _ _ _ _ us hl => match us, hl with | [_, _, _], _ => rfl) (fun vs H Q E h => ?_) (fun f cdv A outer s H vs Q E hr h => ⟨_, (pss_cons (ps_par (i := 3) (j := 4) (by rfl) sc_z_without_right.nd rfl rfl (by decide) rfl rfl (pa_cons (pe_callD (D_time_of Z) hr (by omega) rfl (pa_cons (pv 0) (pa_cons (pe_callD (D_z_paid Z) hr (by omega) rfl (pa_cons (pv 2) pa_nil)) pa_nil))) (pa_cons (pe_callD (D_stL Z 5) hr (by omega) rfl (pa_cons (pv 1) pa_nil)) pa_nil)) (by rfl))
      (pss_cons (ps_if (pt_cmpR op_lt (pe_callB call_lenT (by rfl) (Z.free "len") (by decide +kernel) (pa_cons (pe_propD (D_Program_lines Z) (Z.cls "Program") (Z.prop "Program" "lines") hr (by omega) (pv 0)) pa_nil)) pe_int (nomark _)) (pss_one (ps_ret pe_bl)) pss_nil)
      (pss_cons (ps_for PassesOwn.never rfl (pi_list (pe_slice sl_list (pv 4) po_none (po_some pe_int))) (pgn 5 sc_z_without_right.nd)
      (pss_cons (ps_if (pt_cmpR op_eq (pe_ix ix_list (pv 5) pe_int (fun _ _ => rfl)) pe_int (nomark _)) (pss_one ps_continue) pss_nil)
      (pss_cons (ps_asg (pe_callD (D_time_of Z) hr (by omega) rfl (pa_cons (pe_methD (D_Program_without Z) (Z.cls "Program") (Z.meth "Program" "without") hr (by omega) (pv 0) (pa_cons (pe_ix ix_list (pv 5) pe_int (fun _ _ => rfl)) pa_nil)) (pa_cons (pe_callD (D_z_paid Z) hr (by omega) rfl (pa_cons (pv 2) pa_nil)) pa_nil))) (pgn 6 sc_z_without_right.nd))
      (pss_cons (ps_asg (pe_op (op_subF Z (D_Formu_subu Z) hr (by omega)) (pv 3) (pv 6)) (pgn 7 sc_z_without_right.nd))
      (pss_cons (ps_if (PW.pt (pw_or (pt_not (pt_val (pe_callD (D_never_more Z) hr (by omega) rfl (pa_cons (pv 6) (pa_cons (pv 3) pa_nil))))) (pw_or1 (pt_cmpR op_ne (pe_callD (D_never_more_from Z) hr (by omega) rfl (pa_cons (pv 6) (pa_cons (pv 3) pa_nil))) pe_int (nomark _))))) (pss_one (ps_ret pe_bl)) pss_nil)
      (pss_one (ps_for PassesOwn.never rfl (pi_range1 rfl (Z.free "range") (pa_cons pe_int pa_nil)) (pgn 8 sc_z_without_right.nd)
      (pss_cons (ps_asg (pe_dnewK) (pgn 9 sc_z_without_right.nd))
      (pss_cons (ps_expr (pe_callD (D_often Z 5) hr (by omega) rfl (pa_cons (pv 1) (pa_cons (pv 8) (pa_cons (pv 9) pa_nil)))))
      (pss_cons (ps_asg (pe_op op_mul (pe_ix ix_list (pv 2) (pe_ix ix_list (pv 5) pe_int (fun _ _ => rfl)) (fun _ _ => rfl)) (pe_dget2 (hu_of hr) (pv 9) (pe_ix ix_list (pv 5) pe_int (fun _ _ => rfl)) pe_int ⟨rfl, rfl, rfl, rfl⟩)) (pgn 10 sc_z_without_right.nd))
      (pss_one (ps_if (pt_cmpR op_ne (pe_callB SkE.call_repr_int (by rfl) (Z.free "repr") (by decide +kernel) (pa_cons (pe_callG (K := K) rfl Z (D_Formu_callu Z) hr (by omega) (pv 7) (pa_cons (pv 8) pa_nil)) pa_nil)) (pe_callB SkE.call_repr_int (by rfl) (Z.free "repr") (by decide +kernel) (pa_cons (pv 10) pa_nil)) (nomark _)) (pss_one (ps_ret pe_bl)) pss_nil))))))))))))
      (pss_one (ps_ret pe_bl))))), ?_⟩)
  · obtain ⟨m, k, a, r, us, p, rfl, _⟩ := h
    rfl
  · obtain ⟨m, kk, a, r, us, p, rfl, hm, hne, hs, hal, hnl, hk, hnr, ha, hp4, k⟩ := h
    have hst := steps_four hs hal
    have h1000 : steps r ≤ 1000 := by omega
    have ft : Fit r := form_fits hs h1000
    have hp10 : ∀ n ∈ six p, 0 ≤ n ∧ n ≤ 1000 := fun n hn => ⟨(hp4 n hn).1, by have := (hp4 n hn).2; omega⟩
    have hd5 : dep r < 5 := by have := dep_shape hs; omega
    walk_at "vc"
    refine ⟨a, p, rfl, ha, hp10, fun c1 H1 e1 hc1 => ?_⟩
    walk_at "vc"
    refine ⟨m, c1, _, r, p, rfl, hm.mono e1, hs, h1000, hc1, fun f1 H2 e2 hf1 => ?_⟩
    have hf1 : TimeAt K H2 f1 p r := hf1
    have e02 := Evl.Ex.trans e1 e2
    walk_at "vc"
    refine ⟨kk, us, r, 3, 0, H, rfl, e02, hk, hnr, hs, hd5, by omega, fun pz zs H3 e3 _ hpz hz => ?_⟩
    have e03 := Evl.Ex.trans e02 e3
    walk_at "vc"
    obtain ⟨dxm, tm, hmi⟩ := (hm.mono e03).ins
    refine ⟨m, dxm, _, rfl, hmi, m, dxm, _, wl r, rfl, hmi, rfl, wl_ne hne, by rw [wl_len]; omega, wl_ok hal hs, fun q4 H4 e4 hq4 => ?_⟩
    have e04 := Evl.Ex.trans e03 e4
    have hq4S := SqT.of (K := K) hq4
    walk_at "vc"
    rw [List.length_map, List.length_map, wl_len]
    by_cases c2 : (nl r : Int) < 2
    · refine iteT_of (decide_eq_true c2) ?_
      walk_at "vc"
      exact k _ e04
    refine iteF_of (decide_eq_false c2) ?_
    walk_at "vc"
    have hpz4 := SqL.of (K := K) (e4 _ _ hpz)
    refine s_slL hpz4 fun p5 hp5 => ?_
    have hcut : cutV zs none (some 12) = zs.take 12 := by
      rw [show (some (12 : Int)) = some ((12 : Nat) : Int) from rfl, cut_to]
    rw [hcut]
    have e5 := Evl.Ex.new (o := .lst (zs.take 12)) hp5
    have e05 := Evl.Ex.trans e04 e5
    have hp5S := SqL.of (K := K) (upd_same (H := H4) (a := p5) (o := .lst (zs.take 12)))
    refine ⟨p5, rfl, ⟨_, hp5S⟩, ?_⟩
    refine for_go (walk_list (xs := zs.take 12)) (fun i σ H' => Ex (upd H4 p5 (.lst (zs.take 12))) H' ∧ ∃ v5 v6 v7 v8 v9 v10 : Option V, σ = [some (.ref m), some (.ref kk), some (.ref a), some (.ref f1), some (.ref pz), v5, v6, v7, v8, v9, v10]) ⟨Evl.Ex.refl _, _, _, _, _, _, _, rfl⟩ (fun i σ H' _ h => Evl.ex_l h.1 hp5S) ?_ ?_
    · rintro i x σ H6 H7 hi ⟨e6, v5, v6, v7, v8, v9, v10, rfl⟩ ⟨eH, hx⟩
      rw [eH]
      have hx' : zs[i]? = some x := by
        rw [List.getElem?_take] at hx
        split at hx
        · exact hx
        · cases hx
      obtain ⟨⟨l, t⟩, hlt, ql, rfl, hql⟩ := hz.get i x hx'
      have hmem : (l, t) ∈ stm r 0 := List.mem_of_getElem? hlt
      have e06 := Evl.Ex.trans e05 e6
      have hqlS := SqL.of (K := K) (e06 _ _ hql)
      have kl := kind_lt l
      walk_at "vc"
      by_cases c4 : l.kind = 4
      · refine iteT_of (decide_eq_true (by show V.int (l.kind : Int) = V.int 4; rw [c4]; rfl)) ?_
        walk_at "vc"
        exact ⟨e6, _, _, _, _, _, _, rfl⟩
      refine iteF_of (decide_eq_false fun e => c4 (by have e' : V.int (l.kind : Int) = V.int 4 := e; have := V.int.inj e'; omega)) ?_
      walk_at "vc"
      obtain ⟨dx6, t6, hmi6⟩ := (hm.mono e06).ins
      refine ⟨m, dx6, _, rfl, hmi6, rfl, ?_⟩
      walk_at "vc"
      have L := left_out (p := p) hs hal hmem c4 (six_all.mp hp4 l.kind (by omega)).1
      have hne' : cut r 0 t ≠ .nil := fun e => by
        have := L.nlr
        rw [e] at this
        simp only [nl] at this
        omega
      refine ⟨m, t, r, cut r 0 t, wl r, rfl, hm.mono e06, wl_ne hne, by rw [wl_len]; omega, wl_ok hal hs, by rw [wl_len]; exact L.bound, L.text, ⟨hne', L.shape, L.ok, by have := L.nlr; omega, by decide, (by intro q hq; cases hq), (by rfl), (by intro zs hz; cases hz)⟩, fun m2 H7 e7 hm2 => ?_⟩
      have e07 := Evl.Ex.trans e06 e7
      walk_at "vc"
      refine ⟨a, p, rfl, Evl.ex_l e07 ha, hp10, fun c2' H8 e8 hc2 => ?_⟩
      walk_at "vc"
      refine ⟨m2, c2', _, cut r 0 t, p, rfl, hm2.mono e8, L.shape, by rw [L.steps]; exact h1000, hc2, fun f2 H9 e9 hf2 => ?_⟩
      rw [L.per] at hf2
      have e79 := Evl.Ex.trans e8 e9
      have e39 := Evl.Ex.trans e4 (Evl.Ex.trans e5 (Evl.Ex.trans e6 (Evl.Ex.trans e7 e79)))
      have hf19 : TimeAt K H9 f1 p r := hf1.mono (Evl.Ex.trans e3 e39)
      have z := ft p
      have zl := L.len
      obtain ⟨dxa, ta, ia, _⟩ := FormAt.held hf19
      obtain ⟨dxb, tb, ib, _⟩ := FormAt.held hf2
      walk_at "vc"
      refine ⟨f1, f2, dxa, dxb, _, _, rfl, rfl, ia, ib, f1, f2, _, _, _, _, _, rfl, hf19, hf2, zl.symm, z.1, by omega, by omega, fun f3 H10 e10 hf3 => ?_⟩
      walk_at "vc"
      refine ⟨f2, f1, _, _, _, _, _, rfl, FormAt.mono e10 hf2, FormAt.mono e10 hf19, zl, z.1, by omega, by omega, L.below, L.slow, fun H11 e11 => ?_⟩
      have e911 := Evl.Ex.trans e10 e11
      walk_at "vc"
      refine ⟨f2, f1, _, _, _, _, _, rfl, FormAt.mono e911 hf2, FormAt.mono e911 hf19, zl, z.1, by omega, by omega, L.below, L.slow, fun H12 e12 => ?_⟩
      have e912 := Evl.Ex.trans e911 e12
      walk_at "vc"
      have e012 := Evl.Ex.trans e07 (Evl.Ex.trans e79 e912)
      have e512 := Evl.Ex.trans e6 (Evl.Ex.trans e7 (Evl.Ex.trans e79 e912))
      have hf3' := FormAt.mono (Evl.Ex.trans e11 e12) hf3
      refine ⟨by decide, by decide, ?_⟩
      refine for_go walk_range (fun i σ H' => Ex H12 H' ∧ ∃ v8 v9 v10 : Option V, σ = [some (.ref m), some (.ref kk), some (.ref a), some (.ref f1), some (.ref pz), some (.ref ql), some (.ref f2), some (.ref f3), v8, v9, v10]) ⟨Evl.Ex.refl _, _, _, _, rfl⟩ (fun _ _ _ _ _ => trivial) ?_ ?_
      · rintro j x σ H13 H14 hj ⟨e13, v8, v9, v10, rfl⟩ ⟨eH, rfl⟩
        rw [eH]
        have hj : j < 17 := hj
        have e013 := Evl.Ex.trans e012 e13
        walk_at "vc"
        intro s0 hs0
        walk_at "vc"
        refine ⟨kk, s0, us, r, 3, 0, _, fun _ => 0, H13, rfl, Evl.Ex.new hs0, hs0, e013 _ _ hk, hnr.mono e013, hs, hd5, by omega, by omega, ⟨[], upd_same, by simp [keysI], by simp, fun j => rfl⟩, fun H15 e15 _ hsn => ?_⟩
        have e015 := Evl.Ex.trans e013 e15
        have hqlS := SqL.of (K := K) (e015 _ _ hql)
        have ha15 := Evl.ex_l e015 ha
        obtain ⟨kvs, hkv, q1, q2, q3⟩ := id hsn
        walk_at "vc"
        refine s_ixL ha15 (at_ints (hs := six p) (by show (0 : Int) ≤ (l.kind : Int); omega) (by show (l.kind : Int) < ((6 : Nat) : Int); omega)) ?_
        walk_at "vc"
        rw [show ((l, t).1.kind : Int).toNat = l.kind from Int.toNat_natCast _, six_get p (show l.kind < 6 by omega)]
        refine s_dget2 ?_
        walk_at "vc"
        refine ⟨s0, rfl, .inl ⟨kvs, .inl hkv⟩, ?_⟩
        walk_at "vc"
        refine ⟨valV kvs (Sum.inl ((t : Nat) : Int)), DGet.k (k := (Sum.inl ((t : Nat) : Int) : Key)) hkv, ?_⟩
        rw [q3]
        have hp4k := six_all.mp hp4 l.kind (by omega)
        have hcn := cnt_nonneg hs 0 t (0 + (j : Int))
        have hcl := cnt_le hs 0 t (0 + (j : Int)) (by omega)
        refine s_rI (.inl ⟨by omega, by omega⟩) ?_
        walk_at "vc"
        have hf15 := FormAt.mono (Evl.Ex.trans e13 e15) hf3'
        obtain ⟨dx15, t15, i15, _⟩ := FormAt.held hf15
        have hbl : (both (-1) (heights p r) (heights p (cut r 0 t))).length = (heights p r).length := both_len zl.symm
        have hval : (fun u : Nat => (fun _ : Nat => (0 : Int)) u + Rows.cnt r 0 u (0 + (j : Int))) t = Rows.cnt r 0 t (0 + (j : Int)) := Int.zero_add _
        rw [hval]
        have hpc := Int.mul_nonneg hp4k.1 hcn
        have hpc2 : p l.kind * Rows.cnt r 0 t (0 + (j : Int)) ≤ 400 * (1001 * 200) := Int.le_trans (Int.mul_le_mul_of_nonneg_right hp4k.2 hcn) (Int.mul_le_mul_of_nonneg_left (by omega) (by decide))
        have hlog : (p l.kind * Rows.cnt r 0 t (0 + (j : Int))).natAbs.log2 < 1920 := log_small (Nat.lt_of_lt_of_le (show (p l.kind * Rows.cnt r 0 t (0 + (j : Int))).natAbs < 2 ^ 30 by omega) (Nat.pow_le_pow_right (by decide) (by decide)))
        refine s_callF rfl rfl i15 ?_
        refine ⟨f3, _, _, _, _, rfl, hf15, z.1, by rw [hbl]; omega, by rw [hbl]; omega, by omega, by omega, fun H16 e16 => ?_⟩
        rw [L.gone _ (by omega)]
        walk_at "vc"
        refine ⟨hlog, ?_⟩
        walk_at "vc"
        refine ⟨hlog, ?_⟩
        walk_at "vc"
        rw [decide_eq_true rfl]
        walk_at "vc"
        exact ⟨Evl.Ex.trans e13 (Evl.Ex.trans e15 e16), _, _, _, rfl⟩
      · rintro σ H13 ⟨e13, v8, v9, v10, rfl⟩
        walk_at "vc"
        exact ⟨Evl.Ex.trans e512 e13, _, _, _, _, _, _, rfl⟩
    · rintro σ H6 ⟨e6, v5, v6, v7, v8, v9, v10, rfl⟩
      walk_at "vc"
      exact k _ (Evl.Ex.trans e05 e6)
end
end Ov
/-! text OvL13 -/
set_option Elab.async false
set_option linter.all false
set_option maxRecDepth 100000
namespace Ov
open PySem PySem.Spec PyProof.Rows L2
open Rows TL
local macro_rules | `(tactic| walk_at "hp") => `(tactic| first
  | assumption
  | exact upd_same
  | (refine Evl.Ex.new (by assumption) _ _ ?_; walk_at "hp")
  | (refine (by assumption : Evl.Ex _ _) _ _ ?_; walk_at "hp"))
local macro_rules | `(tactic| walk_at "sq") => `(tactic| first
  | assumption
  | exact SqL.of (by walk_at "hp")
  | exact SqT.of (by walk_at "hp")
  | (refine Evl.ex_l (by assumption) ?_; walk_at "sq")
  | (refine Evl.ex_t (by assumption) ?_; walk_at "sq")
  | (refine Evl.ex_l (Evl.Ex.new (by assumption)) ?_; walk_at "sq")
  | (refine Evl.ex_t (Evl.Ex.new (by assumption)) ?_; walk_at "sq"))
local macro_rules | `(tactic| walk_at "ex") => `(tactic| first
  | assumption
  | exact Evl.Ex.refl _
  | (refine Evl.Ex.trans ?_ (Evl.Ex.new (by assumption)); walk_at "ex")
  | (refine Evl.Ex.trans ?_ (by assumption); walk_at "ex"))
local macro_rules | `(tactic| walk_at "s1") => `(tactic| first
  | refine ⟨_, rfl, ?_⟩
  | refine ⟨rfl, ?_⟩
  | refine ⟨_, _, rfl, rfl, ?_⟩
  | refine ⟨_, _, _, rfl, rfl, ?_⟩)
local macro_rules | `(tactic| walk_at "st") => `(tactic| repeat walk_at "s1")
local macro_rules | `(tactic| walk_at "v1") => `(tactic| first
  | ((with_reducible refine' s_var ?vch ?_); (case vch => exact rfl))
  | with_reducible refine' s_c ?_
  | with_reducible refine' s_seq ?_
  | with_reducible refine' s_asg ?_
  | with_reducible refine' s_name ?_
  | with_reducible refine' s_cons ?_
  | with_reducible refine' s_nil ?_
  | with_reducible refine' s_op ?_
  | with_reducible refine' s_rI0 ?_
  | with_reducible refine' s_ret ?_
  | with_reducible refine' s_test ?_
  | with_reducible refine' s_ifS ?_
  | with_reducible refine' s_call ?_
  | with_reducible refine' s_cb ?_
  | ((with_reducible refine' s_rEq ?vch ?_); (case vch => exact rfl))
  | ((with_reducible refine' s_rNe ?vch ?_); (case vch => exact rfl))
  | ((with_reducible refine' s_ixT ?vch ?vca ?_); (case vch => walk_at "sq"); (case vca => first | exact rfl | exact at_nat 0 rfl | exact at_nat 1 rfl | exact at_nat 2 rfl | exact at_nat 3 rfl | exact at_nat 4 rfl))
  | ((with_reducible refine' s_ixL ?vch ?vca ?_); (case vch => walk_at "sq"); (case vca => first | exact rfl | exact at_nat 0 rfl | exact at_nat 1 rfl | exact at_nat 2 rfl | exact at_nat 3 rfl | exact at_nat 4 rfl))
  | with_reducible refine iteT' ?_
  | with_reducible refine iteF' ?_
  | with_reducible refine' ex_bl ?_
  | with_reducible refine' ex_int ?_
  | with_reducible refine' ex_str ?_
  | with_reducible refine' ex_int1 ?_
  | with_reducible refine' ex_str1 ?_
  | with_reducible refine' ex_int2 ?_
  | with_reducible refine' ex_pair ?_
  | with_reducible refine' s_un ?_
  | with_reducible refine' s_B ?_
  | with_reducible refine' s_andV ?_
  | with_reducible refine' s_orV ?_
  | with_reducible refine' s_notV ?_
  | with_reducible refine' s_and ?_
  | with_reducible refine' s_or ?_
  | with_reducible refine' s_not ?_
  | with_reducible refine' s_if ?_
  | with_reducible refine' s_chain ?_
  | with_reducible refine' s_next ?_
  | with_reducible refine' s_break ?_
  | with_reducible refine' s_cont ?_
  | with_reducible refine' s_drop ?_
  | with_reducible refine' s_retN ?_
  | with_reducible refine' s_par ?_
  | ((with_reducible refine' s_aug ?vch ?_); (case vch => exact rfl))
  | with_reducible refine' s_ip ?_
  | with_reducible refine' s_gcons ?_
  | with_reducible refine' s_gnil ?_
  | ((with_reducible refine' s_gtup ?vch ?vca ?_); (case vch => walk_at "sq"); (case vca => exact rfl))
  | with_reducible refine' s_tup ?_
  | with_reducible refine' s_lst ?_
  | with_reducible refine' s_sl ?_
  | with_reducible refine' s_part ?_
  | with_reducible refine' s_nopart ?_
  | with_reducible refine' s_fld ?_
  | with_reducible refine' s_make ?_
  | with_reducible refine' s_meth ?_
  | with_reducible refine' s_prop ?_
  | with_reducible refine' s_makeK ?_
  | with_reducible refine' s_gsub ?_
  | ((with_reducible refine' s_setL ?vch ?vca ?_); (case vch => walk_at "hp"); (case vca => exact rfl))
  | with_reducible refine' s_par3 ?_
  | with_reducible refine' ex_three ?_
  | with_reducible refine' s_star ?_
  | with_reducible refine' s_dnewK ?_
  | with_reducible refine' s_dsetd ?_
  | with_reducible refine' s_methR ?_
  | with_reducible refine' s_fldaug ?_
  | with_reducible refine' s_dictzip ?_
  | with_reducible refine' s_sfld ?_
  | with_reducible refine' s_bm ?_
  | with_reducible refine' s_bm0 ?_
  | with_reducible refine' s_m1 ?_
  | with_reducible refine' s_dget ?_
  | with_reducible refine' s_lc ?_
  | with_reducible refine' s_for ?_
  | with_reducible refine' s_iList ?_
  | with_reducible refine' s_iTup ?_
  | with_reducible refine' s_iStr ?_
  | with_reducible refine' s_iRng1 ?_
  | with_reducible refine' s_iRng2 ?_
  | with_reducible refine' s_yes ?_
  | with_reducible refine' s_rU ?_
  | ((with_reducible refine' s_isiP ?vch ?_); (case vch => exact rfl))
  | ((with_reducible refine' ex_lenL ?vch ?_); (case vch => walk_at "sq"))
  | ((with_reducible refine' ex_lenT ?vch ?_); (case vch => walk_at "sq"))
  | ((with_reducible refine' ex_tupL ?vch ?_); (case vch => walk_at "sq"))
  | ((with_reducible refine' ex_lstT ?vch ?_); (case vch => walk_at "sq"))
  | ((with_reducible refine' ex_srcL ?vch ?_); (case vch => walk_at "sq"))
  | ((with_reducible refine' ex_srcT ?vch ?_); (case vch => walk_at "sq"))
  | ((with_reducible refine' s_mk ?vch ?_); (case vch => exact small_le (Nat.le_of_ble_eq_true rfl)))
  | with_reducible refine' ⟨_, _, rfl, rfl, ?_⟩
  | with_reducible refine' ⟨⟨_, rfl⟩, ?_⟩
  | with_reducible refine' ⟨rfl, ?_⟩
  | ((with_reducible refine' iteT_of ?vch ?_); (case vch => exact rfl))
  | ((with_reducible refine' iteF_of ?vch ?_); (case vch => exact rfl)))
local macro_rules | `(tactic| walk_at "vc") => `(tactic| repeat walk_at "v1")
/-! ### texts -/
theorem sum_lines : ∀ {ls : List (List Str)}, (∀ l ∈ ls, LineOk l) → ((ls.map lineT).map (·.length)).sum ≤ ls.length * 488
  | [], _ => by simp
  | a :: b, h => by
    have h1 := lineT_len (h a List.mem_cons_self)
    have h2 := sum_lines fun z hz => h z (List.mem_cons_of_mem _ hz)
    simp only [List.map_cons, List.sum_cons, List.length_cons]
    rw [Nat.succ_mul]
    omega
def twinTks : List (Str × Str) := [("q", "x@1"), ("w", "k")]
def twinOut : List Str := ["q", "q", "b"]
def twinLs (r : Rows) : List (List Str) := ([["take", "q", "x@1"], ["take", "w", "k"]] : List (List Str)) ++ wl r ++ ([["out", "q", "q", "b"]] : List (List Str))
theorem twin_text (r : Rows) : textOf twinTks r (some twinOut) = textT (twinLs r) := by
  unfold textOf twinLs
  rw [List.append_assoc]
  rfl
theorem take1 : lineT ["take", "q", "x@1"] = ("take q x@1" : Str) := by decide +kernel
theorem take2 : lineT ["take", "w", "k"] = ("take w k" : Str) := by decide +kernel
theorem out1 : lineT ["out", "q", "q", "b"] = ("out q q b" : Str) := by decide +kernel
theorem spot_q : Spot ("q" : Str) := spot_one (c := 113) (by decide) (by decide)
theorem spot_w : Spot ("w" : Str) := spot_one (c := 119) (by decide) (by decide)
theorem spot_k : Spot ("k" : Str) := spot_one (c := 107) (by decide) (by decide)
theorem spot_b : Spot ("b" : Str) := spot_one (c := 98) (by decide) (by decide)
theorem plain_ok {r : Rows} (h1 : r ≠ .nil) (h2 : Shape r 3) (h3 : AllLn LnOk r) (h4 : nl r ≤ 300) : TextOk [] r none := ⟨h1, h2, h3, h4, by decide, (by intro q hq; cases hq), (by rfl), (by intro zs hz; cases hz)⟩
theorem twin_ok {r : Rows} (h1 : r ≠ .nil) (h2 : Shape r 3) (h3 : AllLn LnOk r) (h4 : nl r ≤ 300) : TextOk twinTks r (some twinOut) := by
  refine ⟨h1, h2, h3, h4, by decide, fun q hq => ?_, by decide +kernel, fun zs hz => ?_⟩
  · simp only [twinTks, List.mem_cons, List.not_mem_nil, or_false] at hq
    rcases hq with rfl | rfl
    · exact ⟨spot_q, .inr rfl⟩
    · exact ⟨spot_w, .inl spot_k⟩
  · cases hz
    refine ⟨by decide, by decide, fun z hz => ?_⟩
    simp only [twinOut, List.mem_cons, List.not_mem_nil, or_false] at hz
    rcases hz with rfl | rfl | rfl
    · exact spot_q
    · exact spot_q
    · exact spot_b
theorem twin_list (r : Rows) : [V.str "take q x@1", V.str "take w k"] ++ ((wl r).map lineT).map V.str ++ [V.str "out q q b"] = ((twinLs r).map lineT).map V.str := by
  unfold twinLs
  rw [List.map_append, List.map_append, List.map_append, List.map_append]
  simp only [List.map_cons, List.map_nil, take1, take2, out1]
theorem twin_lines {r : Rows} (h : ∀ l ∈ wl r, LineOk l) : ∀ l ∈ twinLs r, LineOk l := fun l hl => by
  unfold twinLs at hl
  simp only [List.mem_append, List.mem_cons, List.not_mem_nil, or_false] at hl
  rcases hl with ((rfl | rfl) | hl) | rfl
  · exact lineOk_take (q := ("q", "x@1")) ⟨spot_q, .inr rfl⟩
  · exact lineOk_take (q := ("w", "k")) ⟨spot_w, .inl spot_k⟩
  · exact h l hl
  · refine lineOk_out (zs := twinOut) ⟨by decide, fun z hz => ?_⟩
    simp only [twinOut, List.mem_cons, List.not_mem_nil, or_false] at hz
    rcases hz with rfl | rfl | rfl
    · exact spot_q
    · exact spot_q
    · exact spot_b
theorem twin_len (r : Rows) : (twinLs r).length = nl r + 3 := by
  unfold twinLs
  rw [List.length_append, List.length_append, wl_len]
  simp only [List.length_cons, List.length_nil]
  omega
theorem six_of {H : Hp} {ys : List V} (h : Made (fun _ => true) (fun _ v _ => ∃ n : Int, v = V.int n ∧ 0 ≤ n ∧ n ≤ 400) 6 ys H) : ∃ p : Nat → Int, ys = (six p).map V.int ∧ In4 p := by
  obtain ⟨hl, _⟩ := Made.all h
  have hq := Made.each h
  match ys, hl with
  | [a, b, c, d, e, f], _ =>
    obtain ⟨_, na, rfl, ha⟩ := hq a (by simp)
    obtain ⟨_, nb, rfl, hb⟩ := hq b (by simp)
    obtain ⟨_, nc, rfl, hc⟩ := hq c (by simp)
    obtain ⟨_, nd, rfl, hd⟩ := hq d (by simp)
    obtain ⟨_, ne, rfl, he⟩ := hq e (by simp)
    obtain ⟨_, nf, rfl, hf⟩ := hq f (by simp)
    refine ⟨fun i => [na, nb, nc, nd, ne, nf].getD i 0, rfl, six_all.mpr fun k hk => ?_⟩
    match k, hk with
    | 0, _ => exact ha
    | 1, _ => exact hb
    | 2, _ => exact hc
    | 3, _ => exact hd
    | 4, _ => exact he
    | 5, _ => exact hf
section
variable {P : Program} {w : World} {K : PySem.W.Frag} {mg : Str → Option Value} {base : Heap}
theorem made_prog2 {H : Hp} {x dx : Addr} {G : Hp → Prop} {z : Str} {r : Rows} {tks : List (Str × Str)} {oz : Option (List Str)} (hz : textOf tks r oz = z) (nx : H x = none) (nd : H dx = none) (hok : TextOk tks r oz) (k : ∀ H', Ex H H' → ProgAt K H' x z r → G H') : spPInit K [.ref x, .str z] (upd (upd H dx (.own x)) x (.ins (He.ga K "Program") dx [])) (fun v H2 => v = .non ∧ G H2) E0 := by
  subst hz
  exact made_prog (Qf := fun _ H' => G H') nx nd hok k
theorem ProgAt.hid {H : Hp} {p q : Addr} {xs : List V} {z : Str} {r : Rows} (hp : H p = some (.lst xs)) (h : ProgAt K H q z r) : ProgAt K (hid [p] H) q z r := by
  obtain ⟨dx, t, b, x, y, w', ys, h1, h2, h3, h4⟩ := h
  have g : ∀ {a : Addr} {o : HO}, H a = some o → (∀ ys, o ≠ .lst ys) → Ov.hid [p] H a = some o := fun {a o} ha ho => hid_get ha fun m => by
    rw [List.mem_singleton.mp m, hp] at ha
    cases ha
    exact ho _ rfl
  refine ⟨dx, t, b, x, y, w', ys, g h1 (fun _ e => by cases e), g h2 (fun _ e => by cases e), g h3 (fun _ e => by cases e), h4.tex ?_⟩
  intro a ts ha
  exact g ha fun _ e => by cases e
def spRight (K : PySem.W.Frag) : Sp := fun vs H Q _ => ∃ (p : Addr) (t : Int), vs = [.ref p] ∧ PurseAt H p t ∧ t ≤ 100 ∧ ∀ H', Ex (hid [p] H) (hid [p] H') → Q (.bl true) H'
theorem sc_z_right : FnScope ["_law_purse_here", "_law_rows_here", "_law_texts", "_law_mine", "_law_twin", "_law_one", "_law_two", "_law_marked", "_law_k"] ["_law_purse_here"] (defScope s_z_right) := ⟨rfl, rfl, rfl, by decide +kernel, rfl, by decide +kernel, by decide +kernel⟩
theorem D_z_right (Z : Zf K mg) : Df P w K mg base "_law_right" (24) ["_law_purse_here"] (spRight K) := by
  refine def_ok Z 65 rfl (by decide +kernel) sc_z_right (fun _ _ _ _ _ _ us hl => match us, hl with | [_], _ => rfl) (fun vs H Q E h => ?_) (fun f cdv A outer s H vs Q E hr h => ⟨_, (pss_cons (ps_asg (pe_callD (D_rowsL Z 4) hr (by omega) rfl (pa_cons (pv 0) (pa_cons (pe_lst (pa_cons pe_int pa_nil)) (pa_cons pe_int (pa_cons (pe_op op_add pe_int (pe_callD (D_z_pick Z) hr (by omega) rfl (pa_cons (pv 0) (pa_cons pe_int pa_nil)))) pa_nil))))) (pgn 1 sc_z_right.nd))
      (pss_cons (ps_asg (pe_callD (D_linesL Z 5) hr (by omega) rfl (pa_cons (pv 1) pa_nil)) (pgn 2 sc_z_right.nd))
      (pss_cons (ps_par (i := 3) (j := 4) (by rfl) sc_z_right.nd rfl rfl (by decide) rfl rfl (pa_cons (pe_makeD (D_Programu_initu Z) (Z.mkr "Program") (Z.glo "Program") hr (by omega) rfl (pa_cons (pe_join pe_str (pv 2)) pa_nil)) (pa_cons (pe_makeD (D_Programu_initu Z) (Z.mkr "Program") (Z.glo "Program") hr (by omega) rfl (pa_cons (pe_join pe_str (pe_op op_cat (pe_op op_cat (pe_lst (pa_cons pe_str (pa_cons pe_str pa_nil))) (pv 2)) (pe_lst (pa_cons pe_str pa_nil)))) pa_nil)) pa_nil)) (by rfl))
      (pss_cons (ps_par (i := 5) (j := 6) (by rfl) sc_z_right.nd rfl rfl (by decide) rfl rfl (pa_cons (pe_lc (own := [("_law_k", 8)]) (g := gName 8) (tt := tYes) rfl sc_z_right.nd (pi_range1 rfl (Z.free "range") (pa_cons pe_int pa_nil)) (blkOk_by (own := [("_law_k", 8)]) (N := ["_law_purse_here", "_law_rows_here", "_law_texts", "_law_mine", "_law_twin", "_law_one", "_law_two", "_law_marked", "_law_k"]) (sc := defScope s_z_right) (by decide +kernel)) (fun _ _ _ _ _ => (pgn 8 sc_z_right.nd)) (fun _ _ _ _ _ => pts_nil) (fun _ _ _ _ _ => (pe_callD (D_z_pick Z) hr (by omega) rfl (pa_cons (pv 0) (pa_cons pe_int pa_nil))))) (pa_cons (pe_lc (own := [("_law_k", 8)]) (g := gName 8) (tt := tYes) rfl sc_z_right.nd (pi_range1 rfl (Z.free "range") (pa_cons pe_int pa_nil)) (blkOk_by (own := [("_law_k", 8)]) (N := ["_law_purse_here", "_law_rows_here", "_law_texts", "_law_mine", "_law_twin", "_law_one", "_law_two", "_law_marked", "_law_k"]) (sc := defScope s_z_right) (by decide +kernel)) (fun _ _ _ _ _ => (pgn 8 sc_z_right.nd)) (fun _ _ _ _ _ => pts_nil) (fun _ _ _ _ _ => (pe_callD (D_z_pick Z) hr (by omega) rfl (pa_cons (pv 0) (pa_cons pe_int pa_nil))))) pa_nil)) (by rfl))
      (pss_cons (ps_if (pt_cmpR (op_neF Z (D_Formu_equ Z) hr (by omega)) (pe_callD (D_time_of Z) hr (by omega) rfl (pa_cons (pv 3) (pa_cons (pe_callD (D_z_paid Z) hr (by omega) rfl (pa_cons (pv 5) pa_nil)) pa_nil))) (pe_callD (D_time_of Z) hr (by omega) rfl (pa_cons (pv 4) (pa_cons (pe_callD (D_z_paid Z) hr (by omega) rfl (pa_cons (pv 5) pa_nil)) pa_nil))) (nomark _)) (pss_one (ps_ret pe_bl)) pss_nil)
      (pss_cons (ps_asg (pe_callD (D_num Z 5) hr (by omega) rfl (pa_cons (pv 1) (pa_cons pe_int pa_nil))) (pgn 7 sc_z_right.nd))
      (pss_one (ps_ret (pe_and (pe_callD (D_z_sums_right Z) hr (by omega) rfl (pa_cons (pv 3) (pa_cons (pv 5) (pa_cons (pv 6) pa_nil)))) (pe_one (pe_callD (D_z_without_right Z) hr (by omega) rfl (pa_cons (pv 3) (pa_cons (pe_ix ix_list (pv 7) pe_int (fun _ _ => rfl)) (pa_cons (pv 5) pa_nil)))))))))))))), ?_⟩)
  · obtain ⟨p, t, rfl, _⟩ := h
    rfl
  · obtain ⟨p, t, rfl, hp, ht, k⟩ := h
    walk_at "vc"
    intro rm hrm
    have e1 := Evl.Ex.new (o := .lst [V.int 24]) hrm
    have hp1 : PurseAt (upd H rm (.lst [V.int 24])) p t := hp.new (hp.neNew hrm)
    walk_at "vc"
    refine ⟨p, 5, t, rfl, by decide, by decide, hp1, by omega, fun x H2 x0 x1 e2 hp2 => ?_⟩
    have nrm : rm ∉ [p] := fun c => hp.neNew hrm (List.mem_singleton.mp c).symm
    have hrm2 : RoomAt H2 rm 24 := ex_hid _ _ (e2 _ _ (hid_get upd_same nrm))
    walk_at "vc"
    have et : tau 3 = 19500 := by decide
    refine ⟨p, rm, 3, 1 + x, t + 1, 24, rfl, rfl, hp2, hrm2, by omega, by omega, by rw [et]; omega, fun q us r t3 R3 c H3 al sh hne few hq hrw e3 hp3 hrm3 ht3 => ?_⟩
    rw [et] at ht3
    obtain ⟨f1, f2, f3, f4⟩ := few
    have hnl : nl r ≤ 41 := by omega
    have hne := hne (by omega)
    have g3 : Ex (hid [p] H) (hid [p] H3) := fun a o h => by
      obtain ⟨n1, h1⟩ := hid_some.mp h
      have nr : a ≠ rm := fun c => by rw [c, hrm] at h1; cases h1
      have h2 := ex_hid _ _ (e2 _ _ (hid_get (e1 _ _ h1) n1))
      exact hid_get (ex_hid _ _ (e3 _ _ (hid_get h2 (by simp only [List.mem_cons, List.not_mem_nil, or_false] at n1 ⊢; exact fun c => c.elim n1 nr)))) n1
    have w3 : Ex (nw H2 H3) (hid [p] H3) := fun a o h => by
      obtain ⟨h1, h2⟩ := nw_some.mp h
      refine hid_get h2 fun m => ?_
      obtain ⟨xs, hx⟩ := hp2.lst
      rw [List.mem_singleton.mp m, hx] at h1
      cases h1
    have hq3 := w3 _ _ hq
    have hrw3 := hrw.mono w3
    have hd5 : dep r < 5 := by have := dep_shape sh; omega
    have hd50 : dep r ≤ 5 := by omega
    walk_at "vc"
    refine ⟨q, us, r, 3, rfl, ex_hid _ _ hq3, hrw3.mono ex_hid, al, sh, hd5, hd50, by omega, fun pl H4 e4 npl hpl => ?_⟩
    have hplS := SqL.of (K := K) hpl
    have hp4 : PurseAt H4 p t3 := by
      obtain ⟨d, s, h1, h2⟩ := hp3
      exact ⟨d, s, e4 _ _ h1, h2⟩
    walk_at "vc"
    have hw := wl_ok al sh
    have hsum := sum_lines hw
    have hwl := wl_len r
    have one1 : (("\n" : Str)).length = 1 := by decide +kernel
    refine ⟨"\n", pl, (wl r).map lineT, rfl, rfl, .inl hplS, by rw [List.length_map, one1]; omega, ?_⟩
    walk_at "vc"
    intro x5 dx5 nx5 nd5 ne5
    refine made_prog2 (textOf_plain r) nx5 nd5 (plain_ok hne sh al (by omega)) fun H5 e5 hm => ?_
    have hpl5 := e5 _ _ hpl
    walk_at "vc"
    intro p6 hp6
    walk_at "vc"
    have e6 := Evl.Ex.new (o := .lst [V.str "take q x@1", V.str "take w k"]) hp6
    refine ⟨p6, pl, _, _, rfl, rfl, upd_same, e6 _ _ hpl5, by rw [List.length_map, List.length_map, hwl, sizeLine_eq]; simp only [List.length_cons, List.length_nil]; omega, fun p7 hp7 => ?_⟩
    have e7 := Evl.Ex.new (o := .lst ([V.str "take q x@1", V.str "take w k"] ++ ((wl r).map lineT).map V.str)) hp7
    walk_at "vc"
    intro p8 hp8
    have e8 := Evl.Ex.new (o := .lst [V.str "out q q b"]) hp8
    walk_at "vc"
    refine ⟨p7, p8, _, _, rfl, rfl, e8 _ _ upd_same, upd_same, by rw [List.length_append, List.length_map, List.length_map, hwl, sizeLine_eq]; simp only [List.length_cons, List.length_nil]; omega, fun p9 hp9 => ?_⟩
    rw [twin_list]
    have e9 := Evl.Ex.new (o := .lst (((twinLs r).map lineT).map V.str)) hp9
    have hsum2 := sum_lines (twin_lines hw)
    have hwl2 := twin_len r
    refine ⟨"\n", p9, (twinLs r).map lineT, rfl, rfl, .inl (SqL.of upd_same), by rw [List.length_map, one1]; omega, ?_⟩
    walk_at "vc"
    intro x10 dx10 nx10 nd10 ne10
    refine made_prog2 (twin_text r) nx10 nd10 (twin_ok hne sh al (by omega)) fun H10 e10 hm2 => ?_
    have e510 := Evl.Ex.trans e6 (Evl.Ex.trans e7 (Evl.Ex.trans e8 (Evl.Ex.trans e9 e10)))
    have e310 := Evl.Ex.trans e4 (Evl.Ex.trans e5 e510)
    have hm10 := hm.mono e510
    have g10 : Ex (hid [p] H) (hid [p] H10) := Evl.Ex.trans g3 (hid_mono e310)
    have hq10 := hid_mono e310 _ _ hq3
    have hrw10 := hrw3.mono (hid_mono e310)
    have hp10 : PurseAt H10 p t3 := by
      obtain ⟨d, s, h1, h2⟩ := hp3
      exact ⟨d, s, e310 _ _ h1, h2⟩
    walk_at "vc"
    refine ⟨by decide, by decide, ?_⟩
    refine lc_exH walk_range (j := 8) (fun i => V.int (0 + (i : Int))) [p] (fun i H => PurseAt H p (t3 + (i : Int))) (fun _ v _ => ∃ n : Int, v = V.int n ∧ 0 ≤ n ∧ n ≤ 400) (fun _ _ _ _ _ h => h) (fun i H h => h.all) (fun i H D o hD h => h.new (hp10.neNew hD)) (by rw [show t3 + ((0 : Nat) : Int) = t3 by omega]; exact hp10) (fun i H x H' _ h => h) (fun _ _ => trivial) (by decide) (fun _ => rfl) ?_ ?_
    · intro i H6 hi e6 hp6 Q1 k1
      have hi : i < 6 := hi
      walk_at "vc"
      refine ⟨p, 401, _, rfl, by decide, by decide, hp6, by omega, fun n H7 n0 n1 e7 hp7 => ?_⟩
      refine k1 _ _ e7 ?_ ⟨n, rfl, n0, by omega⟩
      rw [show t3 + ((i + 1 : Nat) : Int) = t3 + (i : Int) + 1 by omega]
      exact hp7
    intro D1 ys1 H11 hD1 e11 hp11 hy1 hmd1
    have hp11 : PurseAt H11 p (t3 + 6) := hp11
    obtain ⟨c1, rfl, c14⟩ := six_of hmd1
    have nD1 : D1 ∉ [p] := fun m => hp10.neNew hD1 (List.mem_singleton.mp m).symm
    walk_at "vc"
    refine ⟨by decide, by decide, ?_⟩
    refine lc_exH walk_range (j := 8) (fun i => V.int (0 + (i : Int))) [p] (fun i H => PurseAt H p ((t3 + 6) + (i : Int))) (fun _ v _ => ∃ n : Int, v = V.int n ∧ 0 ≤ n ∧ n ≤ 400) (fun _ _ _ _ _ h => h) (fun i H h => h.all) (fun i H D o hD h => h.new (hp11.neNew hD)) (by rw [show (t3 + 6) + ((0 : Nat) : Int) = (t3 + 6) by omega]; exact hp11) (fun i H x H' _ h => h) (fun _ _ => trivial) (by decide) (fun _ => rfl) ?_ ?_
    · intro i H6 hi e6 hp6 Q1 k1
      have hi : i < 6 := hi
      walk_at "vc"
      refine ⟨p, 401, _, rfl, by decide, by decide, hp6, by omega, fun n H7 n0 n1 e7 hp7 => ?_⟩
      refine k1 _ _ e7 ?_ ⟨n, rfl, n0, by omega⟩
      rw [show (t3 + 6) + ((i + 1 : Nat) : Int) = (t3 + 6) + (i : Int) + 1 by omega]
      exact hp7
    intro D2 ys2 H12 hD2 e12 hp12 hy2 hmd2
    have hp12 : PurseAt H12 p ((t3 + 6) + 6) := hp12
    obtain ⟨c2, rfl, c24⟩ := six_of hmd2
    have nD2 : D2 ∉ [p] := fun m => hp11.neNew hD2 (List.mem_singleton.mp m).symm
    obtain ⟨pxs, hpx⟩ := hp10.lst
    have e1012 := Evl.Ex.trans e11 e12
    have g12 := Evl.Ex.trans g10 e1012
    have hm12 : ProgAt K H12 x5 _ r := ((hm10.hid hpx).mono e1012).mono ex_hid
    have ht12 : ProgAt K H12 x10 _ r := ((hm2.hid hpx).mono e1012).mono ex_hid
    have hq12 : H12 q = some (.lst us) := ex_hid _ _ (e1012 _ _ hq10)
    have hrw12 : RwsAt H12 r us := (hrw10.mono e1012).mono ex_hid
    have hD1S := SqL.of (K := K) (ex_hid _ _ (e12 _ _ (hid_get hy1 nD1)))
    have hD2S := SqL.of (K := K) hy2
    have hst := steps_four sh al
    have h1000 : steps r ≤ 1000 := by omega
    have ft : Fit r := form_fits sh h1000
    have c110 : ∀ n ∈ six c1, 0 ≤ n ∧ n ≤ 1000 := fun n hn => ⟨(c14 n hn).1, by have := (c14 n hn).2; omega⟩
    have usl := rws_len hrw12
    walk_at "vc"
    refine ⟨D1, c1, rfl, hD1S, c110, fun o1 H13 e13 ho1 => ?_⟩
    walk_at "vc"
    refine ⟨x5, o1, _, r, c1, rfl, hm12.mono e13, sh, h1000, ho1, fun f1 H14 e14 hf1 => ?_⟩
    have hf1 : TimeAt K H14 f1 c1 r := hf1
    have e1214 := Evl.Ex.trans e13 e14
    walk_at "vc"
    refine ⟨D1, c1, rfl, Evl.ex_l e1214 hD1S, c110, fun o2 H15 e15 ho2 => ?_⟩
    have e1215 := Evl.Ex.trans e1214 e15
    walk_at "vc"
    refine ⟨x10, o2, _, r, c1, rfl, ht12.mono e1215, sh, h1000, ho2, fun f2 H16 e16 hf2 => ?_⟩
    have hf2 : TimeAt K H16 f2 c1 r := hf2
    refine s_neF ft (hf1.mono (Evl.Ex.trans e15 e16)) hf2 fun H17 e17 => ?_
    have e1217 := Evl.Ex.trans e1215 (Evl.Ex.trans e16 e17)
    walk_at "vc"
    refine ⟨q, us, r, 3, 0, rfl, e1217 _ _ hq12, hrw12.mono e1217, al, sh, hd5, hd50, by omega, by omega, fun pn qn zs H18 e18 hpn hqn hnr => ?_⟩
    have hpn' := ex_nw _ _ hpn
    have hqn' := ex_nw _ _ hqn
    have hnr' := hnr.mono ex_nw
    have e1218 := Evl.Ex.trans e1217 e18
    walk_at "vc"
    refine ⟨x5, D1, D2, _, r, c1, c2, rfl, hm12.mono e1218, sh, h1000, Evl.ex_l e1218 hD1S, Evl.ex_l e1218 hD2S, c14, c24, fun H19 e19 => ?_⟩
    have hpnS := SqL.of (K := K) (e19 _ _ hpn')
    have e1219 := Evl.Ex.trans e1218 e19
    walk_at "vc"
    refine ⟨x5, qn, D1, r, zs, c1, rfl, hm12.mono e1219, hne, sh, al, by omega, e19 _ _ hqn', hnr'.mono e19, Evl.ex_l e1219 hD1S, c14, fun H20 e20 => ?_⟩
    exact k H20 (Evl.Ex.trans g12 (hid_mono (Evl.Ex.trans e1219 e20)))
end
end Ov
/-! text OvL14 -/
set_option Elab.async false
set_option linter.all false
set_option maxRecDepth 100000
namespace Ov
open PySem PySem.Spec PyProof.Rows L2
open Rows TL
local macro_rules | `(tactic| walk_at "hp") => `(tactic| first
  | assumption
  | exact upd_same
  | (refine Evl.Ex.new (by assumption) _ _ ?_; walk_at "hp")
  | (refine (by assumption : Evl.Ex _ _) _ _ ?_; walk_at "hp"))
local macro_rules | `(tactic| walk_at "sq") => `(tactic| first
  | assumption
  | exact SqL.of (by walk_at "hp")
  | exact SqT.of (by walk_at "hp")
  | (refine Evl.ex_l (by assumption) ?_; walk_at "sq")
  | (refine Evl.ex_t (by assumption) ?_; walk_at "sq")
  | (refine Evl.ex_l (Evl.Ex.new (by assumption)) ?_; walk_at "sq")
  | (refine Evl.ex_t (Evl.Ex.new (by assumption)) ?_; walk_at "sq"))
local macro_rules | `(tactic| walk_at "ex") => `(tactic| first
  | assumption
  | exact Evl.Ex.refl _
  | (refine Evl.Ex.trans ?_ (Evl.Ex.new (by assumption)); walk_at "ex")
  | (refine Evl.Ex.trans ?_ (by assumption); walk_at "ex"))
local macro_rules | `(tactic| walk_at "s1") => `(tactic| first
  | refine ⟨_, rfl, ?_⟩
  | refine ⟨rfl, ?_⟩
  | refine ⟨_, _, rfl, rfl, ?_⟩
  | refine ⟨_, _, _, rfl, rfl, ?_⟩)
local macro_rules | `(tactic| walk_at "st") => `(tactic| repeat walk_at "s1")
local macro_rules | `(tactic| walk_at "v1") => `(tactic| first
  | ((with_reducible refine' s_var ?vch ?_); (case vch => exact rfl))
  | with_reducible refine' s_c ?_
  | with_reducible refine' s_seq ?_
  | with_reducible refine' s_asg ?_
  | with_reducible refine' s_name ?_
  | with_reducible refine' s_cons ?_
  | with_reducible refine' s_nil ?_
  | with_reducible refine' s_op ?_
  | with_reducible refine' s_rI0 ?_
  | with_reducible refine' s_ret ?_
  | with_reducible refine' s_test ?_
  | with_reducible refine' s_ifS ?_
  | with_reducible refine' s_call ?_
  | with_reducible refine' s_cb ?_
  | ((with_reducible refine' s_rEq ?vch ?_); (case vch => exact rfl))
  | ((with_reducible refine' s_rNe ?vch ?_); (case vch => exact rfl))
  | ((with_reducible refine' s_ixT ?vch ?vca ?_); (case vch => walk_at "sq"); (case vca => first | exact rfl | exact at_nat 0 rfl | exact at_nat 1 rfl | exact at_nat 2 rfl | exact at_nat 3 rfl | exact at_nat 4 rfl))
  | ((with_reducible refine' s_ixL ?vch ?vca ?_); (case vch => walk_at "sq"); (case vca => first | exact rfl | exact at_nat 0 rfl | exact at_nat 1 rfl | exact at_nat 2 rfl | exact at_nat 3 rfl | exact at_nat 4 rfl))
  | with_reducible refine iteT' ?_
  | with_reducible refine iteF' ?_
  | with_reducible refine' ex_bl ?_
  | with_reducible refine' ex_int ?_
  | with_reducible refine' ex_str ?_
  | with_reducible refine' ex_int1 ?_
  | with_reducible refine' ex_str1 ?_
  | with_reducible refine' ex_int2 ?_
  | with_reducible refine' ex_pair ?_
  | with_reducible refine' s_un ?_
  | with_reducible refine' s_B ?_
  | with_reducible refine' s_andV ?_
  | with_reducible refine' s_orV ?_
  | with_reducible refine' s_notV ?_
  | with_reducible refine' s_and ?_
  | with_reducible refine' s_or ?_
  | with_reducible refine' s_not ?_
  | with_reducible refine' s_if ?_
  | with_reducible refine' s_chain ?_
  | with_reducible refine' s_next ?_
  | with_reducible refine' s_break ?_
  | with_reducible refine' s_cont ?_
  | with_reducible refine' s_drop ?_
  | with_reducible refine' s_retN ?_
  | with_reducible refine' s_par ?_
  | ((with_reducible refine' s_aug ?vch ?_); (case vch => exact rfl))
  | with_reducible refine' s_ip ?_
  | with_reducible refine' s_gcons ?_
  | with_reducible refine' s_gnil ?_
  | ((with_reducible refine' s_gtup ?vch ?vca ?_); (case vch => walk_at "sq"); (case vca => exact rfl))
  | with_reducible refine' s_tup ?_
  | with_reducible refine' s_lst ?_
  | with_reducible refine' s_sl ?_
  | with_reducible refine' s_part ?_
  | with_reducible refine' s_nopart ?_
  | with_reducible refine' s_fld ?_
  | with_reducible refine' s_make ?_
  | with_reducible refine' s_meth ?_
  | with_reducible refine' s_prop ?_
  | with_reducible refine' s_makeK ?_
  | with_reducible refine' s_gsub ?_
  | ((with_reducible refine' s_setL ?vch ?vca ?_); (case vch => walk_at "hp"); (case vca => exact rfl))
  | with_reducible refine' s_par3 ?_
  | with_reducible refine' ex_three ?_
  | with_reducible refine' s_star ?_
  | with_reducible refine' s_dnewK ?_
  | with_reducible refine' s_dsetd ?_
  | with_reducible refine' s_methR ?_
  | with_reducible refine' s_fldaug ?_
  | with_reducible refine' s_dictzip ?_
  | with_reducible refine' s_sfld ?_
  | with_reducible refine' s_bm ?_
  | with_reducible refine' s_bm0 ?_
  | with_reducible refine' s_m1 ?_
  | with_reducible refine' s_dget ?_
  | with_reducible refine' s_lc ?_
  | with_reducible refine' s_for ?_
  | with_reducible refine' s_iList ?_
  | with_reducible refine' s_iTup ?_
  | with_reducible refine' s_iStr ?_
  | with_reducible refine' s_iRng1 ?_
  | with_reducible refine' s_iRng2 ?_
  | with_reducible refine' s_yes ?_
  | with_reducible refine' s_rU ?_
  | ((with_reducible refine' s_isiP ?vch ?_); (case vch => exact rfl))
  | ((with_reducible refine' ex_lenL ?vch ?_); (case vch => walk_at "sq"))
  | ((with_reducible refine' ex_lenT ?vch ?_); (case vch => walk_at "sq"))
  | ((with_reducible refine' ex_tupL ?vch ?_); (case vch => walk_at "sq"))
  | ((with_reducible refine' ex_lstT ?vch ?_); (case vch => walk_at "sq"))
  | ((with_reducible refine' ex_srcL ?vch ?_); (case vch => walk_at "sq"))
  | ((with_reducible refine' ex_srcT ?vch ?_); (case vch => walk_at "sq"))
  | ((with_reducible refine' s_mk ?vch ?_); (case vch => exact small_le (Nat.le_of_ble_eq_true rfl)))
  | with_reducible refine' ⟨_, _, rfl, rfl, ?_⟩
  | with_reducible refine' ⟨⟨_, rfl⟩, ?_⟩
  | with_reducible refine' ⟨rfl, ?_⟩
  | ((with_reducible refine' iteT_of ?vch ?_); (case vch => exact rfl))
  | ((with_reducible refine' iteF_of ?vch ?_); (case vch => exact rfl)))
local macro_rules | `(tactic| walk_at "vc") => `(tactic| repeat walk_at "v1")
section
variable {P : Program} {w : World} {K : PySem.W.Frag} {mg : Str → Option Value} {base : Heap}
/-- a def that is called from outside -/
theorem fn_ok {N ps : List Str} {k : Nat} {sp : Sp} {x : Str} {st : Stmt} {f : Addr} {fd : FuncData} (F : FunD K x x (defArgs st) (defBody st) (defScope st) [] [] f fd) (S : FnScope N ps (defScope st)) (len : ∀ vs H Q E, sp vs H Q E → vs.length = ps.length)
    (hbody : ∀ (cdv : Value) (A : Around) (outer : List Env) (s : Shared) (H : Hp) (vs : List V) (Q : VK) (E : XK), Room k (A.deeper (envOfC x (defScope st) s.heap.objs.size f cdv)) → sp vs H Q E →
      ∃ t, PSs (cxOf CX0 P w K mg base N x (defScope st) f cdv A outer s H E).nox (defBody st) t ∧ t { nx := fun _ H' => Q .non H', rt := Q } (start N vs) H) : FnOk P w K mg base CX0 (k + 1) f fd ps sp := by
  refine F.ok S len fun cdv A outer s H vs Q E hr hs => ?_
  obtain ⟨t, h1, h2⟩ := hbody cdv A outer s H vs Q E hr hs
  exact ⟨t, h1.nox, h2⟩
def spLaw (K : PySem.W.Frag) : Sp := fun vs H Q _ => ∃ (a : Addr) (ns : List Int), vs = [.ref a] ∧ SqL K H a (ns.map V.int) ∧ ns.length ≤ 63 ∧ ∀ H', Q (.bl true) H'
theorem sc_law : FnScope ["_law_script", "_law_k"] ["_law_script"] (defScope s_law) := ⟨rfl, rfl, rfl, by decide +kernel, rfl, by decide +kernel, by decide +kernel⟩
theorem fn_law (Z : Zf K mg) {f : Addr} {fd : FuncData} (F : FunD K "law" "law" (defArgs s_law) (defBody s_law) (defScope s_law) [] [] f fd) : FnOk P w K mg base CX0 40 f fd ["_law_script"] (spLaw K) := by
  refine fn_ok F sc_law (fun vs H Q E h => ?_) (fun cdv A outer s H vs Q E hr h => ⟨_, (pss_one (ps_ret (pe_callB (cr_all rfl) (by rfl) (Z.free "all") (by decide +kernel) (pa_cons (pe_lc (own := [("_law_k", 1)]) (g := gName 1) (tt := tYes) rfl sc_law.nd (pi_range1 rfl (Z.free "range") (pa_cons (pe_callB (call_max2 rfl) (by rfl) (Z.free "max") (by decide +kernel) (pa_cons pe_int (pa_cons (pe_callB (call_min2 rfl) (by rfl) (Z.free "min") (by decide +kernel) (pa_cons (pe_callB call_lenL (by rfl) (Z.free "len") (by decide +kernel) (pa_cons (pv 0) pa_nil)) (pa_cons pe_int pa_nil))) pa_nil))) pa_nil)) (blkOk_by (own := [("_law_k", 1)]) (N := ["_law_script", "_law_k"]) (sc := defScope s_law) (by decide +kernel)) (fun _ _ _ _ _ => (pgn 1 sc_law.nd)) (fun _ _ _ _ _ => pts_nil) (fun _ _ _ _ _ => (pe_callD (D_z_right Z) hr (by omega) rfl (pa_cons (pe_callD (D_z_purse Z) hr (by omega) rfl (pa_cons (pv 0) (pa_cons (pv 1) pa_nil))) pa_nil)))) pa_nil)))), ?_⟩)
  · obtain ⟨a, ns, rfl, _⟩ := h
    rfl
  · obtain ⟨a, ns, rfl, ha, hl, k⟩ := h
    walk_at "vc"
    generalize hM : (if (if (3 : Int) < (((ns.map V.int).length : Nat) : Int) then (3 : Int) else (((ns.map V.int).length : Nat) : Int)) > 2 then (if (3 : Int) < (((ns.map V.int).length : Nat) : Int) then (3 : Int) else (((ns.map V.int).length : Nat) : Int)) else 2) = M
    have hM3 : 2 ≤ M ∧ M ≤ 3 := by
      rw [← hM]
      split <;> (try split) <;> omega
    refine ⟨by omega, by omega, ?_⟩
    refine lc_ex walk_range (j := 1) (fun i => V.int (0 + (i : Int))) (fun _ => true) (fun i v _ => v = V.bl true) (fun _ _ _ _ _ h => h) (fun i H x H' _ h => h) (fun _ _ => trivial) (by omega) (fun _ => rfl) ?_ ?_ ?_
    · intro i H2 _ _ Q1 k1
      exact k1 H2 (Evl.Ex.refl _)
    · intro i H2 hi _ e2 Q1 k1
      walk_at "vc"
      refine ⟨a, ns, i, by rw [Int.zero_add], Evl.ex_l e2 ha, hl, by omega, fun p H3 e3 np hp => ?_⟩
      walk_at "vc"
      refine ⟨p, (i : Int), rfl, hp, by omega, fun H4 e4 => ?_⟩
      have e34 : Ex H2 H4 := Evl.Ex.trans (hid_of_ex e3 fun b m => by rw [List.mem_singleton.mp m]; exact np) (Evl.Ex.trans e4 ex_hid)
      exact k1 _ _ e34 rfl
    · intro D ys H2 hD e2 hy hm
      have ey := Made.allVals hm
      walk_at "vc"
      refine ⟨D, List.replicate M.toNat true, rfl, SqL.of ?_, ?_⟩
      · rw [hy, ey, List.map_const', List.map_replicate, List.length_range]
      · have eq : (List.replicate M.toNat true).all id = true := by simp
        rw [eq]
        exact k H2
end
end Ov
/-! text OvEnd -/
set_option Elab.async false
set_option linter.all false
set_option maxRecDepth 100000
namespace Ov
open PySem PySem.Spec PyProof.Rows L2
theorem law_facts {P : Program} {w : World} {K : PySem.W.Frag} {h : Heap} {mg : Str → Option Value} {f : Addr} (X : K.In h) (G : h.Ns mainGlobals mg) (hfa : mg ("law" : Str) = some (.ref f)) (c : SaysO K) :
    ∃ fd : FuncData, (∀ (s : Shared) (v : Value), BindsTo s fd ⟨[v], []⟩ [("_law_script", v)]) ∧ ∀ base : Heap, K.In base → base.Ns mainGlobals mg → FnOk P w K mg base CX0 40 f fd ["_law_script"] (spLaw K) := by
  have Z : Zf K mg := ⟨⟨h, X, G⟩, c⟩
  obtain ⟨fd, F⟩ := Z.def_ 66 (d := d_law) rfl
  have e := hfa.symm.trans (Z.glo "law")
  cases e
  have b := FunD.bindsA (ps := ["_law_script"]) F fun _ _ _ _ _ _ us hl => match us, hl with | [_], _ => rfl
  exact ⟨fd, fun s v => b s [v] rfl, fun base _ _ => fn_law Z F⟩
end Ov
open PySem PySem.W PySem.Calls PyProof.Rows
set_option maxHeartbeats 0 in
theorem PySem.Challenge.cw_overlapturns_k62_whole_times_by_kinds_an_holds : PySem.Challenge.rw_overlapturns_k62_whole_times_by_kinds_an.Holds := by
  w_on; o_law
  refine HandSHeadRun.head_any (r := OpenLaw.row PySem.Challenge.rw_overlapturns_k62_whole_times_by_kinds_an) (q := view (OpenLaw.row PySem.Challenge.rw_overlapturns_k62_whole_times_by_kinds_an).prog [81]) (H := Ov.hk) (ob := Ov.ob) (M := 8000) (loose := Ov.loose) (d := HandSHeadRun.topDef (OpenLaw.row PySem.Challenge.rw_overlapturns_k62_whole_times_by_kinds_an).prog 81) (kwd := []) Ov.ob_eq
    (by kernel_rfl) (fun s => by kernel_rfl) Ov.run (by kernel_rfl) (by kernel_rfl) (by kernel_rfl) (by rfl) (by first | assumption | decide +kernel) (by decide +kernel) ⟨rfl, rfl, rfl, rfl, rfl, by decide +kernel⟩ ?hw ?hc
  case hw => w_witness2
  case hc =>
    refine L2.walk_ofE (l := PySem.Challenge.rw_overlapturns_k62_whole_times_by_kinds_an) (n := 63) (k := 40) (x := "_law_script") (CX := L2.CX0) rfl (by decide) (by kernel_rfl) ⟨rfl, by decide, by decide⟩ ?F (fun _ _ _ _ z => z)
    intro w mg fa h Y G hmg0
    obtain ⟨K, KX, c⟩ := Y
    have hmg : mg ("law" : PySem.Str) = some (.ref fa) := by
      have e : (HandSHeadRun.topDef (OpenLaw.row PySem.Challenge.rw_overlapturns_k62_whole_times_by_kinds_an).prog 81).name = ("law" : PySem.Str) := by kernel_rfl
      rw [← e]
      exact hmg0
    obtain ⟨fd, hb, hF⟩ := Ov.law_facts (P := (PySem.Challenge.rw_overlapturns_k62_whole_times_by_kinds_an).prog) (w := w) KX G hmg c
    exact ⟨K, fd, Ov.spLaw K, KX, hb, fun H a ns hl _ hS => ⟨a, ns, rfl, hS, hl, fun _ => rfl⟩, hF⟩
