import PyProof.Rows.All
import Wide.All
import OpenK.AllK
import Wide.FinOn
import PySem.Challenge.RW_unsaidsizes_k78_factors_of_polynomials
import HandS.ForMost
import HandS.Wide
import HandS.WideBits
import HandS.RevRange
import HandS.IsInst
import HandS.Codes
set_option linter.all false
/-! Polynomials as lists of integers, the lowest number first. Core Lean alone. -/
namespace PA
abbrev Pl := List Int
def trim : Pl → Pl
  | [] => []
  | a :: r => if trim r = [] ∧ a = 0 then [] else a :: trim r
theorem trim_of : ∀ (p : Pl) (s : Nat), s ≤ p.length → (∀ j, s ≤ j → j < p.length → p.getD j 0 = 0) → (s = 0 ∨ p.getD (s - 1) 0 ≠ 0) → trim p = p.take s
  | [], s, h, _, _ => by simp [trim]
  | a :: r, s, h, hz, hn => by
    cases s with
    | zero =>
      have hr : trim r = r.take 0 := trim_of r 0 (Nat.zero_le _) (fun j _ hj => by
        have := hz (j + 1) (Nat.zero_le _) (by simpa using hj)
        simpa using this) (.inl rfl)
      have ha : a = 0 := by simpa using hz 0 (Nat.le_refl _) (by simp)
      simp [trim, hr, ha]
    | succ s =>
      have hs : s ≤ r.length := by simpa using h
      have ht : ∀ j, s ≤ j → j < r.length → r.getD j 0 = 0 := fun j h1 h2 => by
        have := hz (j + 1) (by omega) (by simpa using h2)
        simpa using this
      cases s with
      | zero =>
        have hr : trim r = r.take 0 := trim_of r 0 (Nat.zero_le _) ht (.inl rfl)
        have ha : a ≠ 0 := by
          rcases hn with h | h
          · cases h
          · simpa using h
        simp [trim, hr, ha]
      | succ s =>
        have hn' : r.getD s 0 ≠ 0 := by
          rcases hn with h | h
          · cases h
          · simpa using h
        have hr : trim r = r.take (s + 1) := trim_of r (s + 1) hs ht (.inr (by simpa using hn'))
        have hl : (trim r).length = s + 1 := by
          rw [hr, List.length_take]
          omega
        have : trim r ≠ [] := by
          intro h
          rw [h] at hl
          simp at hl
        unfold trim
        rw [if_neg (fun h => this h.1), hr]
        rfl
theorem trim_len : ∀ p : Pl, (trim p).length ≤ p.length
  | [] => Nat.le_refl _
  | a :: r => by
    have := trim_len r
    unfold trim
    split
    · simp
    · simpa using this
/-- the sum, place by place -/
def addL : Pl → Pl → Pl
  | [], q => q
  | p, [] => p
  | a :: p, b :: q => (a + b) :: addL p q
theorem addL_nil (p : Pl) : addL p [] = p := by cases p <;> rfl
theorem addL_len : ∀ p q : Pl, (addL p q).length = max p.length q.length
  | [], q => by simp [addL]
  | a :: p, [] => by simp [addL]
  | a :: p, b :: q => by
    simp only [addL, List.length_cons, addL_len p q]
    omega
theorem addL_get : ∀ (p q : Pl) (k : Nat), (addL p q).getD k 0 = p.getD k 0 + q.getD k 0
  | [], q, k => by simp [addL]
  | a :: p, [], k => by simp [addL]
  | a :: p, b :: q, 0 => by simp [addL]
  | a :: p, b :: q, k + 1 => by simpa [addL] using addL_get p q k
def plusP (p q : Pl) : Pl := trim (addL p q)
def scaleP (p : Pl) (n : Int) : Pl := if n = 0 then [] else p.map (n * ·)
def raiseP (p : Pl) (k : Nat) : Pl := if p = [] then [] else List.replicate k 0 ++ p
end PA
namespace PA
/-! ### what the program's functions compute -/
def contP (p : Pl) : Int := p.foldl (fun c n => ((Int.gcd c n : Nat) : Int)) 0
def lastP (p : Pl) : Int := p.getD (p.length - 1) 0
def sgc (p : Pl) : Int := if lastP p < 0 then -contP p else contP p
def primP (p : Pl) : Pl := if contP p = 0 then [] else p.map (fun n => n.fdiv (sgc p))
def Fm (i j : Int) : Prop := i.natAbs.log2 + j.natAbs.log2 < 1000000
/-- one step of the division with rests -/
def stepRaw (left two : Pl) : Pl := plusP (scaleP left (lastP two)) (raiseP (scaleP two (-lastP left)) (left.length - two.length))
def stepP (left two : Pl) : Pl := primP (stepRaw left two)
structure StepFits (left two : Pl) : Prop where
  m1 : ∀ x ∈ left, Fm (lastP two) x
  m2 : ∀ x ∈ two, Fm (-lastP left) x
  c : (contP (stepRaw left two)).natAbs < 2 ^ 9000
  l1 : left.length ≤ 1000
  l2 : two.length ≤ 1000
inductive RemRun (two : Pl) : Nat → Pl → Pl → Prop
  | stop (left : Pl) : left.length < two.length → RemRun two 0 left left
  | step (n : Nat) (left res : Pl) : two.length ≤ left.length → StepFits left two → RemRun two n (stepP left two) res → RemRun two (n + 1) left res
structure PrimFits (p : Pl) : Prop where
  c : (contP p).natAbs < 2 ^ 9000
  l : p.length ≤ 1000
inductive GcdRun : Nat → Pl → Pl → Pl → Prop
  | stop (one : Pl) : GcdRun 0 one [] one
  | step (n k : Nat) (one two r g : Pl) : two ≠ [] → PrimFits one → RemRun two k (primP one) r → GcdRun n two r g → GcdRun (n + 1) one two g
/-- left less c times two, from the place k on -/
def subAt (left two : Pl) (k : Nat) (c : Int) : Pl := (List.range left.length).map fun i => if k ≤ i ∧ i < k + two.length then left.getD i 0 - c * two.getD (i - k) 0 else left.getD i 0
theorem subAt_len (left two : Pl) (k : Nat) (c : Int) : (subAt left two k c).length = left.length := by simp [subAt]
theorem subAt_get (left two : Pl) (k : Nat) (c : Int) (i : Nat) : (subAt left two k c).getD i 0 = if k ≤ i ∧ i < k + two.length ∧ i < left.length then left.getD i 0 - c * two.getD (i - k) 0 else left.getD i 0 := by
  unfold subAt
  rw [List.getD_eq_getElem?_getD, List.getElem?_map]
  by_cases h : i < left.length
  · rw [List.getElem?_range h]
    simp only [Option.map_some, Option.getD_some]
    by_cases h2 : k ≤ i ∧ i < k + two.length
    · rw [if_pos h2, if_pos ⟨h2.1, h2.2, h⟩]
    · rw [if_neg h2, if_neg (fun z => h2 ⟨z.1, z.2.1⟩)]
  · rw [List.getElem?_eq_none (by simpa using h), if_neg (fun z => h z.2.2)]
    simp [List.getD_eq_getElem?_getD, List.getElem?_eq_none (Nat.le_of_not_lt h)]
/-- the turns of divided: n are left -/
inductive DivRun (two : Pl) : Nat → Pl → Pl → Option (Pl × Pl) → Prop
  | done (left out : Pl) : DivRun two 0 left out (some (left, out))
  | none (n : Nat) (left out : Pl) : (left.getD (n + two.length - 1) 0).fmod (lastP two) ≠ 0 → DivRun two (n + 1) left out none
  | step (n : Nat) (left out : Pl) (res : Option (Pl × Pl)) : (left.getD (n + two.length - 1) 0).fmod (lastP two) = 0 →
      (∀ x ∈ two, Fm ((left.getD (n + two.length - 1) 0).fdiv (lastP two)) x) →
      DivRun two n (subAt left two n ((left.getD (n + two.length - 1) 0).fdiv (lastP two))) (out.set n ((left.getD (n + two.length - 1) 0).fdiv (lastP two))) res → DivRun two (n + 1) left out res
structure LeadFits (two : Pl) : Prop where
  ne : lastP two ≠ 0
  sm : (lastP two).natAbs < 2 ^ 9000
/-- what divided tells -/
inductive Divs (one two : Pl) : Option Pl → Prop
  | no : LeadFits two → one.length ≤ 1000 → two.length ≤ 1000 → DivRun two (one.length + 1 - two.length) one (List.replicate (one.length + 1 - two.length) 0) none → Divs one two none
  | rest (left out : Pl) : LeadFits two → one.length ≤ 1000 → two.length ≤ 1000 → DivRun two (one.length + 1 - two.length) one (List.replicate (one.length + 1 - two.length) 0) (some (left, out)) → (∃ x ∈ left, x ≠ 0) → Divs one two none
  | yes (left out : Pl) : LeadFits two → one.length ≤ 1000 → two.length ≤ 1000 → DivRun two (one.length + 1 - two.length) one (List.replicate (one.length + 1 - two.length) 0) (some (left, out)) → (∀ x ∈ left, x = 0) → Divs one two (some out)
inductive Often (two : Pl) : Nat → Pl → Prop
  | stop (one : Pl) : Divs one two none → Often two 0 one
  | step (n : Nat) (one q : Pl) : Divs one two (some q) → Often two n q → Often two (n + 1) one
def derP (p : Pl) : Pl := (List.range (p.length - 1)).map fun (k : Nat) => ((k : Int) + 1) * p.getD (k + 1) 0
theorem ext_getD {p q : Pl} (hl : p.length = q.length) (h : ∀ j, p.getD j 0 = q.getD j 0) : p = q := by
  apply List.ext_getElem hl
  intro j h1 h2
  have := h j
  rw [List.getD_eq_getElem?_getD, List.getD_eq_getElem?_getD, List.getElem?_eq_getElem h1, List.getElem?_eq_getElem h2] at this
  exact this
theorem trim_zero : ∀ {q : Pl}, (∀ t, q.getD t 0 = 0) → trim q = []
  | [], _ => rfl
  | a :: r, h => by
    have h1 : a = 0 := by simpa using h 0
    have h2 : trim r = [] := trim_zero fun t => by simpa using h (t + 1)
    simp [trim, h1, h2]
theorem trim_ext : ∀ {p q : Pl}, (∀ t, p.getD t 0 = q.getD t 0) → trim p = trim q
  | [], q, h => (trim_zero fun t => by rw [← h t]; rfl).symm
  | a :: p, [], h => trim_zero fun t => by rw [h t]; rfl
  | a :: p, b :: q, h => by
    have h1 : a = b := by simpa using h 0
    have h2 : trim p = trim q := trim_ext fun t => by simpa using h (t + 1)
    simp [trim, h1, h2]
theorem trim_get : ∀ (p : Pl) (t : Nat), (trim p).getD t 0 = p.getD t 0
  | [], t => rfl
  | a :: p, t => by
    have ih := trim_get p
    unfold trim
    split
    · rename_i h
      have hz : ∀ t, p.getD t 0 = 0 := fun t => by
        rw [← ih t, h.1]
        rfl
      cases t with
      | zero => simp [h.2]
      | succ t => simpa using (hz t).symm
    · cases t with
      | zero => rfl
      | succ t => simpa using ih t
/-! ### products -/
def mulL : Pl → Pl → Pl
  | [], _ => []
  | a :: p, q => addL (q.map (a * ·)) (0 :: mulL p q)
def mulP (p q : Pl) : Pl := trim (mulL p q)
theorem getD_map_mul (a : Int) (q : Pl) (t : Nat) : (q.map (a * ·)).getD t 0 = a * q.getD t 0 := by
  rw [List.getD_eq_getElem?_getD, List.getD_eq_getElem?_getD, List.getElem?_map]
  cases q[t]? <;> simp
theorem mulL_row : ∀ (xs ys : Pl) (i t : Nat), i < xs.length → (mulL (xs.take (i + 1)) ys).getD t 0 = (mulL (xs.take i) ys).getD t 0 + if i ≤ t ∧ t < i + ys.length then xs.getD i 0 * ys.getD (t - i) 0 else 0
  | [], ys, i, t, h => by simp at h
  | a :: p, ys, 0, t, _ => by
    have e1 : (mulL ((a :: p).take (0 + 1)) ys).getD t 0 = a * ys.getD t 0 := by
      show (addL (ys.map (a * ·)) (0 :: mulL (p.take 0) ys)).getD t 0 = _
      rw [addL_get, getD_map_mul]
      cases t <;> simp [mulL]
    rw [e1]
    show _ = (mulL [] ys).getD t 0 + _
    by_cases h : t < ys.length
    · rw [if_pos (by omega)]
      simp [mulL]
    · rw [if_neg (by omega), List.getD_eq_getElem?_getD, List.getElem?_eq_none (by omega)]
      simp [mulL]
  | a :: p, ys, i + 1, t, h => by
    have ih := mulL_row p ys i
    show (addL (ys.map (a * ·)) (0 :: mulL (p.take (i + 1)) ys)).getD t 0 = (addL (ys.map (a * ·)) (0 :: mulL (p.take i) ys)).getD t 0 + _
    rw [addL_get, addL_get]
    cases t with
    | zero =>
      rw [if_neg (by omega)]
      simp
    | succ t =>
      have := ih t (by simpa using h)
      have e1 : (0 :: mulL (p.take (i + 1)) ys).getD (t + 1) 0 = (mulL (p.take (i + 1)) ys).getD t 0 := by simp
      have e2 : (0 :: mulL (p.take i) ys).getD (t + 1) 0 = (mulL (p.take i) ys).getD t 0 := by simp
      have e3 : (a :: p).getD (i + 1) 0 = p.getD i 0 := by simp
      rw [e1, e2, e3, this, show t + 1 - (i + 1) = t - i by omega]
      by_cases h : i ≤ t ∧ t < i + ys.length
      · rw [if_pos h, if_pos (by omega)]
        omega
      · rw [if_neg h, if_neg (by omega)]
        omega
/-! ### the law's own common factor -/
def DvOk (i j : Int) : Prop := j ≠ 0 ∧ (j.natAbs < 2 ^ 9000 ∨ ∃ q : Int, i = j * q ∧ q.natAbs < 2 ^ 4400)
structure LowOk (p : Pl) : Prop where
  l : p.length ≤ 1000
  s : ∀ x ∈ p, x.natAbs < 2 ^ 1000000
  c : p ≠ [] → contP p ≠ 0
  d : ∀ x ∈ p, DvOk x (sgc p)
/-- n turns are left -/
inductive LRem (two : Pl) : Nat → Pl → Pl → Prop
  | stop (n : Nat) (left : Pl) : left.length < two.length → LRem two n left left
  | step (n : Nat) (left res : Pl) : two.length ≤ left.length → left.length ≤ 1000 → (∀ x ∈ left, Fm (lastP two) x) → (∀ x ∈ two, Fm (lastP left) x) → LRem two n (stepRaw left two) res → LRem two (n + 1) left res
inductive LGcd : Nat → Pl → Pl → Pl → Prop
  | stop (n : Nat) (one : Pl) : LGcd n one [] one
  | step (n : Nat) (one two rest g : Pl) : two ≠ [] → one.length ≤ 1000 → two.length ≤ 1000 → LRem two (one.length + 1) one rest → LowOk rest → LGcd n two (primP rest) g → LGcd (n + 1) one two g
theorem scale_get (p : Pl) (n : Int) (t : Nat) : (scaleP p n).getD t 0 = n * p.getD t 0 := by
  unfold scaleP
  split
  · rename_i h
    subst h
    simp
  · exact getD_map_mul n p t
theorem raise_get (p : Pl) (k t : Nat) : (raiseP p k).getD t 0 = if k ≤ t then p.getD (t - k) 0 else 0 := by
  unfold raiseP
  split
  · rename_i h
    subst h
    simp
  · rw [List.getD_eq_getElem?_getD]
    by_cases h : k ≤ t
    · rw [List.getElem?_append_right (by simpa using h), List.length_replicate, if_pos h, List.getD_eq_getElem?_getD]
    · rw [List.getElem?_append_left (by simp; omega), if_neg h, List.getElem?_replicate]
      split <;> rfl
theorem stepRaw_get (left two : Pl) (t : Nat) : (stepRaw left two).getD t 0 = lastP two * left.getD t 0 + if left.length - two.length ≤ t then -lastP left * two.getD (t - (left.length - two.length)) 0 else 0 := by
  unfold stepRaw plusP
  rw [trim_get, addL_get, scale_get, raise_get]
  split
  · rw [scale_get]
  · rfl
theorem trim_trim (p : Pl) : trim (trim p) = trim p := trim_ext fun t => trim_get p t
/-! ### products of the menu's factors -/
def menu : List Pl := [[0, 1], [1, 1], [-2, 1], [3, 2], [1, 0, 1], [1, 1, 1], [2, 0, 1], [-2, 0, 0, 1]]
def powP (p f : Pl) : Nat → Pl
  | 0 => p
  | n + 1 => mulP (powP p f n) f
def builtP (c : Int) (es : List Nat) : Nat → Pl
  | 0 => [c]
  | t + 1 => powP (builtP c es t) (menu.getD t []) (es.getD t 0)
structure BFits (c : Int) (es : List Nat) : Prop where
  l : es.length = 8
  e : ∀ e ∈ es, e ≤ 1000
  f : ∀ t j, t < 8 → j < es.getD t 0 → (powP (builtP c es t) (menu.getD t []) j).length ≤ 1000 ∧ ∀ x ∈ powP (builtP c es t) (menu.getD t []) j, x.natAbs < 2 ^ 1000
/-! ### what the law's first half needs -/
def mn (a b : List Nat) : List Nat := (List.range 8).map fun t => min (a.getD t 0) (b.getD t 0)
def mn1 (a : List Nat) : List Nat := (List.range 8).map fun t => min 1 (a.getD t 0)
def sb (a b : List Nat) : List Nat := (List.range 8).map fun t => a.getD t 0 - b.getD t 0
def cnt (a b : List Nat) : List Nat := ((List.range 8).filter fun t => decide (0 < b.getD t 0)).map fun t => a.getD t 0 / b.getD t 0
structure Shw (p : Pl) : Prop where
  l : p.length ≤ 60
  s : ∀ x ∈ p, x.natAbs < 2 ^ 150
structure PTFacts (c1 c2 : Int) (mine other few : List Nat) : Prop where
  b1 : BFits c1 mine
  b2 : BFits c2 other
  b3 : BFits 1 few
  b4 : BFits 1 mine
  b5 : BFits 1 (mn mine other)
  b6 : BFits 1 (mn1 mine)
  s1 : Shw (builtP c1 mine 8)
  s2 : Shw (builtP c2 other 8)
  s3 : Shw (builtP 1 few 8)
  p1 : PrimFits (builtP c1 mine 8)
  p2 : PrimFits (builtP c2 other 8)
  pe : primP (builtP c1 mine 8) = builtP 1 mine 8
  pl : PrimFits (builtP 1 mine 8)
  pn : builtP 1 mine 8 ≠ []
  on : builtP c1 mine 8 ≠ []
  g1 : ∃ n, GcdRun n (builtP 1 mine 8) (primP (builtP c2 other 8)) (builtP 1 (mn mine other) 8)
  pd : PrimFits (derP (builtP 1 mine 8))
  fm : ∀ k : Nat, k < (builtP 1 mine 8).length → Fm ((k : Int) + 1) ((builtP 1 mine 8).getD (k + 1) 0)
  pi : primP (builtP 1 mine 8) = builtP 1 mine 8
  sq : ∃ n g, GcdRun n (builtP 1 mine 8) (primP (derP (builtP 1 mine 8))) g ∧ Divs (builtP 1 mine 8) g (some (builtP 1 (mn1 mine) 8))
  la : (lastP (builtP c1 mine 8)).fdiv (lastP (builtP 1 mine 8)) = c1
  lz : lastP (builtP 1 mine 8) ≠ 0
  lb : (lastP (builtP 1 mine 8)).natAbs < 2 ^ 9000
  du : (∀ t, t < 8 → few.getD t 0 ≤ mine.getD t 0) → BFits c1 (sb mine few) ∧ Divs (builtP c1 mine 8) (builtP 1 few 8) (some (builtP c1 (sb mine few) 8))
  dn : ¬ (∀ t, t < 8 → few.getD t 0 ≤ mine.getD t 0) → Divs (builtP c1 mine 8) (builtP 1 few 8) none
  of : cnt mine few ≠ [] → ∃ n, Often (builtP 1 few 8) n (builtP c1 mine 8) ∧ n ∈ cnt mine few ∧ ∀ y ∈ cnt mine few, n ≤ y
  ls : (builtP 1 (mn mine other) 8).length ≤ 1000
  lq : (builtP 1 (mn1 mine) 8).length ≤ 1000
  om : ∀ t, t < 8 → Often (menu.getD t []) (mine.getD t 0) (builtP c1 mine 8)
/-! ### what the law's second half needs -/
structure OT2 (one two g : Pl) : Prop where
  ne : g ≠ []
  pr : primP g = g
  lo : LowOk g
  d : ∃ q1 q2 h : Pl, Divs one g (some q1) ∧ Divs two g (some q2) ∧ q1.length ≤ 100 ∧ q2.length ≤ 100 ∧ (∀ x ∈ q1, ∀ y ∈ g, Fm x y) ∧ (∀ x ∈ q2, ∀ y ∈ g, Fm x y) ∧ mulP q1 g = one ∧ mulP q2 g = two ∧
    LowOk q1 ∧ LowOk q2 ∧ LGcd ((primP q1).length + (primP q2).length + 2) (primP q1) (primP q2) h ∧ h.length = 1
structure OTFacts (one two : Pl) : Prop where
  l1 : one.length ≤ 100
  l2 : two.length ≤ 100
  p1 : PrimFits one
  p2 : PrimFits two
  g : ∃ (g : Pl) (n m : Nat), GcdRun n (primP one) (primP two) g ∧ GcdRun m (primP two) (primP one) g ∧ (one = [] → two = [] → g = []) ∧ (¬ (one = [] ∧ two = []) → OT2 one two g)
  dv : ∀ u v : Int, 1 ≤ u → u ≤ 5 → 1 ≤ v → v ≤ 3 → LowOk [u, v] ∧ ∃ o, Divs one (primP [u, v]) o
end PA

set_option Elab.async false
set_option linter.all false
set_option maxRecDepth 100000
set_option maxHeartbeats 4000000
/-! k78, base: the text by places, scopes, the globals' facts, own rules -/
namespace K78
open PySem PySem.Spec PyProof.Rows L2
def topS (i : Nat) : Stmt := PySem.Challenge.pw_unsaidsizes_k78_factors_of_polynomials.main.body.getD i (.Pass ⟨0, 0, 0, 0⟩)
abbrev s_trimmed : Stmt := topS 1
theorem sc_trimmed : FnScope ["numbers", "size"] ["numbers"] (defScope s_trimmed) := ⟨rfl, rfl, rfl, by decide +kernel, rfl, by decide +kernel, by decide +kernel⟩
abbrev s_plus : Stmt := topS 2
theorem sc_plus : FnScope ["one", "two", "size", "total", "k"] ["one", "two"] (defScope s_plus) := ⟨rfl, rfl, rfl, by decide +kernel, rfl, by decide +kernel, by decide +kernel⟩
abbrev s_scaled : Stmt := topS 3
theorem sc_scaled : FnScope ["one", "number", "part"] ["one", "number"] (defScope s_scaled) := ⟨rfl, rfl, rfl, by decide +kernel, rfl, by decide +kernel, by decide +kernel⟩
abbrev s_raised : Stmt := topS 4
theorem sc_raised : FnScope ["one", "k"] ["one", "k"] (defScope s_raised) := ⟨rfl, rfl, rfl, by decide +kernel, rfl, by decide +kernel, by decide +kernel⟩
abbrev s_common_divisor : Stmt := topS 6
theorem sc_common_divisor : FnScope ["one", "two"] ["one", "two"] (defScope s_common_divisor) := ⟨rfl, rfl, rfl, by decide +kernel, rfl, by decide +kernel, by decide +kernel⟩
abbrev s_primitive : Stmt := topS 8
theorem sc_primitive : FnScope ["one", "common", "number"] ["one"] (defScope s_primitive) := ⟨rfl, rfl, rfl, by decide +kernel, rfl, by decide +kernel, by decide +kernel⟩
abbrev s_remainder : Stmt := topS 9
theorem sc_remainder : FnScope ["one", "two", "left", "part"] ["one", "two"] (defScope s_remainder) := ⟨rfl, rfl, rfl, by decide +kernel, rfl, by decide +kernel, by decide +kernel⟩
abbrev s_gcd : Stmt := topS 10
theorem sc_gcd : FnScope ["one", "two"] ["one", "two"] (defScope s_gcd) := ⟨rfl, rfl, rfl, by decide +kernel, rfl, by decide +kernel, by decide +kernel⟩
abbrev s_divided : Stmt := topS 11
theorem sc_divided : FnScope ["one", "two", "left", "many", "out", "k", "number", "at"] ["one", "two"] (defScope s_divided) := ⟨rfl, rfl, rfl, by decide +kernel, rfl, by decide +kernel, by decide +kernel⟩
abbrev s_often : Stmt := topS 12
theorem sc_often : FnScope ["one", "two", "many", "left"] ["one", "two"] (defScope s_often) := ⟨rfl, rfl, rfl, by decide +kernel, rfl, by decide +kernel, by decide +kernel⟩
abbrev s_squarefree : Stmt := topS 13
theorem sc_squarefree : FnScope ["one", "own", "k"] ["one"] (defScope s_squarefree) := ⟨rfl, rfl, rfl, by decide +kernel, rfl, by decide +kernel, by decide +kernel⟩
abbrev s_law_draws : Stmt := topS 15
theorem sc_law_draws : FnScope ["script", "draws", "k", "rest", "turn", "mixed"] ["script"] (defScope s_law_draws) := ⟨rfl, rfl, rfl, by decide +kernel, rfl, by decide +kernel, by decide +kernel⟩
abbrev s_law_mix : Stmt := topS 16
theorem sc_law_mix : FnScope ["draws", "k", "many", "value"] ["draws", "k", "many"] (defScope s_law_mix) := ⟨rfl, rfl, rfl, by decide +kernel, rfl, by decide +kernel, by decide +kernel⟩
abbrev s_law_trimmed : Stmt := topS 17
theorem sc_law_trimmed : FnScope ["numbers", "size", "turn"] ["numbers"] (defScope s_law_trimmed) := ⟨rfl, rfl, rfl, by decide +kernel, rfl, by decide +kernel, by decide +kernel⟩
abbrev s_law_times : Stmt := topS 18
theorem sc_law_times : FnScope ["one", "two", "out", "i", "j"] ["one", "two"] (defScope s_law_times) := ⟨rfl, rfl, rfl, by decide +kernel, rfl, by decide +kernel, by decide +kernel⟩
abbrev s_law_divisor : Stmt := topS 19
theorem sc_law_divisor : FnScope ["row", "found", "number", "other", "turn", "rest"] ["row"] (defScope s_law_divisor) := ⟨rfl, rfl, rfl, by decide +kernel, rfl, by decide +kernel, by decide +kernel⟩
abbrev s_law_lowest : Stmt := topS 20
theorem sc_law_lowest : FnScope ["one", "divisor", "number"] ["one"] (defScope s_law_lowest) := ⟨rfl, rfl, rfl, by decide +kernel, rfl, by decide +kernel, by decide +kernel⟩
abbrev s_law_common : Stmt := topS 21
theorem sc_law_common : FnScope ["one", "two", "turn", "rest", "step", "gap", "lead", "k", "number"] ["one", "two"] (defScope s_law_common) := ⟨rfl, rfl, rfl, by decide +kernel, rfl, by decide +kernel, by decide +kernel⟩
abbrev s_law_divided : Stmt := topS 22
theorem sc_law_divided : FnScope ["one", "two", "rest", "out", "turn", "k", "lead", "at"] ["one", "two"] (defScope s_law_divided) := ⟨rfl, rfl, rfl, by decide +kernel, rfl, by decide +kernel, by decide +kernel⟩
abbrev s_law_is_list : Stmt := topS 23
theorem sc_law_is_list : FnScope ["told", "n"] ["told"] (defScope s_law_is_list) := ⟨rfl, rfl, rfl, by decide +kernel, rfl, by decide +kernel, by decide +kernel⟩
abbrev s_law_menu : Stmt := topS 24
theorem sc_law_menu : FnScope [] [] (defScope s_law_menu) := ⟨rfl, rfl, rfl, by decide +kernel, rfl, by decide +kernel, by decide +kernel⟩
abbrev s_law_built : Stmt := topS 25
theorem sc_law_built : FnScope ["number", "powers", "out", "t", "turn"] ["number", "powers"] (defScope s_law_built) := ⟨rfl, rfl, rfl, by decide +kernel, rfl, by decide +kernel, by decide +kernel⟩
abbrev s_law_powers : Stmt := topS 26
theorem sc_law_powers : FnScope ["draws", "k", "most", "t"] ["draws", "k", "most"] (defScope s_law_powers) := ⟨rfl, rfl, rfl, by decide +kernel, rfl, by decide +kernel, by decide +kernel⟩
abbrev s_law_number : Stmt := topS 27
theorem sc_law_number : FnScope ["draws", "k", "number"] ["draws", "k"] (defScope s_law_number) := ⟨rfl, rfl, rfl, by decide +kernel, rfl, by decide +kernel, by decide +kernel⟩
abbrev s_law_any : Stmt := topS 28
theorem sc_law_any : FnScope ["draws", "k", "most", "t"] ["draws", "k"] (defScope s_law_any) := ⟨rfl, rfl, rfl, by decide +kernel, rfl, by decide +kernel, by decide +kernel⟩
abbrev s_law_powers_told : Stmt := topS 29
theorem sc_law_powers_told : FnScope ["draws", "mine", "other", "few", "one", "two", "part", "plain", "shared", "kept", "turn", "told", "row", "due", "found", "counts", "t"] ["draws"] (defScope s_law_powers_told) := ⟨rfl, rfl, rfl, by decide +kernel, rfl, by decide +kernel, by decide +kernel⟩
abbrev s_law_others_told : Stmt := topS 30
theorem sc_law_others_told : FnScope ["draws", "shared", "one", "two", "told", "first", "second", "part"] ["draws"] (defScope s_law_others_told) := ⟨rfl, rfl, rfl, by decide +kernel, rfl, by decide +kernel, by decide +kernel⟩
abbrev s_law : Stmt := topS 31
theorem sc_law : FnScope ["script", "draws"] ["script"] (defScope s_law) := ⟨rfl, rfl, rfl, by decide +kernel, rfl, by decide +kernel, by decide +kernel⟩
/-- a def of the module: where it stands, its global, how its arguments bind -/
structure Df (K : PySem.W.Frag) (mg : Str → Option Value) (x : Str) (st : Stmt) (ps : List Str) (f : Addr) (fd : FuncData) : Prop where
  F : Fun K x x st f fd
  g : mg x = some (.ref f)
  b : Binds K fd ps []
/-- the built-ins that the text uses are not shadowed -/
structure Bl (mg : Str → Option Value) : Prop where
  len_ : mg "len" = none
  range_ : mg "range" = none
  abs_ : mg "abs" = none
  max_ : mg "max" = none
  min_ : mg "min" = none
  list_ : mg "list" = none
  int_ : mg "int" = none
  bool_ : mg "bool" = none
  any_ : mg "any" = none
  reversed_ : mg "reversed" = none
  isinstance_ : mg "isinstance" = none
  repr_ : mg "repr" = none
/-- // where the divisor is not 0 and C's quick division is not asked -/
def CDivG (i j : Int) : Prop := j ≠ 0 ∧ Builtin.divisionGoesByPylong i j = false
section
variable {X : Cx}
theorem op_fdivG : OpR X (binaryOp .FloorDiv) (rI CDivG fun i j => .int (i.fdiv j)) :=
  opI fun i j _ _ _ _ _ hc q => floordiv_int hc.1 q (.inl hc.2)
end
theorem divG {i j : Int} (h : j ≠ 0) (h9 : j.natAbs < 2 ^ 9000) : CDivG i j :=
  ⟨h, PyProof.noPylong_of_log2 (PySem.Flt.log2_lt_of (by decide) h9)⟩
theorem mulG {i j : Int} {a b : Nat} (ha : i.natAbs < 2 ^ a) (hb : j.natAbs < 2 ^ b) (h0 : 0 < a) (h1 : 0 < b) (h : a + b ≤ 1000000) : CMulW i j :=
  wide_mul ha hb h0 h1 h
/-- an upd at a new place keeps what was tracked -/
theorem same_new {H : Hp} {p : Addr} {o : HO} (h : H p = none) : Same H (upd H p o) := fun b x e => by
  rw [upd_ne (ne_of_none e h)]
  exact e
theorem same_mut {H H' : Hp} {p : Addr} {o : HO} (e : Same H H') (h : H p = none) : Same H (upd H' p o) := fun b x z => by
  rw [upd_ne (ne_of_none z h)]
  exact e _ _ z
theorem lst_of {K : PySem.W.Frag} {H : Hp} {a : Addr} {xs : List V} (h : H a = some (.lst xs)) : SqL K H a xs := .inl (.inl h)
abbrev IL (xs : List Int) : List V := xs.map V.int
theorem il_len (xs : List Int) : (IL xs).length = xs.length := List.length_map _
theorem il_get {xs : List Int} {j : Nat} (h : j < xs.length) : (IL xs)[j]? = some (.int (xs.getD j 0)) := by
  rw [List.getElem?_map, List.getElem?_eq_getElem h, List.getD_eq_getElem?_getD, List.getElem?_eq_getElem h]
  rfl
theorem il_at {xs : List Int} {z : Int} {j : Nat} (e : z = (j : Int)) (h : j < xs.length) : atI (IL xs) z = some (.int (xs.getD j 0)) :=
  at_of e (il_get h)
theorem sz_small {n : Nat} (h : n ≤ 100000) : n ≤ sizeLine := Nat.le_trans h (by decide)
theorem sz_lt {n : Nat} (h : n < 100000) : n < sizeLine := Nat.lt_of_lt_of_le h (by decide)
/-- the promise of a def: from lists of ints a new list of ints -/
def spNew (vs : List V) (H : Hp) (Q : VK) (r : List Int) : Prop := ∀ H' p, Same H H' → H p = none → H' p = some (.lst (IL r)) → Q (.ref p) H'
theorem il_set (T : List Int) (i : Nat) (z : Int) : (IL T).set i (.int z) = IL (T.set i z) := List.map_set.symm
theorem il_ix {T : List Int} {i : Nat} (h : i < T.length) : ixN (IL T).length (i : Int) = some i := by
  rw [il_len, ixN, if_pos (by omega), if_pos (by omega), Int.toNat_natCast]
theorem set_getD (T : List Int) (i j : Nat) (z : Int) : (T.set i z).getD j 0 = if i = j ∧ i < T.length then z else T.getD j 0 := by
  rw [List.getD_eq_getElem?_getD, List.getElem?_set]
  by_cases e : i = j
  · subst e
    by_cases h : i < T.length
    · rw [if_pos rfl, if_pos h, if_pos ⟨rfl, h⟩]
      rfl
    · rw [if_pos rfl, if_neg h, if_neg (fun z => h z.2), List.getD_eq_getElem?_getD, List.getElem?_eq_none (by omega)]
  · rw [if_neg e, if_neg (fun z => e z.1), ← List.getD_eq_getElem?_getD]
theorem getD_far {T : List Int} {j : Nat} (h : T.length ≤ j) : T.getD j 0 = 0 := by
  rw [List.getD_eq_getElem?_getD, List.getElem?_eq_none h]
  rfl
theorem rep_getD (n j : Nat) : (List.replicate n (0 : Int)).getD j 0 = 0 := by
  rw [List.getD_eq_getElem?_getD, List.getElem?_replicate]
  split <;> rfl
theorem rep_il (n : Nat) : (List.replicate n [V.int 0]).flatten = IL (List.replicate n 0) := by
  induction n with
  | zero => rfl
  | succ n ih =>
    rw [List.replicate_succ, List.flatten_cons, ih]
    rfl
theorem il_app (a b : List Int) : IL a ++ IL b = IL (a ++ b) := List.map_append.symm
theorem il_drop (a : List Int) (n : Nat) : (IL a).drop n = IL (a.drop n) := List.map_drop.symm
theorem il_take (a : List Int) (n : Nat) : (IL a).take n = IL (a.take n) := List.map_take.symm
theorem ne_new {H : Hp} {p l : Addr} {o : HO} (h : upd H p o l = none) : l ≠ p := fun e => by
  subst e
  rw [upd_same] at h
  cases h
/-! rules with the written part by name: for blocks of comprehensions -/
section
variable {X : Cx} {K : PySem.W.Frag}
theorem ix_listK (h : X.K = K := by rfl) : IxR X (rIxL K) := by
  subst h
  exact ix_list
theorem sl_listK (h : X.K = K := by rfl) : SlR X (rSlL K) := by
  subst h
  exact sl_list
theorem call_lenK (h : X.K = K := by rfl) : CallR X (.builtin "len") (fun xs H Q => ∃ p ys, xs = [.ref p] ∧ (SqL K H p ys ∨ SqT K H p ys) ∧ Q (.int ys.length) H) := by
  subst h
  exact call_len_seq
theorem call_isiK' (h : X.K = K := by rfl) : CallR X (.builtin "isinstance") (rIsi K) := by
  subst h
  exact call_isi
theorem op_eqDK (hu : X.A.units + 64 < cLine) (h : X.K = K := by rfl) : OpR X (compareOp .Eq) (rEqD K) := by
  subst h
  exact op_eqD hu
theorem op_neDK (hu : X.A.units + 64 < cLine) (h : X.K = K := by rfl) : OpR X (compareOp .NotEq) (rNeD K) := by
  subst h
  exact op_neD hu
end
end K78

set_option Elab.async false
set_option linter.all false
set_option maxRecDepth 100000
set_option maxHeartbeats 4000000
namespace K78
open PySem PySem.Spec PyProof.Rows L2 PA
section
variable {P : Program} {w : World} {K : PySem.W.Frag} {mg : Str → Option Value} {base : Heap}
/-! ### trimmed -/
def spTrimmed (K : PySem.W.Frag) : Sp := fun vs H Q _ => ∃ (a : Addr) (ns : List Int), vs = [.ref a] ∧ SqL K H a (IL ns) ∧ spNew vs H Q (trim ns)
theorem ok_trimmed {f : Addr} {fd : FuncData} (B : Bl mg) (D : Df K mg "trimmed" s_trimmed ["numbers"] f fd) : FnOk P w K mg base CX0 1 f fd ["numbers"] (spTrimmed K) := by
  refine D.F.ok sc_trimmed (fun vs H Q E h => ?_) (fun cdv A outer s H vs Q E hr h => ?_)
  · obtain ⟨a, ns, rfl, _⟩ := h
    rfl
  · obtain ⟨a, ns, rfl, hS, q⟩ := h
    refine ⟨_, (pss_cons (ps_set (i := 1) sc_trimmed.nd rfl (.inl rfl) (pe_callB (call_lenK (K := K)) (by rfl) B.len_ (by decide +kernel) (pa_cons (pv 0) pa_nil)))
 (pss_cons (ps_while PassesOwn.never (PW.pt (pw_and (pt_cmpR op_gt (pv 1) pe_int (nomark _)) (pw_and1 (pt_cmpR op_eq (pe_ix (ix_listK (K := K)) (pv 0) (pe_op op_sub (pv 1) pe_int) (fun _ _ => rfl)) pe_int (nomark _)))))
  (pss_one (ps_set (i := 1) sc_trimmed.nd rfl (.inl rfl) (pe_op op_sub (pv 1) pe_int))))
 (pss_one (ps_ret (pe_callTy call_list_of (by rfl) B.list_ (by decide +kernel) (pa_cons (pe_slice (sl_listK (K := K)) (pv 0) po_none (po_some (pv 1))) pa_nil)))))), ?_⟩
    refine ⟨.ref a, rfl, a, IL ns, rfl, .inl hS, ?_⟩
    refine ⟨fun m σ H' => ∃ t : Nat, m = t ∧ σ = [some (.ref a), some (.int t)] ∧ H' = H ∧ t ≤ ns.length ∧ ∀ j, t ≤ j → j < ns.length → ns.getD j 0 = 0,
      ⟨_, ns.length, rfl, by rw [il_len]; rfl, rfl, Nat.le_refl _, fun j h1 h2 => absurd h2 (by omega)⟩, ?_⟩
    rintro m σ H' ⟨t, rfl, rfl, rfl, hle, hz⟩
    refine ⟨_, rfl, _, _, rfl, rfl, _, rfl, ite2 (fun h1 => ?a) (fun h1 => ?b)⟩
    case' a =>
      have hm : 0 < m := by simpa using h1
      refine ⟨_, rfl, _, rfl, _, _, rfl, rfl, _, _, _, _, rfl, rfl, hS, il_at (j := m - 1) (by omega) (by omega), rfl, _, rfl, ite2 (fun h2 => ?go) (fun h2 => ?c)⟩
    case go =>
      refine ⟨_, fun _ _ h => h, _, rfl, _, _, rfl, rfl, m - 1, by omega, m - 1, rfl, ?_, rfl, by omega, fun j h3 h4 => ?_⟩
      · show [some (V.ref a), some (V.int (↑m - 1))] = _
        rw [show ((m - 1 : Nat) : Int) = (m : Int) - 1 by omega]
      · by_cases h5 : j = m - 1
        · subst h5
          simpa using h2
        · exact hz j (by omega) h4
    case' c => have hx : m = 0 ∨ ns.getD (m - 1) 0 ≠ 0 := .inr (by simpa using h2)
    case' b => have hx : m = 0 ∨ ns.getD (m - 1) 0 ≠ 0 := .inl (by simpa using h1)
    all_goals
      refine ⟨.ref a, rfl, _, rfl, _, rfl, a, IL ns, rfl, hS, fun p hp => ⟨p, _, rfl, .inl (lst_of upd_same), fun l hl => ?_⟩⟩
      have hlp : l ≠ p := fun e => by
        subst e
        rw [upd_same] at hl
        cases hl
      refine q _ l ((same_new hp).trans (same_new hl)) ((same_new hp).free hl) ?_
      rw [upd_same, trim_of ns m hle hz hx]
      have e1 : HT.sIx (IL ns).length 0 none = 0 := HT.sIx_none ..
      have e2 : HT.sIx (IL ns).length (IL ns).length (some (m : Int)) = m := by
        rw [HT.sIx_nat, il_len]
        omega
      show some (HO.lst (((IL ns).drop (HT.sIx (IL ns).length 0 none)).take (HT.sIx (IL ns).length (IL ns).length (some (m : Int)) - HT.sIx (IL ns).length 0 none))) = _
      rw [e1, e2, List.drop_zero, Nat.sub_zero, ← List.map_take]
/-! ### plus -/
def spPlus (K : PySem.W.Frag) : Sp := fun vs H Q _ => ∃ (a b : Addr) (xs ys : List Int), vs = [.ref a, .ref b] ∧ SqL K H a (IL xs) ∧ SqL K H b (IL ys) ∧ xs.length ≤ 10000 ∧ ys.length ≤ 10000 ∧ spNew vs H Q (plusP xs ys)
theorem ok_plus {f ft : Addr} {fd fdt : FuncData} (B : Bl mg) (D : Df K mg "plus" s_plus ["one", "two"] f fd) (D_trimmed : Df K mg "trimmed" s_trimmed ["numbers"] ft fdt) : FnOk P w K mg base CX0 2 f fd ["one", "two"] (spPlus K) := by
  have G_trimmed : FnOk P w K mg base CX0 1 ft fdt ["numbers"] (spTrimmed K) := ok_trimmed B D_trimmed
  refine D.F.ok sc_plus (fun vs H Q E h => ?_) (fun cdv A outer s H vs Q E hr h => ?_)
  · obtain ⟨a, b, xs, ys, rfl, _⟩ := h
    rfl
  · obtain ⟨a, b, xs, ys, rfl, hA, hB, lx, ly, q⟩ := h
    refine ⟨_, (pss_cons (ps_set (i := 2) sc_plus.nd rfl (.inl rfl) (pe_callB (call_max2 (by rfl)) (by rfl) B.max_ (by decide +kernel) (pa_cons (pe_callB (call_lenK (K := K)) (by rfl) B.len_ (by decide +kernel) (pa_cons (pv 0) pa_nil)) (pa_cons (pe_callB (call_lenK (K := K)) (by rfl) B.len_ (by decide +kernel) (pa_cons (pv 1) pa_nil)) pa_nil))))
 (pss_cons (ps_set (i := 3) sc_plus.nd rfl (.inl rfl) (pe_op op_rep (pe_lst (pa_cons pe_int pa_nil)) (pv 2)))
 (pss_cons (ps_for PassesOwn.never rfl (pi_range1 (by rfl) B.range_ (pa_cons (pe_callB (call_lenK (K := K)) (by rfl) B.len_ (by decide +kernel) (pa_cons (pv 0) pa_nil)) pa_nil)) (pg_name (i := 4) sc_plus.nd rfl (.inl rfl))
  (pss_one (ps_asg (pe_ix (ix_listK (K := K)) (pv 0) (pv 4) (fun _ _ => rfl)) (pg_sub (pv 3) (pv 4) set_list))))
 (pss_cons (ps_for PassesOwn.never rfl (pi_range1 (by rfl) B.range_ (pa_cons (pe_callB (call_lenK (K := K)) (by rfl) B.len_ (by decide +kernel) (pa_cons (pv 1) pa_nil)) pa_nil)) (pg_name (i := 4) sc_plus.nd rfl (.inl rfl))
  (pss_one (ps_asg (pe_op op_add (pe_ix (ix_listK (K := K)) (pv 3) (pv 4) (fun _ _ => rfl)) (pe_ix (ix_listK (K := K)) (pv 1) (pv 4) (fun _ _ => rfl))) (pg_sub (pv 3) (pv 4) set_list))))
 (pss_one (ps_ret (pe_call G_trimmed (hr.mono (by decide)) (by rfl) D_trimmed.g D_trimmed.F.kp D_trimmed.b .nil pass0 (pa_cons (pv 3) pa_nil)))))))), ?_⟩
    refine ⟨.ref a, rfl, a, IL xs, rfl, .inl hA, .ref b, rfl, b, IL ys, rfl, .inl hB, _, _, rfl, ?_⟩
    have em : (if ((IL ys).length : Int) > ((IL xs).length : Int) then ((IL ys).length : Int) else ((IL xs).length : Int)) = ((max xs.length ys.length : Nat) : Int) := by
      rw [il_len, il_len]
      split <;> omega
    rw [em]
    -- total = [0] * size
    refine ⟨Nat.succ_le_of_lt (by decide), fun p0 hp0 => ⟨_, rfl, p0, _, [.int 0], rfl, rfl, upd_same, by omega, by omega, ?_, fun p hp => ?_⟩⟩
    · show 1 * ((max xs.length ys.length : Nat) : Int).toNat ≤ sizeLine
      exact sz_small (by omega)
    have np : H p = none := (same_new hp0).free hp
    have e1 : ∀ n : Nat, (List.replicate ((n : Nat) : Int).toNat [V.int 0]).flatten = IL (List.replicate n 0) := fun n => by
      rw [Int.toNat_natCast]
      induction n with
      | zero => rfl
      | succ n ih =>
        rw [List.replicate_succ, List.flatten_cons, ih]
        rfl
    rw [e1]
    have sm : Same H (upd (upd H p0 (.lst [.int 0])) p (.lst (IL (List.replicate (max xs.length ys.length) 0)))) := (same_new hp0).trans (same_new hp)
    -- for k in range(len(one))
    refine ⟨.ref a, rfl, a, IL xs, rfl, .inl (sm.seq hA), _, rfl, by rw [il_len]; omega, by rw [il_len]; omega, ?_⟩
    refine for_range (fun i σ H' => ∃ y T, σ = [some (.ref a), some (.ref b), some (.int ((max xs.length ys.length : Nat) : Int)), some (.ref p), y] ∧ Same H H' ∧ H' p = some (.lst (IL T)) ∧ T.length = max xs.length ys.length ∧ ∀ j, T.getD j 0 = if j < i then xs.getD j 0 else 0)
      ⟨none, _, rfl, sm, upd_same, by rw [List.length_replicate], fun j => ?_⟩ (fun i σ H' hi h => ?_) (fun σ H' h => ?_)
    · rw [if_neg (Nat.not_lt_zero _), List.getD_eq_getElem?_getD, List.getElem?_replicate]
      split <;> rfl
    · obtain ⟨y, T, rfl, sm', hT, lT, gT⟩ := h
      rw [il_len, Int.toNat_natCast] at hi
      rw [Int.zero_add]
      refine ⟨.ref a, rfl, _, rfl, a, IL xs, _, _, rfl, rfl, sm'.seq hA, il_at rfl hi, .ref p, rfl, _, rfl, p, IL T, _, i, rfl, rfl, hT, ?_, _, T.set i (xs.getD i 0), rfl, same_mut sm' np, ?_, ?_, fun j => ?_⟩
      · rw [il_len, ixN, if_pos (by omega), if_pos (by omega), Int.toNat_natCast]
      · rw [upd_same, il_set]
      · rw [List.length_set, lT]
      · rw [List.getD_eq_getElem?_getD, List.getElem?_set]
        by_cases e : i = j
        · subst e
          rw [if_pos rfl, if_pos (by omega), if_pos (by omega)]
          rfl
        · rw [if_neg e, ← List.getD_eq_getElem?_getD, gT j]
          by_cases h : j < i
          · rw [if_pos h, if_pos (by omega)]
          · rw [if_neg h, if_neg (by omega)]
    · obtain ⟨y, T, rfl, sm', hT, lT, gT⟩ := h
      rw [il_len, Int.toNat_natCast] at gT
      have gT0 : ∀ j, T.getD j 0 = xs.getD j 0 := fun j => by
        rw [gT]
        split
        · rfl
        · rw [List.getD_eq_getElem?_getD, List.getElem?_eq_none (by omega)]
          rfl
      refine ⟨.ref b, rfl, b, IL ys, rfl, .inl (sm'.seq hB), _, rfl, by rw [il_len]; omega, by rw [il_len]; omega, ?_⟩
      refine for_range (fun i σ H' => ∃ y T, σ = [some (.ref a), some (.ref b), some (.int ((max xs.length ys.length : Nat) : Int)), some (.ref p), y] ∧ Same H H' ∧ H' p = some (.lst (IL T)) ∧ T.length = max xs.length ys.length ∧ ∀ j, T.getD j 0 = xs.getD j 0 + if j < i then ys.getD j 0 else 0)
        ⟨_, T, rfl, sm', hT, lT, fun j => ?_⟩ (fun i σ H' hi h => ?_) (fun σ H' h => ?_)
      · rw [if_neg (Nat.not_lt_zero _), gT0, Int.add_zero]
      · obtain ⟨y, T, rfl, sm', hT, lT, gT⟩ := h
        rw [il_len, Int.toNat_natCast] at hi
        rw [Int.zero_add]
        refine ⟨.ref p, rfl, _, rfl, p, IL T, _, _, rfl, rfl, lst_of hT, il_at rfl (by omega), .ref b, rfl, _, rfl, b, IL ys, _, _, rfl, rfl, sm'.seq hB, il_at rfl hi, _, _, rfl, rfl, .ref p, rfl, _, rfl, p, IL T, _, i, rfl, rfl, hT, ?_, _, T.set i (T.getD i 0 + ys.getD i 0), rfl, same_mut sm' np, ?_, ?_, fun j => ?_⟩
        · rw [il_len, ixN, if_pos (by omega), if_pos (by omega), Int.toNat_natCast]
        · rw [upd_same, il_set]
        · rw [List.length_set, lT]
        · rw [List.getD_eq_getElem?_getD, List.getElem?_set]
          by_cases e : i = j
          · subst e
            rw [if_pos rfl, if_pos (by omega), if_pos (by omega), Option.getD_some, gT, if_neg (by omega), Int.add_zero]
          · rw [if_neg e, ← List.getD_eq_getElem?_getD, gT j]
            by_cases h : j < i
            · rw [if_pos h, if_pos (by omega)]
            · rw [if_neg h, if_neg (by omega)]
      · obtain ⟨y, T, rfl, sm', hT, lT, gT⟩ := h
        rw [il_len, Int.toNat_natCast] at gT
        have eT : T = addL xs ys := ext_getD (by rw [lT, addL_len]) fun j => by
          rw [gT, addL_get]
          split
          · rfl
          · rw [show ys.getD j 0 = 0 by rw [List.getD_eq_getElem?_getD, List.getElem?_eq_none (by omega)]; rfl]
        subst eT
        exact ⟨.ref p, rfl, p, _, rfl, lst_of hT, fun H2 r s2 n2 h2 => q H2 r (sm'.trans s2) (sm'.free n2) h2⟩
/-! ### scaled -/
def spScaled (K : PySem.W.Frag) : Sp := fun vs H Q _ => ∃ (a : Addr) (xs : List Int) (n : Int), vs = [.ref a, .int n] ∧ SqL K H a (IL xs) ∧ xs.length ≤ 10000 ∧ (∀ x ∈ xs, Fm n x) ∧ spNew vs H Q (scaleP xs n)
theorem ok_scaled {f : Addr} {fd : FuncData} (B : Bl mg) (D : Df K mg "scaled" s_scaled ["one", "number"] f fd) : FnOk P w K mg base CX0 1 f fd ["one", "number"] (spScaled K) := by
  refine D.F.ok sc_scaled (fun vs H Q E h => ?_) (fun cdv A outer s H vs Q E hr h => ?_)
  · obtain ⟨a, xs, n, rfl, _⟩ := h
    rfl
  · obtain ⟨a, xs, n, rfl, hA, lx, hm, q⟩ := h
    refine ⟨_, (pss_cons (ps_if (pt_cmpR op_eq (pv 1) pe_int (nomark _))
  (pss_one (ps_ret (pe_lst pa_nil)))
  pss_nil)
 (pss_one (ps_ret (pe_lc (own := [("part", 2)]) (g := gName 2) (tt := tYes) (by rfl) sc_scaled.nd (pi_list (pv 0)) (blkOk_by (N := ["one", "number", "part"]) (sc := defScope s_scaled) (by decide +kernel)) (fun _ _ _ _ _ => (pg_name (i := 2) sc_scaled.nd rfl (.inl rfl))) (fun _ _ _ _ _ => pts_nil) (fun _ _ _ _ _ => (pe_op op_mulW (pv 1) (pv 2))))))), ?_⟩
    refine ⟨_, rfl, rfl, _, rfl, ite2 (fun h1 => ?_) (fun h1 => ?_)⟩
    · have e : n = 0 := by simpa using h1
      refine ⟨Nat.zero_le _, fun p hp => q _ p (same_new hp) hp ?_⟩
      rw [upd_same, scaleP, if_pos e]
      rfl
    · have e : n ≠ 0 := by simpa using h1
      refine ⟨.ref a, rfl, a, rfl, ⟨_, hA⟩, fun D hD => ?_⟩
      refine lc_list (xs := IL xs) (fun i H' => Same H H' ∧ H' D = some (.lst (IL ((xs.take i).map (n * ·))))) ⟨same_new hD, upd_same⟩ (fun i H' _ h => h.1.seq hA) (fun i x H' hx h => ?_) (fun H' h => ?_)
      · obtain ⟨sm, hL⟩ := h
        have hi : i < xs.length := by
          rw [← il_len xs]
          exact (List.getElem?_eq_some_iff.mp hx).1
        rw [il_get hi] at hx
        cases hx
        refine ⟨rfl, _, rfl, _, rfl, _, _, rfl, rfl, hm _ ?_, _, hL, ?_, same_mut sm hD, ?_⟩
        · rw [List.getD_eq_getElem?_getD, List.getElem?_eq_getElem hi]
          exact List.getElem_mem hi
        · rw [il_len, List.length_map, List.length_take]
          exact sz_lt (by omega)
        · rw [upd_same, List.take_add_one, List.getElem?_eq_getElem hi, List.getD_eq_getElem?_getD, List.getElem?_eq_getElem hi, List.map_append, ← il_app]
          rfl
      · obtain ⟨sm, hL⟩ := h
        refine q _ D sm hD ?_
        rw [hL, il_len, List.take_length, scaleP, if_neg e]
/-! ### raised -/
def spRaised (K : PySem.W.Frag) : Sp := fun vs H Q _ => ∃ (a : Addr) (xs : List Int) (k : Nat), vs = [.ref a, .int k] ∧ SqL K H a (IL xs) ∧ xs.length ≤ 10000 ∧ k ≤ 10000 ∧ spNew vs H Q (raiseP xs k)
theorem ok_raised {f : Addr} {fd : FuncData} (B : Bl mg) (D : Df K mg "raised" s_raised ["one", "k"] f fd) : FnOk P w K mg base CX0 1 f fd ["one", "k"] (spRaised K) := by
  refine D.F.ok sc_raised (fun vs H Q E h => ?_) (fun cdv A outer s H vs Q E hr h => ?_)
  · obtain ⟨a, xs, n, rfl, _⟩ := h
    rfl
  · obtain ⟨a, xs, k, rfl, hA, lx, lk, q⟩ := h
    refine ⟨_, (pss_cons (ps_if (pt_cmpR op_eq (pe_callB (call_lenK (K := K)) (by rfl) B.len_ (by decide +kernel) (pa_cons (pv 0) pa_nil)) pe_int (nomark _))
  (pss_one (ps_ret (pe_lst pa_nil)))
  pss_nil)
 (pss_one (ps_ret (pe_op op_cat (pe_op op_rep (pe_lst (pa_cons pe_int pa_nil)) (pv 1)) (pe_callTy call_list_of (by rfl) B.list_ (by decide +kernel) (pa_cons (pv 0) pa_nil)))))), ?_⟩
    refine ⟨.ref a, rfl, a, IL xs, rfl, .inl hA, rfl, _, rfl, ite2 (fun h1 => ?_) (fun h1 => ?_)⟩
    · have e : xs = [] := by
        cases xs with
        | nil => rfl
        | cons x r =>
          rw [il_len] at h1
          simp at h1
          omega
      refine ⟨Nat.zero_le _, fun p hp => q _ p (same_new hp) hp ?_⟩
      rw [upd_same, raiseP, if_pos e]
      rfl
    · have e : xs ≠ [] := fun z => by
        subst z
        exact h1 rfl
      refine ⟨Nat.succ_le_of_lt (by decide), fun p0 hp0 => ⟨_, rfl, p0, _, [.int 0], rfl, rfl, upd_same, by omega, by omega, ?_, fun p hp => ?_⟩⟩
      · show 1 * ((k : Nat) : Int).toNat ≤ sizeLine
        exact sz_small (by omega)
      have s1 := same_new (o := .lst [.int 0]) hp0
      rw [Int.toNat_natCast, rep_il]
      have s2 := same_new (o := .lst (IL (List.replicate k 0))) hp
      refine ⟨.ref a, rfl, a, IL xs, rfl, .inl (s2.seq (s1.seq hA)), fun l hl => ?_⟩
      have s3 := same_new (o := .lst (IL xs)) hl
      refine ⟨p, l, IL (List.replicate k 0), IL xs, rfl, rfl, ?_, upd_same, ?_, fun r hr => ?_⟩
      · rw [upd_ne (ne_new hl).symm, upd_same]
      · rw [il_len, il_len, List.length_replicate]
        exact sz_small (by omega)
      · refine q _ r (((s1.trans s2).trans s3).trans (same_new hr)) (s1.free (s2.free (s3.free hr))) ?_
        rw [upd_same, il_app, raiseP, if_neg e]
/-! ### common_divisor -/
def spCd : Sp := fun vs H Q _ => ∃ (i j : Int), vs = [.int i, .int j] ∧ ∀ H', Same H H' → Q (.int ((Int.gcd i j : Nat) : Int)) H'
theorem ok_cd {f : Addr} {fd : FuncData} (B : Bl mg) (D : Df K mg "common_divisor" s_common_divisor ["one", "two"] f fd) : FnOk P w K mg base CX0 1 f fd ["one", "two"] spCd := by
  refine D.F.ok sc_common_divisor (fun vs H Q E h => ?_) (fun cdv A outer s H vs Q E hr h => ?_)
  · obtain ⟨i, j, rfl, _⟩ := h
    rfl
  · obtain ⟨i, j, rfl, q⟩ := h
    refine ⟨_, (pss_cons (ps_set (i := 0) sc_common_divisor.nd rfl (.inl rfl) (pe_callB call_abs (by rfl) B.abs_ (by decide +kernel) (pa_cons (pv 0) pa_nil)))
 (pss_cons (ps_set (i := 1) sc_common_divisor.nd rfl (.inl rfl) (pe_callB call_abs (by rfl) B.abs_ (by decide +kernel) (pa_cons (pv 1) pa_nil)))
 (pss_cons (ps_while PassesOwn.never (pt_truth (pv 1) (fun _ => rfl))
  (pss_one (ps_par (i := 0) (j := 1) rfl sc_common_divisor.nd rfl rfl (by decide) rfl rfl (pa_cons (pv 1) (pa_cons (pe_op op_modN (pv 0) (pv 1)) pa_nil)) (by rfl))))
 (pss_one (ps_ret (pv 0)))))), ?_⟩
    have ab : ∀ i : Int, (if i < 0 then -i else i) = ((i.natAbs : Nat) : Int) := fun i => by
      split <;> omega
    refine ⟨_, rfl, i, rfl, _, rfl, j, rfl, ?_⟩
    rw [ab, ab]
    refine ⟨fun m σ H' => ∃ x y : Nat, m = y ∧ σ = [some (.int x), some (.int y)] ∧ H' = H ∧ Nat.gcd x y = Int.gcd i j, ⟨_, i.natAbs, j.natAbs, rfl, rfl, rfl, rfl⟩, ?_⟩
    rintro m σ H' ⟨x, y, rfl, rfl, rfl, e⟩
    refine ⟨_, rfl, _, rfl, ite2 (fun h1 => ?_) (fun h1 => ?_)⟩
    · have h2 : m ≠ 0 := by simpa using h1
      refine ⟨_, fun _ _ h => h, _, rfl, _, rfl, _, rfl, _, _, rfl, rfl, by omega, _, _, rfl, x % m, Nat.mod_lt _ (by omega), m, x % m, rfl, ?_, rfl, ?_⟩
      · show [some (V.int m), some (V.int ((x : Int).fmod m))] = _
        rw [Int.fmod_eq_emod_of_nonneg _ (by omega)]
        rfl
      · rw [← e, Nat.gcd_comm x m, Nat.gcd_rec m x, Nat.gcd_comm]
    · have h2 : m = 0 := by simpa using h1
      subst h2
      rw [Nat.gcd_zero_right] at e
      refine ⟨_, rfl, ?_⟩
      rw [e]
      exact q _ (Same.refl _)
/-! ### primitive -/
def spPrim (K : PySem.W.Frag) : Sp := fun vs H Q _ => ∃ (a : Addr) (xs : List Int), vs = [.ref a] ∧ SqL K H a (IL xs) ∧ PrimFits xs ∧ spNew vs H Q (primP xs)
theorem cont_take {xs : List Int} {i : Nat} (h : i < xs.length) : contP (xs.take (i + 1)) = ((Int.gcd (contP (xs.take i)) (xs.getD i 0) : Nat) : Int) := by
  rw [List.take_add_one, List.getElem?_eq_getElem h, List.getD_eq_getElem?_getD, List.getElem?_eq_getElem h]
  unfold contP
  rw [List.foldl_append]
  rfl
theorem ok_prim {f fc : Addr} {fd fdc : FuncData} (B : Bl mg) (D : Df K mg "primitive" s_primitive ["one"] f fd) (D_common_divisor : Df K mg "common_divisor" s_common_divisor ["one", "two"] fc fdc) : FnOk P w K mg base CX0 2 f fd ["one"] (spPrim K) := by
  have G_common_divisor : FnOk P w K mg base CX0 1 fc fdc ["one", "two"] spCd := ok_cd B D_common_divisor
  refine D.F.ok sc_primitive (fun vs H Q E h => ?_) (fun cdv A outer s H vs Q E hr h => ?_)
  · obtain ⟨a, xs, rfl, _⟩ := h
    rfl
  · obtain ⟨a, xs, rfl, hA, fit, q⟩ := h
    have lx := fit.l
    refine ⟨_, (pss_cons (ps_set (i := 1) sc_primitive.nd rfl (.inr rfl) pe_int)
 (pss_cons (ps_for PassesOwn.never rfl (pi_list (pv 0)) (pg_name (i := 2) sc_primitive.nd rfl (.inl rfl))
  (pss_one (ps_set (i := 1) sc_primitive.nd rfl (.inr rfl) (pe_call G_common_divisor (hr.mono (by decide)) (by rfl) D_common_divisor.g D_common_divisor.F.kp D_common_divisor.b .nil pass0 (pa_cons (pv 1) (pa_cons (pv 2) pa_nil))))))
 (pss_cons (ps_if (pt_cmpR op_eq (pv 1) pe_int (nomark _))
  (pss_one (ps_ret (pe_lst pa_nil)))
  pss_nil)
 (pss_cons (ps_if (pt_cmpR op_lt (pe_ix (ix_listK (K := K)) (pv 0) (pe_un un_neg pe_int) (fun _ _ => rfl)) pe_int (nomark _))
  (pss_one (ps_set (i := 1) sc_primitive.nd rfl (.inr rfl) (pe_un un_neg (pv 1))))
  pss_nil)
 (pss_one (ps_ret (pe_lc (own := [("number", 2)]) (g := gName 2) (tt := tYes) (by rfl) sc_primitive.nd (pi_list (pv 0)) (blkOk_by (N := ["one", "common", "number"]) (sc := defScope s_primitive) (by decide +kernel)) (fun _ _ _ _ _ => (pg_name (i := 2) sc_primitive.nd rfl (.inl rfl))) (fun _ _ _ _ _ => pts_nil) (fun _ _ _ _ _ => (pe_op op_fdivG (pv 2) (pv 1)))))))))), ?_⟩
    refine ⟨.ref a, rfl, a, rfl, ⟨_, hA⟩, ?_⟩
    refine for_list (xs := IL xs) (fun i σ H' => ∃ y, σ = [some (.ref a), some (.int (contP (xs.take i))), y] ∧ Same H H') ⟨none, rfl, Same.refl _⟩ (fun i σ H' _ h => ?_) (fun i x σ H' hx h => ?_) (fun σ H' h => ?_)
    · obtain ⟨y, rfl, sm⟩ := h
      exact sm.seq hA
    · obtain ⟨y, rfl, sm⟩ := h
      have hi : i < xs.length := by
        rw [← il_len xs]
        exact (List.getElem?_eq_some_iff.mp hx).1
      rw [il_get hi] at hx
      cases hx
      refine ⟨_, rfl, _, rfl, _, _, rfl, fun H2 s2 => ⟨some (.int (xs.getD i 0)), ?_, sm.trans s2⟩⟩
      rw [cont_take hi]
      rfl
    · obtain ⟨y, rfl, sm⟩ := h
      rw [il_len, List.take_length]
      refine ⟨_, rfl, rfl, _, rfl, ite2 (fun h1 => ?_) (fun h1 => ?_)⟩
      · have e : contP xs = 0 := by simpa using h1
        refine ⟨Nat.zero_le _, fun p hp => q _ p (sm.trans (same_new hp)) (sm.free hp) ?_⟩
        rw [upd_same, primP, if_pos e]
        rfl
      · have e : contP xs ≠ 0 := by simpa using h1
        have ne : xs ≠ [] := fun z => by
          subst z
          exact e rfl
        have hl : 0 < xs.length := List.length_pos_iff.mpr ne
        have gl : atI (IL xs) (-1) = some (.int (lastP xs)) := by
          have := atI_last (IL xs.dropLast) (V.int (xs.getLast ne))
          have e2 : IL xs.dropLast ++ [V.int (xs.getLast ne)] = IL xs := by
            rw [show [V.int (xs.getLast ne)] = IL [xs.getLast ne] from rfl, il_app, List.dropLast_concat_getLast]
          rw [e2] at this
          rw [this, lastP, List.getD_eq_getElem?_getD, ← List.getLast?_eq_getElem?, List.getLast?_eq_some_getLast ne]
          rfl
        refine ⟨.ref a, rfl, 1, rfl, _, _, _, _, rfl, rfl, sm.seq hA, gl, _, _, rfl, rfl, _, rfl, ite2 (fun h2 => ?x) (fun h2 => ?y)⟩
        case' x =>
          have e3 : sgc xs = -contP xs := by
            rw [sgc, if_pos (by simpa using h2)]
          refine ⟨_, rfl, _, rfl, ?_⟩
        case' y =>
          have e3 : sgc xs = contP xs := by
            rw [sgc, if_neg (by simpa using h2)]
        all_goals
          refine ⟨.ref a, rfl, a, rfl, ⟨_, sm.seq hA⟩, fun D hD => ?_⟩
          have nD : H D = none := sm.free hD
          refine lc_list (xs := IL xs) (fun i H' => Same H H' ∧ H' D = some (.lst (IL ((xs.take i).map (fun n => n.fdiv (sgc xs)))))) ⟨sm.trans (same_new hD), upd_same⟩ (fun i H' _ h => h.1.seq hA) (fun i x H' hx h => ?_) (fun H' h => ?_)
          · obtain ⟨sm, hL⟩ := h
            have hi : i < xs.length := by
              rw [← il_len xs]
              exact (List.getElem?_eq_some_iff.mp hx).1
            rw [il_get hi] at hx
            cases hx
            refine ⟨rfl, _, rfl, _, rfl, _, _, rfl, rfl, divG (by omega) ?_, _, hL, ?_, same_mut sm nD, ?_⟩
            · have := fit.c
              first
              | exact this
              | (rw [Int.natAbs_neg]; exact this)
            · rw [il_len, List.length_map, List.length_take]
              exact sz_lt (by omega)
            · rw [upd_same, List.take_add_one, List.getElem?_eq_getElem hi, List.getD_eq_getElem?_getD, List.getElem?_eq_getElem hi, List.map_append, ← il_app, e3]
              rfl
          · obtain ⟨sm, hL⟩ := h
            refine q _ D sm nD ?_
            rw [hL, il_len, List.take_length, primP, if_neg e]
end
end K78

set_option Elab.async false
set_option linter.all false
set_option maxRecDepth 100000
set_option maxHeartbeats 4000000
namespace K78
open PySem PySem.Spec PyProof.Rows L2 PA
section
variable {P : Program} {w : World} {K : PySem.W.Frag} {mg : Str → Option Value} {base : Heap}
theorem at_last {xs : List Int} (ne : xs ≠ []) : atI (IL xs) (-1) = some (.int (lastP xs)) := by
  have := atI_last (IL xs.dropLast) (V.int (xs.getLast ne))
  have e2 : IL xs.dropLast ++ [V.int (xs.getLast ne)] = IL xs := by
    rw [show [V.int (xs.getLast ne)] = IL [xs.getLast ne] from rfl, il_app, List.dropLast_concat_getLast]
  rw [e2] at this
  rw [this, lastP, List.getD_eq_getElem?_getD, ← List.getLast?_eq_getElem?, List.getLast?_eq_some_getLast ne]
  rfl
/-! ### remainder -/
theorem rem_len {two : Pl} : ∀ {n : Nat} {left res : Pl}, RemRun two n left res → two ≠ [] → res.length < two.length
  | _, _, _, .stop left h, _ => h
  | _, _, _, .step n left res h f r, ne => rem_len r ne
theorem scale_len (p : Pl) (n : Int) : (scaleP p n).length ≤ p.length := by
  unfold scaleP
  split
  · exact Nat.zero_le _
  · rw [List.length_map]
    exact Nat.le_refl _
theorem raise_len (p : Pl) (k : Nat) : (raiseP p k).length ≤ k + p.length := by
  unfold raiseP
  split
  · exact Nat.zero_le _
  · rw [List.length_append, List.length_replicate]
    exact Nat.le_refl _
theorem plus_len (p q : Pl) : (plusP p q).length ≤ max p.length q.length := by
  have := trim_len (addL p q)
  rw [addL_len] at this
  exact this
theorem prim_len (p : Pl) : (primP p).length ≤ p.length := by
  unfold primP
  split
  · exact Nat.zero_le _
  · rw [List.length_map]
    exact Nat.le_refl _
def spRem (K : PySem.W.Frag) : Sp := fun vs H Q _ => ∃ (a b : Addr) (xs ys r : List Int) (n : Nat), vs = [.ref a, .ref b] ∧ SqL K H a (IL xs) ∧ SqL K H b (IL ys) ∧ ys ≠ [] ∧ PrimFits xs ∧ RemRun ys n (primP xs) r ∧ spNew vs H Q r
theorem ok_rem {f f1 f2 f3 f4 : Addr} {fd fd1 fd2 fd3 fd4 : FuncData} (B : Bl mg) (D : Df K mg "remainder" s_remainder ["one", "two"] f fd) (D_primitive : Df K mg "primitive" s_primitive ["one"] f1 fd1) (D_raised : Df K mg "raised" s_raised ["one", "k"] f2 fd2)
    (D_scaled : Df K mg "scaled" s_scaled ["one", "number"] f3 fd3) (D_plus : Df K mg "plus" s_plus ["one", "two"] f4 fd4) (G_primitive : FnOk P w K mg base CX0 2 f1 fd1 ["one"] (spPrim K)) (G_raised : FnOk P w K mg base CX0 1 f2 fd2 ["one", "k"] (spRaised K))
    (G_scaled : FnOk P w K mg base CX0 1 f3 fd3 ["one", "number"] (spScaled K)) (G_plus : FnOk P w K mg base CX0 2 f4 fd4 ["one", "two"] (spPlus K)) : FnOk P w K mg base CX0 3 f fd ["one", "two"] (spRem K) := by
  refine D.F.ok sc_remainder (fun vs H Q E h => ?_) (fun cdv A outer s H vs Q E hr h => ?_)
  · obtain ⟨a, b, xs, ys, r, n, rfl, _⟩ := h
    rfl
  · obtain ⟨a, b, xs, ys, r, n, rfl, hA, hB, ne, fit, run, q⟩ := h
    refine ⟨_, (pss_cons (ps_set (i := 2) sc_remainder.nd rfl (.inl rfl) (pe_call G_primitive (hr.mono (by decide)) (by rfl) D_primitive.g D_primitive.F.kp D_primitive.b .nil pass0 (pa_cons (pv 0) pa_nil)))
 (pss_cons (ps_while PassesOwn.never (pt_cmpR op_ge (pe_callB (call_lenK (K := K)) (by rfl) B.len_ (by decide +kernel) (pa_cons (pv 2) pa_nil)) (pe_callB (call_lenK (K := K)) (by rfl) B.len_ (by decide +kernel) (pa_cons (pv 1) pa_nil)) (nomark _))
  (pss_cons (ps_set (i := 3) sc_remainder.nd rfl (.inl rfl) (pe_call G_raised (hr.mono (by decide)) (by rfl) D_raised.g D_raised.F.kp D_raised.b .nil pass0 (pa_cons (pe_call G_scaled (hr.mono (by decide)) (by rfl) D_scaled.g D_scaled.F.kp D_scaled.b .nil pass0 (pa_cons (pv 1) (pa_cons (pe_un un_neg (pe_ix (ix_listK (K := K)) (pv 2) (pe_un un_neg pe_int) (fun _ _ => rfl))) pa_nil))) (pa_cons (pe_op op_sub (pe_callB (call_lenK (K := K)) (by rfl) B.len_ (by decide +kernel) (pa_cons (pv 2) pa_nil)) (pe_callB (call_lenK (K := K)) (by rfl) B.len_ (by decide +kernel) (pa_cons (pv 1) pa_nil))) pa_nil))))
 (pss_one (ps_set (i := 2) sc_remainder.nd rfl (.inl rfl) (pe_call G_primitive (hr.mono (by decide)) (by rfl) D_primitive.g D_primitive.F.kp D_primitive.b .nil pass0 (pa_cons (pe_call G_plus (hr.mono (by decide)) (by rfl) D_plus.g D_plus.F.kp D_plus.b .nil pass0 (pa_cons (pe_call G_scaled (hr.mono (by decide)) (by rfl) D_scaled.g D_scaled.F.kp D_scaled.b .nil pass0 (pa_cons (pv 2) (pa_cons (pe_ix (ix_listK (K := K)) (pv 1) (pe_un un_neg pe_int) (fun _ _ => rfl)) pa_nil))) (pa_cons (pv 3) pa_nil))) pa_nil))))))
 (pss_one (ps_ret (pv 2))))), ?_⟩
    refine ⟨.ref a, rfl, a, xs, rfl, hA, fit, fun H1 p s1 np hp => ?_⟩
    refine ⟨fun m σ H' => ∃ (p : Addr) (l : Pl) (y : Option V), RemRun ys m l r ∧ σ = [some (.ref a), some (.ref b), some (.ref p), y] ∧ Same H H' ∧ H p = none ∧ H' p = some (.lst (IL l)), ⟨_, p, _, none, run, rfl, s1, np, hp⟩, ?_⟩
    rintro m σ H' ⟨p, l, y, rn, rfl, sm, np, hp⟩
    refine ⟨.ref p, rfl, p, IL l, rfl, .inl (lst_of hp), .ref b, rfl, b, IL ys, rfl, .inl (sm.seq hB), _, _, rfl, rfl, _, rfl, ite2 (fun h1 => ?_) (fun h1 => ?_)⟩
    · have hle : ys.length ≤ l.length := by
        have := of_decide_eq_true h1
        rw [il_len, il_len] at this
        omega
      cases rn with
      | stop _ h => omega
      | step m _ _ h2 F rn =>
        have nl : l ≠ [] := fun z => by
          subst z
          have : 0 < ys.length := List.length_pos_iff.mpr ne
          have : ys.length ≤ 0 := hle
          omega
        have l1 := F.l1
        have l2 := F.l2
        -- part = raised(scaled(two, -left[-1]), len(left) - len(two))
        refine ⟨_, fun _ _ h => h, .ref b, rfl, .ref p, rfl, 1, rfl, p, IL l, _, _, rfl, rfl, lst_of hp, at_last nl, _, rfl, b, ys, _, rfl, sm.seq hB, by omega, F.m2, fun H2 c s2 nc hc => ?_⟩
        have hp2 := s2 _ _ hp
        refine ⟨.ref p, rfl, p, IL l, rfl, .inl (lst_of hp2), .ref b, rfl, b, IL ys, rfl, .inl (s2.seq (sm.seq hB)), _, _, rfl, rfl, ?_⟩
        have lc := scale_len ys (-lastP l)
        refine ⟨c, _, l.length - ys.length, ?_, lst_of hc, by omega, by omega, fun H3 d s3 nd hd => ?_⟩
        · show [V.ref c, V.int (((IL l).length : Int) - ((IL ys).length : Int))] = _
          rw [il_len, il_len, show ((l.length - ys.length : Nat) : Int) = (l.length : Int) - (ys.length : Int) by omega]
        have hp3 := s3 _ _ hp2
        have sm3 : Same H H3 := (sm.trans s2).trans s3
        -- left = primitive(plus(scaled(left, two[-1]), part))
        refine ⟨.ref p, rfl, .ref b, rfl, 1, rfl, b, IL ys, _, _, rfl, rfl, sm3.seq hB, at_last ne, p, l, _, rfl, lst_of hp3, by omega, F.m1, fun H4 e s4 ne4 he => ?_⟩
        have le := scale_len l (lastP ys)
        have ld := raise_len (scaleP ys (-lastP l)) (l.length - ys.length)
        refine ⟨.ref d, rfl, e, d, _, _, rfl, lst_of he, lst_of (s4 _ _ hd), by omega, by omega, fun H5 g s5 ng hg => ?_⟩
        have lp := plus_len (scaleP l (lastP ys)) (raiseP (scaleP ys (-lastP l)) (l.length - ys.length))
        refine ⟨g, _, rfl, lst_of hg, ⟨F.c, ?_⟩, fun H6 j s6 nj hj => ?_⟩
        · show (plusP _ _).length ≤ 1000
          omega
        have sm6 : Same H H6 := ((sm3.trans s4).trans s5).trans s6
        have smj : Same H H5 := (sm3.trans s4).trans s5
        exact ⟨m, by omega, j, _, some (.ref d), rn, rfl, sm6, smj.free nj, hj⟩
    · cases rn with
      | stop _ h => exact ⟨.ref p, rfl, q _ p sm np hp⟩
      | step m _ _ h2 F rn =>
        exact absurd (decide_eq_true (show ((IL ys).length : Int) ≤ ((IL l).length : Int) by rw [il_len, il_len]; omega)) h1
/-! ### gcd -/
def spGcd (K : PySem.W.Frag) : Sp := fun vs H Q _ => ∃ (a b : Addr) (xs ys g : List Int) (n : Nat), vs = [.ref a, .ref b] ∧ SqL K H a (IL xs) ∧ SqL K H b (IL ys) ∧ PrimFits xs ∧ PrimFits ys ∧ GcdRun n (primP xs) (primP ys) g ∧ spNew vs H Q g
theorem ok_gcd {f f1 f2 : Addr} {fd fd1 fd2 : FuncData} (B : Bl mg) (D : Df K mg "gcd" s_gcd ["one", "two"] f fd) (D_primitive : Df K mg "primitive" s_primitive ["one"] f1 fd1) (D_remainder : Df K mg "remainder" s_remainder ["one", "two"] f2 fd2)
    (G_primitive : FnOk P w K mg base CX0 2 f1 fd1 ["one"] (spPrim K)) (G_remainder : FnOk P w K mg base CX0 3 f2 fd2 ["one", "two"] (spRem K)) : FnOk P w K mg base CX0 4 f fd ["one", "two"] (spGcd K) := by
  refine D.F.ok sc_gcd (fun vs H Q E h => ?_) (fun cdv A outer s H vs Q E hr h => ?_)
  · obtain ⟨a, b, xs, ys, g, n, rfl, _⟩ := h
    rfl
  · obtain ⟨a, b, xs, ys, g, n, rfl, hA, hB, f1, f2, run, q⟩ := h
    refine ⟨_, (pss_cons (ps_set (i := 0) sc_gcd.nd rfl (.inl rfl) (pe_call G_primitive (hr.mono (by decide)) (by rfl) D_primitive.g D_primitive.F.kp D_primitive.b .nil pass0 (pa_cons (pv 0) pa_nil)))
 (pss_cons (ps_set (i := 1) sc_gcd.nd rfl (.inl rfl) (pe_call G_primitive (hr.mono (by decide)) (by rfl) D_primitive.g D_primitive.F.kp D_primitive.b .nil pass0 (pa_cons (pv 1) pa_nil)))
 (pss_cons (ps_while PassesOwn.never (pt_cmpR op_gt (pe_callB (call_lenK (K := K)) (by rfl) B.len_ (by decide +kernel) (pa_cons (pv 1) pa_nil)) pe_int (nomark _))
  (pss_one (ps_par (i := 0) (j := 1) rfl sc_gcd.nd rfl rfl (by decide) rfl rfl (pa_cons (pv 1) (pa_cons (pe_call G_remainder (hr.mono (by decide)) (by rfl) D_remainder.g D_remainder.F.kp D_remainder.b .nil pass0 (pa_cons (pv 0) (pa_cons (pv 1) pa_nil))) pa_nil)) (by rfl))))
 (pss_one (ps_ret (pv 0)))))), ?_⟩
    refine ⟨.ref a, rfl, a, xs, rfl, hA, f1, fun H1 p s1 np hp => ?_⟩
    refine ⟨.ref b, rfl, b, ys, rfl, s1.seq hB, f2, fun H2 r s2 nr hr' => ?_⟩
    refine ⟨fun m σ H' => ∃ (p r : Addr) (x y : Pl), GcdRun m x y g ∧ σ = [some (.ref p), some (.ref r)] ∧ Same H H' ∧ H p = none ∧ H r = none ∧ H' p = some (.lst (IL x)) ∧ H' r = some (.lst (IL y)), ⟨_, p, r, _, _, run, rfl, s1.trans s2, np, s1.free nr, s2 _ _ hp, hr'⟩, ?_⟩
    rintro m σ H' ⟨p, r, x, y, rn, rfl, sm, np, nr, hp, hr'⟩
    refine ⟨.ref r, rfl, r, IL y, rfl, .inl (lst_of hr'), _, _, rfl, rfl, _, rfl, ite2 (fun h1 => ?_) (fun h1 => ?_)⟩
    · cases rn with
      | stop => simp at h1
      | step m k _ _ z _ ne F rm rn =>
        refine ⟨_, fun _ _ h => h, .ref r, rfl, .ref p, rfl, .ref r, rfl, p, r, _, _, z, k, rfl, lst_of hp, lst_of hr', ne, F, rm, fun H3 d s3 nd hd => ?_⟩
        exact ⟨_, _, rfl, m, by omega, r, d, y, z, rn, rfl, sm.trans s3, nr, sm.free nd, s3 _ _ hr', hd⟩
    · cases rn with
      | stop => exact ⟨.ref p, rfl, q _ p sm np hp⟩
      | step m k _ _ z _ ne F rm rn =>
        have : 0 < y.length := List.length_pos_iff.mpr ne
        exact absurd (decide_eq_true (show (0 : Int) < ((IL y).length : Int) by rw [il_len]; omega)) h1
end
end K78

set_option Elab.async false
set_option linter.all false
set_option maxRecDepth 100000
set_option maxHeartbeats 4000000
namespace K78
open PySem PySem.Spec PyProof.Rows L2 PA
section
variable {P : Program} {w : World} {K : PySem.W.Frag} {mg : Str → Option Value} {base : Heap}
/-! ### divided -/
/-- None, or a new list -/
def spOpt (vs : List V) (H : Hp) (Q : VK) : Option Pl → Prop
  | none => ∀ H', Same H H' → Q .non H'
  | some r => spNew vs H Q r
def spDiv (K : PySem.W.Frag) : Sp := fun vs H Q _ => ∃ (a b : Addr) (xs ys : List Int) (o : Option Pl), vs = [.ref a, .ref b] ∧ SqL K H a (IL xs) ∧ SqL K H b (IL ys) ∧ Divs xs ys o ∧ spOpt vs H Q o
/-- what the loop of divided needs and comes to -/
theorem divs_run {xs ys : Pl} {o : Option Pl} (h : Divs xs ys o) : LeadFits ys ∧ xs.length ≤ 1000 ∧ ys.length ≤ 1000 ∧ ∃ res, DivRun ys (xs.length + 1 - ys.length) xs (List.replicate (xs.length + 1 - ys.length) 0) res ∧
    (res = none → o = none) ∧ ∀ l out, res = some (l, out) → ((∃ x ∈ l, x ≠ 0) ∧ o = none) ∨ ((∀ x ∈ l, x = 0) ∧ o = some out) := by
  cases h with
  | no f h1 h2 r => exact ⟨f, h1, h2, _, r, fun _ => rfl, fun _ _ e => nomatch e⟩
  | rest l out f h1 h2 r z =>
    refine ⟨f, h1, h2, _, r, (fun e => nomatch e), fun l' out' e => ?_⟩
    cases e
    exact .inl ⟨z, rfl⟩
  | yes l out f h1 h2 r z =>
    refine ⟨f, h1, h2, _, r, (fun e => nomatch e), fun l' out' e => ?_⟩
    cases e
    exact .inr ⟨z, rfl⟩
theorem ok_div {f : Addr} {fd : FuncData} (B : Bl mg) (D : Df K mg "divided" s_divided ["one", "two"] f fd) : FnOk P w K mg base CX0 1 f fd ["one", "two"] (spDiv K) := by
  refine D.F.ok sc_divided (fun vs H Q E h => ?_) (fun cdv A outer s H vs Q E hr h => ?_)
  · obtain ⟨a, b, xs, ys, o, rfl, _⟩ := h
    rfl
  · obtain ⟨a, b, xs, ys, o, rfl, hA, hB, dv, q⟩ := h
    obtain ⟨lf, lx, ly, res, run, hn, hsm⟩ := divs_run dv
    have ne : ys ≠ [] := fun z => by
      subst z
      exact lf.ne rfl
    have py : 0 < ys.length := List.length_pos_iff.mpr ne
    refine ⟨_, (pss_cons (ps_set (i := 2) sc_divided.nd rfl (.inl rfl) (pe_callTy call_list_of (by rfl) B.list_ (by decide +kernel) (pa_cons (pv 0) pa_nil)))
 (pss_cons (ps_set (i := 3) sc_divided.nd rfl (.inl rfl) (pe_callB (call_lenK (K := K)) (by rfl) B.len_ (by decide +kernel) (pa_cons (pv 1) pa_nil)))
 (pss_cons (ps_set (i := 4) sc_divided.nd rfl (.inl rfl) (pe_op op_rep (pe_lst (pa_cons pe_int pa_nil)) (pe_callB (call_max2 (by rfl)) (by rfl) B.max_ (by decide +kernel) (pa_cons pe_int (pa_cons (pe_op op_add (pe_op op_sub (pe_callB (call_lenK (K := K)) (by rfl) B.len_ (by decide +kernel) (pa_cons (pv 0) pa_nil)) (pv 3)) pe_int) pa_nil)))))
 (pss_cons (ps_for PassesOwn.never rfl (pi_revR (by rfl) B.reversed_ (prg_1 (by rfl) B.range_ (pe_callB (call_lenK (K := K)) (by rfl) B.len_ (by decide +kernel) (pa_cons (pv 4) pa_nil)))) (pg_name (i := 5) sc_divided.nd rfl (.inl rfl))
  (pss_cons (ps_set (i := 6) sc_divided.nd rfl (.inl rfl) (pe_ix (ix_listK (K := K)) (pv 2) (pe_op op_sub (pe_op op_add (pv 5) (pv 3)) pe_int) (fun _ _ => rfl)))
 (pss_cons (ps_if (pt_cmpR op_ne (pe_op op_modN (pv 6) (pe_ix (ix_listK (K := K)) (pv 1) (pe_un un_neg pe_int) (fun _ _ => rfl))) pe_int (nomark _))
  (pss_one (ps_ret pe_non))
  pss_nil)
 (pss_cons (ps_asg (pe_op op_fdivG (pv 6) (pe_ix (ix_listK (K := K)) (pv 1) (pe_un un_neg pe_int) (fun _ _ => rfl))) (pg_sub (pv 4) (pv 5) set_list))
 (pss_one (ps_for PassesOwn.never rfl (pi_range1 (by rfl) B.range_ (pa_cons (pv 3) pa_nil)) (pg_name (i := 7) sc_divided.nd rfl (.inl rfl))
  (pss_one (ps_asg (pe_op op_sub (pe_ix (ix_listK (K := K)) (pv 2) (pe_op op_add (pv 5) (pv 7)) (fun _ _ => rfl)) (pe_op op_mulW (pe_ix (ix_listK (K := K)) (pv 4) (pv 5) (fun _ _ => rfl)) (pe_ix (ix_listK (K := K)) (pv 1) (pv 7) (fun _ _ => rfl)))) (pg_sub (pv 2) (pe_op op_add (pv 5) (pv 7)) set_list)))))))))
 (pss_cons (ps_if (pt_val (pe_callB (cr_any (by rfl)) (by rfl) B.any_ (by decide +kernel) (pa_cons (pe_lc (own := [("number", 6)]) (g := gName 6) (tt := tYes) (by rfl) sc_divided.nd (pi_list (pv 2)) (blkOk_by (N := ["one", "two", "left", "many", "out", "k", "number", "at"]) (sc := defScope s_divided) (by decide +kernel)) (fun _ _ _ _ _ => (pg_name (i := 6) sc_divided.nd rfl (.inl rfl))) (fun _ _ _ _ _ => pts_nil) (fun _ _ _ _ _ => (pe_cmpR op_ne (pv 6) pe_int (nomark _)))) pa_nil)))
  (pss_one (ps_ret pe_non))
  pss_nil)
 (pss_one (ps_ret (pv 4)))))))), ?_⟩
    -- left = list(one); many = len(two)
    refine ⟨.ref a, rfl, a, IL xs, rfl, .inl hA, fun L hL => ⟨.ref b, rfl, b, IL ys, rfl, .inl ((same_new hL).seq hB), ?_⟩⟩
    have s1 := same_new (o := .lst (IL xs)) hL
    have i1 := upd_same (H := H) (a := L) (o := .lst (IL xs))
    revert s1 i1
    generalize upd H L (.lst (IL xs)) = H1
    intro s1 i1
    -- out = [0] * max(0, len(one) - many + 1)
    refine ⟨Nat.succ_le_of_lt (by decide), fun p0 hp0 => ⟨.ref a, rfl, a, IL xs, rfl, .inl ((s1.trans (same_new hp0)).seq hA), _, rfl, _, _, rfl, rfl, _, _, rfl, rfl, _, _, rfl, p0, ((max 0 (xs.length + 1 - ys.length) : Nat) : Int), [.int 0], rfl, ?_, upd_same, by omega, by omega, ?_, fun p hp => ?_⟩⟩
    · show V.int (if ((IL xs).length : Int) - ((IL ys).length : Int) + 1 > 0 then ((IL xs).length : Int) - ((IL ys).length : Int) + 1 else 0) = _
      rw [il_len, il_len]
      congr 1
      split <;> omega
    · show 1 * _ ≤ sizeLine
      exact sz_small (by omega)
    rw [Int.toNat_natCast, Nat.zero_max, rep_il]
    have s2 := (s1.trans (same_new hp0)).trans (same_new (o := .lst (IL (List.replicate (xs.length + 1 - ys.length) 0))) hp)
    have i2 : (upd (upd H1 p0 (.lst [.int 0])) p (.lst (IL (List.replicate (xs.length + 1 - ys.length) 0)))) L = some (.lst (IL xs)) := (same_new hp) _ _ ((same_new hp0) _ _ i1)
    have i3 := upd_same (H := upd H1 p0 (.lst [.int 0])) (a := p) (o := .lst (IL (List.replicate (xs.length + 1 - ys.length) 0)))
    have np : H p = none := s1.free ((same_new hp0).free hp)
    have nLp : L ≠ p := fun e => by
      subst e
      rw [(same_new hp0) _ _ i1] at hp
      cases hp
    revert s2 i2 i3
    generalize upd (upd H1 p0 (.lst [.int 0])) p (.lst (IL (List.replicate (xs.length + 1 - ys.length) 0))) = H2
    intro s2 i2 i3
    generalize hN : xs.length + 1 - ys.length = N at *
    -- the loop, downwards
    refine ⟨.ref p, rfl, p, _, rfl, .inl (lst_of i3), _, rfl, by omega, by omega, by rw [il_len, List.length_replicate]; omega, by rw [il_len, List.length_replicate]; omega, ?_⟩
    rw [il_len, il_len, List.length_replicate, show (((N : Nat) : Int) - 0).toNat = N by omega]
    refine for_rangeC (fun i σ H' => ∃ (l out : Pl) (y1 y2 y3 : Option V), DivRun ys (N - i) l out res ∧ l.length = xs.length ∧ out.length = N ∧ σ = [some (.ref a), some (.ref b), some (.ref L), some (.int (ys.length : Int)), some (.ref p), y1, y2, y3] ∧ Same H H' ∧ H' L = some (.lst (IL l)) ∧ H' p = some (.lst (IL out)))
      ⟨xs, _, none, none, none, run, rfl, by rw [List.length_replicate], rfl, s2, i2, i3⟩ (fun i σ H' hi h => ?_) (fun σ H' h => ?_)
    · obtain ⟨l, out, y1, y2, y3, rn, ll, lo, rfl, sm, hl, ho⟩ := h
      obtain ⟨k, hk⟩ : ∃ k, N - i = k + 1 := ⟨N - i - 1, by omega⟩
      rw [hk] at rn
      have ek : (0 : Int) + ((N : Nat) : Int) - 1 + (i : Int) * (-1) = (k : Int) := by omega
      rw [ek]
      have hkl : k + ys.length ≤ l.length := by omega
      have g1 : atI (IL l) ((k : Int) + (ys.length : Int) - 1) = some (.int (l.getD (k + ys.length - 1) 0)) := il_at (by omega) (by omega)
      refine ⟨.ref L, rfl, _, rfl, _, rfl, _, _, rfl, rfl, _, _, rfl, rfl, L, IL l, _, _, rfl, rfl, lst_of hl, g1, ?_⟩
      refine ⟨_, rfl, .ref b, rfl, 1, rfl, b, IL ys, _, _, rfl, rfl, sm.seq hB, at_last ne, _, _, rfl, rfl, lf.ne, rfl, _, rfl, ite2 (fun h1 => ?_) (fun h1 => ?_)⟩
      · have e1 : (l.getD (k + ys.length - 1) 0).fmod (lastP ys) ≠ 0 := by simpa using h1
        cases rn with
        | none _ _ _ e =>
          have := hn rfl
          subst this
          exact q _ sm
        | step _ _ _ _ e _ _ => exact absurd e e1
      · have e1 : (l.getD (k + ys.length - 1) 0).fmod (lastP ys) = 0 := by simpa using h1
        cases rn with
        | none _ _ _ e => exact absurd e1 e
        | step _ _ _ _ _ hfm rn =>
          revert hfm rn
          generalize hc : (l.getD (k + ys.length - 1) 0).fdiv (lastP ys) = c
          intro hfm rn
          refine ⟨_, rfl, .ref b, rfl, 1, rfl, b, IL ys, _, _, rfl, rfl, sm.seq hB, at_last ne, _, _, rfl, rfl, divG lf.ne lf.sm, .ref p, rfl, _, rfl, p, IL out, _, k, rfl, rfl, ho, il_ix (by omega), ?_⟩
          rw [il_set, hc]
          have sm1 : Same H (upd H' p (.lst (IL (out.set k c)))) := same_mut sm np
          have ho1 := upd_same (H := H') (a := p) (o := .lst (IL (out.set k c)))
          have hl1 : (upd H' p (.lst (IL (out.set k c)))) L = some (.lst (IL l)) := by
            rw [upd_ne nLp]
            exact hl
          revert sm1 ho1 hl1
          generalize upd H' p (.lst (IL (out.set k c))) = H3
          intro sm1 ho1 hl1
          refine ⟨_, rfl, _, rfl, by omega, by omega, ?_⟩
          rw [Int.toNat_natCast]
          refine for_range (fun j σ H' => ∃ (l2 : Pl) (y4 : Option V), l2.length = l.length ∧ (∀ t, l2.getD t 0 = if k ≤ t ∧ t < k + j then l.getD t 0 - c * ys.getD (t - k) 0 else l.getD t 0) ∧ σ = [some (.ref a), some (.ref b), some (.ref L), some (.int (ys.length : Int)), some (.ref p), some (.int k), some (.int (l.getD (k + ys.length - 1) 0)), y4] ∧ Same H H' ∧ H' L = some (.lst (IL l2)) ∧ H' p = some (.lst (IL (out.set k c))))
            ⟨l, y3, rfl, fun t => by rw [if_neg (by omega)], rfl, sm1, hl1, ho1⟩ (fun j σ H' hj h => ?_) (fun σ H' h => ?_)
          · obtain ⟨l2, y4, ll2, gl2, rfl, sm', hl', ho'⟩ := h
            rw [Int.zero_add]
            have nL : H L = none := hL
            refine ⟨.ref L, rfl, _, rfl, _, rfl, _, _, rfl, rfl, L, IL l2, _, _, rfl, rfl, lst_of hl', il_at (j := k + j) (by omega) (by omega), .ref p, rfl, _, rfl, p, IL (out.set k c), _, _, rfl, rfl, lst_of ho', il_at rfl (by rw [List.length_set]; omega), .ref b, rfl, _, rfl, b, IL ys, _, _, rfl, rfl, sm'.seq hB, il_at rfl hj, _, _, rfl, rfl, ?_, _, _, rfl, rfl,
              .ref L, rfl, _, rfl, _, rfl, _, _, rfl, rfl, L, IL l2, _, k + j, rfl, rfl, hl', ?_, l2.set (k + j) (l2.getD (k + j) 0 - c * ys.getD j 0), _, ?_, ?_, rfl, same_mut sm' nL, ?_, ?_⟩
            · rw [set_getD, if_pos ⟨rfl, by omega⟩]
              refine hfm _ ?_
              rw [List.getD_eq_getElem?_getD, List.getElem?_eq_getElem hj]
              exact List.getElem_mem hj
            · rw [show ((k : Int) + (j : Int)) = ((k + j : Nat) : Int) by omega]
              exact il_ix (by omega)
            · rw [List.length_set, ll2]
            · intro t
              have e0 : l2.getD (k + j) 0 = l.getD (k + j) 0 := by rw [gl2, if_neg (by omega)]
              rw [set_getD, e0]
              by_cases e : k + j = t
              · subst e
                rw [if_pos ⟨rfl, by omega⟩, if_pos (by omega), show k + j - k = j by omega]
              · rw [if_neg (fun z => e z.1), gl2]
                by_cases h5 : k ≤ t ∧ t < k + j
                · rw [if_pos h5, if_pos (by omega)]
                · rw [if_neg h5, if_neg (by omega)]
            · rw [upd_same, set_getD, if_pos ⟨rfl, by omega⟩]
              exact congrArg (fun z => some (HO.lst z)) (il_set _ _ _)
            · rw [upd_ne nLp.symm]
              exact ho'
          · obtain ⟨l2, y4, ll2, gl2, rfl, sm', hl', ho'⟩ := h
            have e2 : l2 = subAt l ys k c := ext_getD (by rw [ll2, subAt_len]) fun t => by
              rw [gl2, subAt_get]
              by_cases h5 : k ≤ t ∧ t < k + ys.length
              · rw [if_pos h5, if_pos ⟨h5.1, h5.2, by omega⟩]
              · rw [if_neg h5, if_neg (fun z => h5 ⟨z.1, z.2.1⟩)]
            subst e2
            refine ⟨_, _, _, _, _, ?_, by rw [ll2, ll], by rw [List.length_set, lo], rfl, sm', hl', ho'⟩
            rw [show N - (i + 1) = k by omega]
            exact rn
    · obtain ⟨l, out, y1, y2, y3, rn, ll, lo, rfl, sm, hl, ho⟩ := h
      rw [Nat.sub_self] at rn
      cases rn
      -- any([number != 0 for number in left])
      refine ⟨.ref L, rfl, L, rfl, ⟨_, lst_of hl⟩, fun C hC => ?_⟩
      refine lc_list (xs := IL l) (fun i H' => Same H H' ∧ H' L = some (.lst (IL l)) ∧ H' p = some (.lst (IL out)) ∧ H' C = some (.lst (((l.take i).map (fun n => !decide (n = 0))).map V.bl)))
        ⟨sm.trans (same_new hC), (same_new hC) _ _ hl, (same_new hC) _ _ ho, upd_same⟩ (fun i H' _ h => lst_of h.2.1) (fun i x H' hx h => ?_) (fun H' h => ?_)
      · obtain ⟨sm', hl', ho', hc'⟩ := h
        have hi : i < l.length := by
          rw [← il_len l]
          exact (List.getElem?_eq_some_iff.mp hx).1
        rw [il_get hi] at hx
        cases hx
        have nCL : L ≠ C := fun e => by
          subst e
          rw [hl] at hC
          cases hC
        have nCp : p ≠ C := fun e => by
          subst e
          rw [ho] at hC
          cases hC
        refine ⟨rfl, _, rfl, rfl, _, hc', ?_, same_mut sm' (sm.free hC), ?_, ?_, ?_⟩
        · rw [List.length_map, List.length_map, List.length_take]
          exact sz_lt (by omega)
        · rw [upd_ne nCL]
          exact hl'
        · rw [upd_ne nCp]
          exact ho'
        · rw [upd_same, List.take_add_one, List.getElem?_eq_getElem hi, List.getD_eq_getElem?_getD, List.getElem?_eq_getElem hi, List.map_append, List.map_append]
          simp
      · obtain ⟨sm', hl', ho', hc'⟩ := h
        rw [il_len, List.take_length] at hc'
        refine ⟨C, _, rfl, lst_of hc', _, rfl, ite2 (fun h1 => ?_) (fun h1 => ?_)⟩
        · have ex : ∃ x ∈ l, x ≠ 0 := by simpa using h1
          rcases hsm l out rfl with ⟨_, e⟩ | ⟨h2, _⟩
          · subst e
            exact q _ sm'
          · obtain ⟨x, hx, h3⟩ := ex
            exact absurd (h2 x hx) h3
        · have ex : ∀ x ∈ l, x = 0 := by simpa using h1
          rcases hsm l out rfl with ⟨⟨x, hx, h3⟩, _⟩ | ⟨_, e⟩
          · exact absurd (ex x hx) h3
          · subst e
            exact ⟨.ref p, rfl, q _ p sm' np ho'⟩
end
end K78

set_option Elab.async false
set_option linter.all false
set_option maxRecDepth 100000
set_option maxHeartbeats 4000000
namespace K78
open PySem PySem.Spec PyProof.Rows L2 PA
section
variable {P : Program} {w : World} {K : PySem.W.Frag} {mg : Str → Option Value} {base : Heap}
/-! ### often -/
def spOften (K : PySem.W.Frag) : Sp := fun vs H Q _ => ∃ (a b : Addr) (xs ys : List Int) (n : Nat), vs = [.ref a, .ref b] ∧ SqL K H a (IL xs) ∧ SqL K H b (IL ys) ∧ Often ys n xs ∧ ∀ H', Same H H' → Q (.int n) H'
theorem ok_often {f f1 : Addr} {fd fd1 : FuncData} (B : Bl mg) (D : Df K mg "often" s_often ["one", "two"] f fd) (D_divided : Df K mg "divided" s_divided ["one", "two"] f1 fd1)
    (G_divided : FnOk P w K mg base CX0 1 f1 fd1 ["one", "two"] (spDiv K)) : FnOk P w K mg base CX0 2 f fd ["one", "two"] (spOften K) := by
  refine D.F.ok sc_often (fun vs H Q E h => ?_) (fun cdv A outer s H vs Q E hr h => ?_)
  · obtain ⟨a, b, xs, ys, n, rfl, _⟩ := h
    rfl
  · obtain ⟨a, b, xs, ys, n, rfl, hA, hB, of, q⟩ := h
    refine ⟨_, (pss_cons (ps_set (i := 2) sc_often.nd rfl (.inl rfl) pe_int)
 (pss_cons (ps_set (i := 3) sc_often.nd rfl (.inl rfl) (pe_call G_divided (hr.mono (by decide)) (by rfl) D_divided.g D_divided.F.kp D_divided.b .nil pass0 (pa_cons (pv 0) (pa_cons (pv 1) pa_nil))))
 (pss_cons (ps_while PassesOwn.never (pt_cmpR op_notN (pv 3) pe_non (nomark _))
  (pss_cons (ps_set (i := 2) sc_often.nd rfl (.inl rfl) (pe_op op_add (pv 2) pe_int))
 (pss_one (ps_set (i := 3) sc_often.nd rfl (.inl rfl) (pe_call G_divided (hr.mono (by decide)) (by rfl) D_divided.g D_divided.F.kp D_divided.b .nil pass0 (pa_cons (pv 3) (pa_cons (pv 1) pa_nil)))))))
 (pss_one (ps_ret (pv 2)))))), ?_⟩
    have body : ∃ o, Divs xs ys o ∧ ∀ (H1 : Hp) (v : V), Same H H1 → (o = none → v = .non) → (∀ z, o = some z → ∃ p, v = .ref p ∧ H1 p = some (.lst (IL z)) ∧ H p = none) →
        (v = .non ∧ n = 0 ∨ ∃ (p : Addr) (z : Pl) (r : Nat), n = r + 1 ∧ Often ys r z ∧ v = .ref p ∧ H1 p = some (.lst (IL z)) ∧ H p = none) := by
      cases of with
      | stop _ d => exact ⟨none, d, fun H1 v _ h1 _ => .inl ⟨h1 rfl, rfl⟩⟩
      | step r _ z d o => exact ⟨some z, d, fun H1 v _ _ h2 => let ⟨p, e, h, np⟩ := h2 z rfl; .inr ⟨p, z, r, rfl, o, e, h, np⟩⟩
    obtain ⟨o, dv, hb⟩ := body
    refine ⟨.ref a, rfl, .ref b, rfl, a, b, xs, ys, o, rfl, hA, hB, dv, ?_⟩
    have fin : ∀ (H1 : Hp) (v : V), Same H H1 → (o = none → v = .non) → (∀ z, o = some z → ∃ p, v = .ref p ∧ H1 p = some (.lst (IL z)) ∧ H p = none) → (tSeq (tWhile (tTest (tOp (fun x y H Q => y = V.non ∧ Q (V.bl (!decide (x = V.non))) H) (tVar 3) (tC V.non)))
      (tSeq (tAsg (tOp (rI0 fun i j => V.int (i + j)) (tVar 2) (tC (V.int 1))) (gName 2)) (tAsg (tCall (spDiv K) [] E0 (tCons (tVar 3) (tCons (tVar 1) tNil))) (gName 3)))) (tRet (tVar 2))) { nx := fun _ H' => Q V.non H', rt := Q } [some (.ref a), some (.ref b), some (.int 0), some v] H1 := by
      intro H1 v sm h1 h2
      refine ⟨fun (m : Nat) (σ : L2.St) (H1 : Hp) => ∃ (d : Nat) (v : V), d + m = n ∧ σ = [some (.ref a), some (.ref b), some (.int (d : Int)), some v] ∧ Same H H1 ∧ (v = .non ∧ m = 0 ∨ ∃ (p : Addr) (z : Pl) (r : Nat), m = r + 1 ∧ Often ys r z ∧ v = .ref p ∧ H1 p = some (.lst (IL z)) ∧ H p = none), ⟨n, 0, v, by omega, rfl, sm, hb H1 v sm h1 h2⟩, ?_⟩
      rintro m σ H2 ⟨d, v, e, rfl, sm, hv⟩
      refine ⟨_, rfl, rfl, _, rfl, ite2 (fun h1 => ?_) (fun h1 => ?_)⟩
      · rcases hv with ⟨rfl, _⟩ | ⟨p, z, r, rfl, oz, rfl, hp, np⟩
        · simp at h1
        · have e1 : ∀ v : V, ([some (V.ref a), some (V.ref b), some (V.int ((d : Int) + 1)), some v] : L2.St) = [some (V.ref a), some (V.ref b), some (V.int (((d + 1 : Nat) : Int))), some v] := fun v => by
            rw [show ((d + 1 : Nat) : Int) = (d : Int) + 1 by omega]
          cases oz with
          | stop _ dv =>
            refine ⟨_, fun _ _ h => h, _, rfl, _, _, rfl, rfl, .ref p, rfl, .ref b, rfl, p, b, z, ys, none, rfl, lst_of hp, sm.seq hB, dv, fun H3 s3 => ?_⟩
            exact ⟨0, by omega, d + 1, .non, by omega, e1 _, sm.trans s3, .inl ⟨rfl, rfl⟩⟩
          | step r _ z2 dv oz =>
            refine ⟨_, fun _ _ h => h, _, rfl, _, _, rfl, rfl, .ref p, rfl, .ref b, rfl, p, b, z, ys, some z2, rfl, lst_of hp, sm.seq hB, dv, fun H3 p3 s3 n3 h3 => ?_⟩
            exact ⟨r + 1, by omega, d + 1, .ref p3, by omega, e1 _, sm.trans s3, .inr ⟨p3, z2, r, rfl, oz, rfl, h3, sm.free n3⟩⟩
      · rcases hv with ⟨rfl, rfl⟩ | ⟨p, z, r, rfl, oz, rfl, hp, np⟩
        · refine ⟨_, rfl, ?_⟩
          have : d = n := by omega
          subst this
          exact q _ sm
        · simp at h1
    cases o with
    | none => exact fun H1 s1 => fin H1 .non s1 (fun _ => rfl) (fun z e => nomatch e)
    | some z => exact fun H1 p s1 np hp => fin H1 (.ref p) s1 (fun e => nomatch e) (fun z' e => by cases e; exact ⟨p, rfl, hp, np⟩)
/-! ### squarefree -/
def spSq (K : PySem.W.Frag) : Sp := fun vs H Q _ => ∃ (a : Addr) (xs g r : List Int) (n : Nat), vs = [.ref a] ∧ SqL K H a (IL xs) ∧ PrimFits xs ∧ PrimFits (primP xs) ∧ PrimFits (derP (primP xs)) ∧ primP xs ≠ [] ∧
  (∀ k : Nat, k < (primP xs).length → Fm ((k : Int) + 1) ((primP xs).getD (k + 1) 0)) ∧ GcdRun n (primP (primP xs)) (primP (derP (primP xs))) g ∧ Divs (primP xs) g (some r) ∧ spNew vs H Q r
theorem der_len (p : Pl) : (derP p).length = p.length - 1 := by simp [derP]
theorem ok_sq {f f1 f2 f3 : Addr} {fd fd1 fd2 fd3 : FuncData} (B : Bl mg) (D : Df K mg "squarefree" s_squarefree ["one"] f fd) (D_primitive : Df K mg "primitive" s_primitive ["one"] f1 fd1) (D_divided : Df K mg "divided" s_divided ["one", "two"] f2 fd2) (D_gcd : Df K mg "gcd" s_gcd ["one", "two"] f3 fd3)
    (G_primitive : FnOk P w K mg base CX0 2 f1 fd1 ["one"] (spPrim K)) (G_divided : FnOk P w K mg base CX0 1 f2 fd2 ["one", "two"] (spDiv K)) (G_gcd : FnOk P w K mg base CX0 4 f3 fd3 ["one", "two"] (spGcd K)) : FnOk P w K mg base CX0 5 f fd ["one"] (spSq K) := by
  refine D.F.ok sc_squarefree (fun vs H Q E h => ?_) (fun cdv A outer s H vs Q E hr h => ?_)
  · obtain ⟨a, xs, g, r, n, rfl, _⟩ := h
    rfl
  · obtain ⟨a, xs, g, r, n, rfl, hA, f1, f2, f3, ne, fm, run, dv, q⟩ := h
    refine ⟨_, (pss_cons (ps_set (i := 1) sc_squarefree.nd rfl (.inr rfl) (pe_call G_primitive (hr.mono (by decide)) (by rfl) D_primitive.g D_primitive.F.kp D_primitive.b .nil pass0 (pa_cons (pv 0) pa_nil)))
 (pss_one (ps_ret (pe_call G_divided (hr.mono (by decide)) (by rfl) D_divided.g D_divided.F.kp D_divided.b .nil pass0 (pa_cons (pv 1) (pa_cons (pe_call G_gcd (hr.mono (by decide)) (by rfl) D_gcd.g D_gcd.F.kp D_gcd.b .nil pass0 (pa_cons (pv 1) (pa_cons (pe_lc (own := [("k", 2)]) (g := gName 2) (tt := tYes) (by rfl) sc_squarefree.nd (pi_range2 (by rfl) B.range_ (pa_cons pe_int (pa_cons (pe_callB (call_lenK (K := K)) (by rfl) B.len_ (by decide +kernel) (pa_cons (pv 1) pa_nil)) pa_nil))) (blkOk_by (N := ["one", "own", "k"]) (sc := defScope s_squarefree) (by decide +kernel)) (fun _ _ _ _ _ => (pg_name (i := 2) sc_squarefree.nd rfl (.inl rfl))) (fun _ _ _ _ _ => pts_nil) (fun _ _ _ _ _ => (pe_op op_mulW (pv 2) (pe_ix (ix_listK (K := K)) (pv 1) (pv 2) (fun _ _ => rfl))))) pa_nil))) pa_nil)))))), ?_⟩
    refine ⟨.ref a, rfl, a, xs, rfl, hA, f1, fun H1 p s1 np hp => ?_⟩
    have l2 := f2.l
    generalize hO : primP xs = o at *
    have po : 0 < o.length := List.length_pos_iff.mpr ne
    refine ⟨.ref p, rfl, .ref p, rfl, .ref p, rfl, p, IL o, rfl, .inl (lst_of hp), 1, _, rfl, ⟨by omega, by omega, by rw [il_len]; omega, by rw [il_len]; omega⟩, fun C hC => ?_⟩
    rw [il_len, show ((o.length : Int) - 1).toNat = o.length - 1 by omega]
    refine lc_range (fun i H' => Same H H' ∧ H' p = some (.lst (IL o)) ∧ H' C = some (.lst (IL ((derP o).take i)))) ⟨s1.trans (same_new hC), (same_new hC) _ _ hp, upd_same⟩ (fun i H' hi h => ?_) (fun H' h => ?_)
    · obtain ⟨sm, hp', hc'⟩ := h
      have nC : p ≠ C := fun e => by
        subst e
        rw [hp] at hC
        cases hC
      refine ⟨rfl, _, rfl, .ref p, rfl, _, rfl, p, IL o, _, _, rfl, rfl, lst_of hp', il_at (j := i + 1) (by omega) (by omega), _, _, rfl, rfl, ?_, _, hc', ?_, same_mut sm (s1.free hC), ?_, ?_⟩
      · have := fm i (by omega)
        rw [Int.add_comm]
        exact this
      · rw [il_len, List.length_take, der_len]
        exact sz_lt (by omega)
      · rw [upd_ne nC]
        exact hp'
      · rw [upd_same, List.take_add_one, ← il_app, Int.add_comm]
        congr 3
        rw [derP, List.getElem?_map, List.getElem?_range hi]
        rfl
    · obtain ⟨sm, hp', hc'⟩ := h
      rw [show o.length - 1 = (derP o).length by rw [der_len], List.take_length] at hc'
      refine ⟨p, C, o, derP o, g, n, rfl, lst_of hp', lst_of hc', f2, f3, run, fun H3 t s3 nt ht => ?_⟩
      exact ⟨p, t, o, g, some r, rfl, lst_of (s3 _ _ hp'), lst_of ht, dv, fun H4 u s4 nu hu => q H4 u ((sm.trans s3).trans s4) ((sm.trans s3).free nu) hu⟩
end
end K78

set_option Elab.async false
set_option linter.all false
set_option maxRecDepth 100000
set_option maxHeartbeats 4000000
namespace K78
open PySem PySem.Spec PyProof.Rows L2 PA
section
variable {P : Program} {w : World} {K : PySem.W.Frag} {mg : Str → Option Value} {base : Heap}
/-! ### draws -/
def DrawsOk (ds : List Int) : Prop := (∀ d ∈ ds, 0 ≤ d ∧ d < 65536) ∧ ds.length ≤ 3780
theorem getD_mem {xs : List Int} {j : Nat} (h : j < xs.length) : xs.getD j 0 ∈ xs := by
  rw [List.getD_eq_getElem?_getD, List.getElem?_eq_getElem h]
  exact List.getElem_mem h
theorem fmod_rng (i : Int) {m : Int} (h : 0 < m) : 0 ≤ i.fmod m ∧ i.fmod m < m := by
  rw [Int.fmod_eq_emod_of_nonneg _ (by omega)]
  exact ⟨Int.emod_nonneg _ (by omega), Int.emod_lt_of_pos _ h⟩
def spDraws (K : PySem.W.Frag) : Sp := fun vs H Q _ => ∃ (a : Addr) (ns : List Int), vs = [.ref a] ∧ SqL K H a (IL ns) ∧ ns.length ≤ 63 ∧ ∀ ds, DrawsOk ds → spNew vs H Q ds
/-- what the list of draws is like behind i cells and j digits of one more -/
def DrIn (i j : Nat) (ds : List Int) : Prop := (∀ d ∈ ds, 0 ≤ d ∧ d < 65536) ∧ ds.length ≤ 60 * i + j
theorem DrIn.app {i j : Nat} {ds : List Int} (h : DrIn i j ds) {d : Int} (h0 : 0 ≤ d) (h1 : d < 65536) : DrIn i (j + 1) (ds ++ [d]) := by
  refine ⟨fun x hx => ?_, ?_⟩
  · rcases List.mem_append.mp hx with hx | hx
    · exact h.1 x hx
    · rw [List.mem_singleton] at hx
      subst hx
      exact ⟨h0, h1⟩
  · have := h.2
    rw [List.length_append]
    simp
    omega
theorem DrIn.le {i j i' j' : Nat} {ds : List Int} (h : DrIn i j ds) (e : 60 * i + j ≤ 60 * i' + j') : DrIn i' j' ds := ⟨h.1, Nat.le_trans h.2 e⟩
theorem il_snoc (xs : List Int) (d : Int) : IL xs ++ [.int d] = IL (xs ++ [d]) := by
  rw [← il_app]
  rfl
theorem ok_draws {f : Addr} {fd : FuncData} (B : Bl mg) (D : Df K mg "_law_draws" s_law_draws ["script"] f fd) : FnOk P w K mg base CX0 1 f fd ["script"] (spDraws K) := by
  refine D.F.ok sc_law_draws (fun vs H Q E h => ?_) (fun cdv A outer s H vs Q E hr h => ?_)
  · obtain ⟨a, xs, rfl, _⟩ := h
    rfl
  · obtain ⟨a, xs, rfl, hA, lx, q⟩ := h
    refine ⟨_, (pss_cons (ps_set (i := 1) sc_law_draws.nd rfl (.inl rfl) (pe_lst pa_nil))
 (pss_cons (ps_for PassesOwn.never rfl (pi_range1 (by rfl) B.range_ (pa_cons (pe_callB (call_min2 (by rfl)) (by rfl) B.min_ (by decide +kernel) (pa_cons pe_int (pa_cons (pe_callB (call_lenK (K := K)) (by rfl) B.len_ (by decide +kernel) (pa_cons (pv 0) pa_nil)) pa_nil))) pa_nil)) (pg_name (i := 2) sc_law_draws.nd rfl (.inl rfl))
  (pss_cons (ps_set (i := 3) sc_law_draws.nd rfl (.inl rfl) (pe_callB call_abs (by rfl) B.abs_ (by decide +kernel) (pa_cons (pe_ix (ix_listK (K := K)) (pv 0) (pv 2) (fun _ _ => rfl)) pa_nil)))
 (pss_one (ps_if (pt_cmpR op_ge (pv 3) (pe_op op_pow pe_int pe_int) (nomark _))
  (pss_one (ps_for PassesOwn.never rfl (pi_range1 (by rfl) B.range_ (pa_cons pe_int pa_nil)) (pg_name (i := 4) sc_law_draws.nd rfl (.inl rfl))
  (pss_one (ps_if (pt_cmpR op_gt (pv 3) pe_int (nomark _))
  (pss_cons (ps_expr (pe_bm PySem.F.plainAttrs_list PySem.F.slot_list_append PySem.F.type_list_append mt_append (pv 1) (pa_cons (pe_op op_modN (pe_callTy call_int1 (by rfl) B.int_ (by decide +kernel) (pa_cons (pv 3) pa_nil)) pe_int) pa_nil)))
 (pss_one (ps_set (i := 3) sc_law_draws.nd rfl (.inl rfl) (pe_op op_fdivG (pv 3) pe_int))))
  pss_nil))))
  (pss_cons (ps_set (i := 5) sc_law_draws.nd rfl (.inl rfl) (pe_op op_modN (pe_callTy call_int1 (by rfl) B.int_ (by decide +kernel) (pa_cons (pe_op op_add (pe_op op_mulW (pv 3) pe_int) (pe_op op_mulW (pe_op op_add (pv 2) pe_int) pe_int)) pa_nil)) pe_int))
 (pss_cons (ps_set (i := 5) sc_law_draws.nd rfl (.inl rfl) (pe_op op_modN (pe_callTy call_int1 (by rfl) B.int_ (by decide +kernel) (pa_cons (pe_op op_add (pe_op op_add (pe_op op_mulW (pv 5) pe_int) (pe_op op_mulW pe_int (pv 2))) pe_int) pa_nil)) pe_int))
 (pss_cons (ps_expr (pe_bm PySem.F.plainAttrs_list PySem.F.slot_list_append PySem.F.type_list_append mt_append (pv 1) (pa_cons (pe_op op_modN (pe_callTy call_int1 (by rfl) B.int_ (by decide +kernel) (pa_cons (pv 5) pa_nil)) pe_int) pa_nil)))
 (pss_one (ps_expr (pe_bm PySem.F.plainAttrs_list PySem.F.slot_list_append PySem.F.type_list_append mt_append (pv 1) (pa_cons (pe_op op_modN (pe_callTy call_int1 (by rfl) B.int_ (by decide +kernel) (pa_cons (pe_op op_fdivG (pv 5) pe_int) pa_nil)) pe_int) pa_nil)))))))))))
 (pss_one (ps_ret (pv 1))))), ?_⟩
    refine ⟨Nat.zero_le _, fun p hp => ?_⟩
    have s0 := same_new (o := .lst []) hp
    refine ⟨.ref a, rfl, a, IL xs, rfl, .inl (s0.seq hA), 63, _, rfl, ?_⟩
    have em : (if ((IL xs).length : Int) < 63 then ((IL xs).length : Int) else 63) = (xs.length : Int) := by
      rw [il_len]
      split <;> omega
    rw [em]
    refine ⟨_, rfl, by omega, by omega, ?_⟩
    rw [Int.toNat_natCast]
    refine for_range (fun i σ H' => ∃ (ds : List Int) (y1 y2 y3 y4 : Option V), DrIn i 0 ds ∧ σ = [some (.ref a), some (.ref p), y1, y2, y3, y4] ∧ Same H H' ∧ H' p = some (.lst (IL ds))) ⟨[], none, none, none, none, ⟨(fun _ h => nomatch h), Nat.zero_le _⟩, rfl, s0, upd_same⟩ (fun i σ H' hi h => ?_) (fun σ H' h => ?_)
    · obtain ⟨ds, y1, y2, y3, y4, hd, rfl, sm, hp'⟩ := h
      rw [Int.zero_add]
      refine ⟨.ref a, rfl, _, rfl, a, IL xs, _, _, rfl, rfl, sm.seq hA, il_at rfl hi, _, rfl, ?_⟩
      generalize hr0 : (if xs.getD i 0 < 0 then -(xs.getD i 0) else xs.getD i 0) = r0
      have r0n : 0 ≤ r0 := by
        rw [← hr0]
        split <;> omega
      refine ⟨_, rfl, 10, 18, rfl, rfl, ⟨by omega, by omega, by decide⟩, _, _, rfl, rfl, _, rfl, ite2 (fun h1 => ?_) (fun h1 => ?_)⟩
      · refine ⟨_, rfl, by omega, by omega, ?_⟩
        refine for_range (fun j σ H' => ∃ (ds : List Int) (r : Int) (y3 y4 : Option V), DrIn i j ds ∧ 0 ≤ r ∧ σ = [some (.ref a), some (.ref p), some (.int i), some (.int r), y3, y4] ∧ Same H H' ∧ H' p = some (.lst (IL ds))) ⟨ds, r0, y3, y4, hd, r0n, rfl, sm, hp'⟩ (fun j σ H' hj h => ?_) (fun σ H' h => ?_)
        · obtain ⟨ds, r, y3, y4, hd, r0, rfl, sm, hp'⟩ := h
          refine ⟨_, rfl, _, _, rfl, rfl, _, rfl, ite2 (fun h2 => ?_) (fun h2 => ?_)⟩
          · have hb := fmod_rng r (m := 65536) (by omega)
            refine ⟨.ref p, rfl, .inl ⟨rfl, _, lst_of hp'⟩, _, rfl, .inl ⟨_, rfl, _, _, rfl, rfl, by omega, p, _, _, rfl, rfl, hp', ?_, ?_⟩⟩
            · rw [il_len]
              exact sz_lt (by have := hd.2; omega)
            rw [il_snoc]
            have h63 : (if (63 : Int) < (xs.length : Int) then (63 : Int) else xs.length) = xs.length := by split <;> omega
            refine ⟨_, rfl, _, _, rfl, rfl, divG (by omega) (by decide +kernel), ds ++ [r.fmod 65536], r.fdiv 65536, _, _, hd.app hb.1 hb.2, ?_, rfl, same_mut sm hp, upd_same⟩
            rw [Int.fdiv_eq_ediv_of_nonneg _ (by omega)]
            exact Int.ediv_nonneg r0 (by omega)
          · exact ⟨ds, r, _, y4, hd.le (by omega), r0, rfl, sm, hp'⟩
        · obtain ⟨ds, r, y3, y4, hd, r0, rfl, sm, hp'⟩ := h
          exact ⟨ds, _, _, _, _, hd.le (by show 60 * i + 60 ≤ _; omega), rfl, sm, hp'⟩
      · have h2 : r0 < 1000000000000000000 := by
          have := of_decide_eq_false (Bool.not_eq_true _ ▸ h1)
          have e : (10 : Int) ^ (18 : Int).toNat = 1000000000000000000 := by decide
          rw [e] at this
          omega
        have f1 : CMulW r0 48271 := mulG (a := 60) (b := 16) (by omega) (by decide) (by decide) (by decide) (by decide)
        have f2 : CMulW ((i : Int) + 1) 69621 := mulG (a := 60) (b := 17) (by omega) (by decide) (by decide) (by decide) (by decide)
        refine ⟨_, rfl, _, _, rfl, rfl, f1, _, rfl, _, _, rfl, rfl, _, _, rfl, rfl, f2, _, _, rfl, rfl, .inl ⟨_, rfl, _, _, rfl, rfl, by omega, ?_⟩⟩
        have b1 := fmod_rng (r0 * 48271 + ((i : Int) + 1) * 69621) (m := 2147483647) (by omega)
        have f3 : CMulW ((r0 * 48271 + ((i : Int) + 1) * 69621).fmod 2147483647) 16807 := mulG (a := 60) (b := 16) (by omega) (by decide) (by decide) (by decide) (by decide)
        have f4 : CMulW 11 (i : Int) := mulG (a := 60) (b := 60) (by decide) (by omega) (by decide) (by decide) (by decide)
        refine ⟨_, rfl, _, _, rfl, rfl, f3, _, rfl, _, _, rfl, rfl, f4, _, _, rfl, rfl, _, _, rfl, rfl, .inl ⟨_, rfl, _, _, rfl, rfl, by omega, ?_⟩⟩
        have c1 := fmod_rng (((r0 * 48271 + ((i : Int) + 1) * 69621).fmod 2147483647 * 16807 + 11 * (i : Int) + 5).fmod 2147483629) (m := 65536) (by omega)
        have c2 := fmod_rng ((((r0 * 48271 + ((i : Int) + 1) * 69621).fmod 2147483647 * 16807 + 11 * (i : Int) + 5).fmod 2147483629).fdiv 65536) (m := 32768) (by omega)
        refine ⟨.ref p, rfl, .inl ⟨rfl, _, lst_of hp'⟩, _, rfl, .inl ⟨_, rfl, _, _, rfl, rfl, by omega, p, _, _, rfl, rfl, hp', ?_, ?_⟩⟩
        · rw [il_len]
          exact sz_lt (by have := hd.2; omega)
        rw [il_snoc]
        refine ⟨.ref p, rfl, .inl ⟨rfl, _, lst_of upd_same⟩, _, rfl, _, _, rfl, rfl, divG (by omega) (by decide +kernel), .inl ⟨_, rfl, _, _, rfl, rfl, by omega, p, _, _, rfl, rfl, upd_same, ?_, ?_⟩⟩
        · rw [il_len, List.length_append]
          exact sz_lt (by have := hd.2; simp; omega)
        rw [il_snoc]
        exact ⟨_, _, _, _, _, ((hd.app c1.1 c1.2).app c2.1 (by omega)).le (by omega), rfl, same_mut (same_mut sm hp) hp, upd_same⟩
    · obtain ⟨ds, y1, y2, y3, y4, hd, rfl, sm, hp'⟩ := h
      exact ⟨.ref p, rfl, q ds ⟨hd.1, by have := hd.2; omega⟩ _ p sm hp hp'⟩
/-! ### a mixed number -/
def spMix (K : PySem.W.Frag) : Sp := fun vs H Q _ => ∃ (a : Addr) (ds : List Int) (k many : Int), vs = [.ref a, .int k, .int many] ∧ SqL K H a (IL ds) ∧ DrawsOk ds ∧ 0 ≤ k ∧ k ≤ 1000 ∧ 0 < many ∧ ∀ r H', 0 ≤ r → r < many → Same H H' → Q (.int r) H'
theorem ok_mix {f : Addr} {fd : FuncData} (B : Bl mg) (D : Df K mg "_law_mix" s_law_mix ["draws", "k", "many"] f fd) : FnOk P w K mg base CX0 1 f fd ["draws", "k", "many"] (spMix K) := by
  refine D.F.ok sc_law_mix (fun vs H Q E h => ?_) (fun cdv A outer s H vs Q E hr h => ?_)
  · obtain ⟨a, xs, k, many, rfl, _⟩ := h
    rfl
  · obtain ⟨a, ds, k, many, rfl, hA, hd, k0, k1, m0, q⟩ := h
    refine ⟨_, (pss_cons (ps_set (i := 3) sc_law_mix.nd rfl (.inl rfl) pe_int)
 (C8.pss_cut (ps_if (pt_cmpR op_gt (pe_callB (call_lenK (K := K)) (by rfl) B.len_ (by decide +kernel) (pa_cons (pv 0) pa_nil)) pe_int (nomark _))
  (pss_one (ps_set (i := 3) sc_law_mix.nd rfl (.inl rfl) (pe_ix (ix_listK (K := K)) (pv 0) (pe_op op_modN (pe_callTy call_int1 (by rfl) B.int_ (by decide +kernel) (pa_cons (pv 1) pa_nil)) (pe_callB (call_lenK (K := K)) (by rfl) B.len_ (by decide +kernel) (pa_cons (pv 0) pa_nil))) (fun _ _ => rfl))))
  pss_nil)
 (pss_cons (ps_if (pt_cmpR op_lt (pv 1) (pe_callB (call_lenK (K := K)) (by rfl) B.len_ (by decide +kernel) (pa_cons (pv 0) pa_nil)) (nomark _))
  (pss_one (ps_ret (pe_op op_modN (pe_callTy call_int1 (by rfl) B.int_ (by decide +kernel) (pa_cons (pv 3) pa_nil)) (pv 2))))
  pss_nil)
 (pss_one (ps_ret (pe_op op_modN (pe_callTy call_int1 (by rfl) B.int_ (by decide +kernel) (pa_cons (pe_op op_fdivG (pe_callTy call_int1 (by rfl) B.int_ (by decide +kernel) (pa_cons (pe_op op_add (pe_op op_mulW (pv 3) pe_int) (pe_op op_mulW (pv 1) pe_int)) pa_nil)) pe_int) pa_nil)) (pv 2))))))), ?_⟩
    refine ⟨fun σ H' => ∃ v : Int, 0 ≤ v ∧ v < 65536 ∧ σ = [some (.ref a), some (.int k), some (.int many), some (.int v)] ∧ H' = H, ?_, ?_⟩
    · refine ⟨.ref a, rfl, a, IL ds, rfl, .inl hA, _, _, rfl, rfl, _, rfl, ite2 (fun h1 => ?_) (fun h1 => ?_)⟩
      · have hl : 0 < ds.length := by
          have := of_decide_eq_true h1
          rw [il_len] at this
          omega
        have hx := fmod_rng k (m := (ds.length : Int)) (by omega)
        refine ⟨.ref a, rfl, _, rfl, .inl ⟨_, rfl, .ref a, rfl, a, IL ds, rfl, .inl hA, _, _, rfl, rfl, by rw [il_len]; omega, ?_⟩⟩
        rw [il_len]
        obtain ⟨j, hj⟩ : ∃ j : Nat, k.fmod (ds.length : Int) = (j : Int) := ⟨(k.fmod (ds.length : Int)).toNat, by omega⟩
        obtain ⟨v0, v1⟩ := hd.1 _ (getD_mem (show j < ds.length by omega))
        exact ⟨a, IL ds, _, _, rfl, rfl, hA, il_at hj (by omega), _, v0, v1, rfl, rfl⟩
      · exact ⟨0, by omega, by omega, rfl, rfl⟩
    · rintro σ' H' ⟨v, v0, v1, rfl, rfl⟩
      refine ⟨_, rfl, .ref a, rfl, a, IL ds, rfl, .inl hA, _, _, rfl, rfl, _, rfl, ite2 (fun h1 => ?_) (fun h1 => ?_)⟩
      · have hx := fmod_rng v m0
        exact ⟨_, rfl, .inl ⟨_, rfl, _, rfl, _, _, rfl, rfl, by omega, q _ _ hx.1 hx.2 (Same.refl _)⟩⟩
      · have f1 : CMulW v 7919 := mulG (a := 60) (b := 16) (by omega) (by decide) (by decide) (by decide) (by decide)
        have f2 : CMulW k 104729 := mulG (a := 60) (b := 17) (by omega) (by decide) (by decide) (by decide) (by decide)
        refine ⟨_, rfl, _, _, rfl, rfl, f1, _, rfl, _, _, rfl, rfl, f2, _, _, rfl, rfl, .inl ⟨_, rfl, _, _, rfl, rfl, divG (by omega) (by decide +kernel), .inl ⟨_, rfl, _, rfl, _, _, rfl, rfl, by omega, ?_⟩⟩⟩
        have hx := fmod_rng ((v * 7919 + k * 104729).fdiv 3) m0
        exact q _ _ hx.1 hx.2 (Same.refl _)
end
end K78

set_option Elab.async false
set_option linter.all false
set_option maxRecDepth 100000
set_option maxHeartbeats 4000000
namespace K78
open PySem PySem.Spec PyProof.Rows L2 PA
section
variable {P : Program} {w : World} {K : PySem.W.Frag} {mg : Str → Option Value} {base : Heap}
/-! ### the law's own trimmed -/
theorem cut_il (xs : List Int) (m : Nat) (h : m ≤ xs.length) : cutV (IL xs) none (some (m : Int)) = IL (xs.take m) := by
  have e1 : HT.sIx (IL xs).length 0 none = 0 := HT.sIx_none ..
  have e2 : HT.sIx (IL xs).length (IL xs).length (some (m : Int)) = m := by
    rw [HT.sIx_nat, il_len]
    omega
  show (((IL xs).drop (HT.sIx (IL xs).length 0 none)).take (HT.sIx (IL xs).length (IL xs).length (some (m : Int)) - HT.sIx (IL xs).length 0 none)) = _
  rw [e1, e2, List.drop_zero, Nat.sub_zero, il_take]
theorem ok_ltrimmed {f : Addr} {fd : FuncData} (B : Bl mg) (D : Df K mg "_law_trimmed" s_law_trimmed ["numbers"] f fd) : FnOk P w K mg base CX0 1 f fd ["numbers"] (fun vs H Q E => ∃ (a : Addr) (ns : List Int), vs = [.ref a] ∧ SqL K H a (IL ns) ∧ ns.length ≤ 100000 ∧ spNew vs H Q (trim ns)) := by
  refine D.F.ok sc_law_trimmed (fun vs H Q E h => ?_) (fun cdv A outer s H vs Q E hr h => ?_)
  · obtain ⟨a, ns, rfl, _⟩ := h
    rfl
  · obtain ⟨a, ns, rfl, hS, ln, q⟩ := h
    refine ⟨_, (pss_cons (ps_set (i := 1) sc_law_trimmed.nd rfl (.inl rfl) (pe_callB (call_lenK (K := K)) (by rfl) B.len_ (by decide +kernel) (pa_cons (pv 0) pa_nil)))
 (pss_cons (ps_for PassesOwn.never rfl (pi_range1 (by rfl) B.range_ (pa_cons (pe_callB (call_lenK (K := K)) (by rfl) B.len_ (by decide +kernel) (pa_cons (pv 0) pa_nil)) pa_nil)) (pg_name (i := 2) sc_law_trimmed.nd rfl (.inl rfl))
  (pss_one (ps_if (PW.pt (pw_and (pt_cmpR op_gt (pv 1) pe_int (nomark _)) (pw_and1 (pt_cmpR op_eq (pe_ix (ix_listK (K := K)) (pv 0) (pe_op op_sub (pv 1) pe_int) (fun _ _ => rfl)) pe_int (nomark _)))))
  (pss_one (ps_set (i := 1) sc_law_trimmed.nd rfl (.inl rfl) (pe_op op_sub (pv 1) pe_int)))
  pss_nil)))
 (pss_one (ps_ret (pe_slice (sl_listK (K := K)) (pv 0) po_none (po_some (pv 1))))))), ?_⟩
    refine ⟨.ref a, rfl, a, IL ns, rfl, .inl hS, .ref a, rfl, a, IL ns, rfl, .inl hS, _, rfl, by rw [il_len]; omega, by rw [il_len]; omega, ?_⟩
    rw [il_len, Int.toNat_natCast]
    refine for_range (fun i σ H' => ∃ (t : Nat) (y : Option V), σ = [some (.ref a), some (.int t), y] ∧ H' = H ∧ t ≤ ns.length ∧ (∀ j, t ≤ j → j < ns.length → ns.getD j 0 = 0) ∧ (t + i = ns.length ∨ t = 0 ∨ ns.getD (t - 1) 0 ≠ 0))
      ⟨ns.length, none, rfl, rfl, Nat.le_refl _, fun j h1 h2 => absurd h2 (by omega), .inl rfl⟩ (fun i σ H' hi h => ?_) (fun σ H' h => ?_)
    · obtain ⟨t, y, rfl, rfl, hle, hz, hs⟩ := h
      rw [Int.zero_add]
      refine ⟨_, rfl, _, _, rfl, rfl, _, rfl, ite2 (fun h1 => ?a) (fun h1 => ?b)⟩
      case a =>
        have hm : 0 < t := by simpa using h1
        refine ⟨_, rfl, _, rfl, _, _, rfl, rfl, _, _, _, _, rfl, rfl, hS, il_at (j := t - 1) (by omega) (by omega), rfl, _, rfl, ite2 (fun h2 => ?go) (fun h2 => ?c)⟩
        case go =>
          refine ⟨_, rfl, _, _, rfl, rfl, t - 1, some (.int i), ?_, rfl, by omega, fun j h3 h4 => ?_, ?_⟩
          · show [some (V.ref a), some (V.int (↑t - 1)), some (V.int i)] = _
            rw [show ((t - 1 : Nat) : Int) = (t : Int) - 1 by omega]
          · by_cases h5 : j = t - 1
            · subst h5
              simpa using h2
            · exact hz j (by omega) h4
          · rcases hs with h | h | h
            · exact .inl (by omega)
            · omega
            · exact absurd (by simpa using h2) h
        case c => exact ⟨t, _, rfl, rfl, hle, hz, .inr (.inr (by simpa using h2))⟩
      case b => exact ⟨t, _, rfl, rfl, hle, hz, .inr (.inl (by simpa using h1))⟩
    · obtain ⟨t, y, rfl, rfl, hle, hz, hs⟩ := h
      refine ⟨.ref a, rfl, _, rfl, _, rfl, a, IL ns, rfl, hS, fun p hp => q _ p (same_new hp) hp ?_⟩
      rw [upd_same, cut_il ns t hle, trim_of ns t hle hz (by rcases hs with h | h; exact .inl (by omega); exact h)]
def spLTrim (K : PySem.W.Frag) : Sp := fun vs H Q E => ∃ (a : Addr) (ns : List Int), vs = [.ref a] ∧ SqL K H a (IL ns) ∧ ns.length ≤ 100000 ∧ spNew vs H Q (trim ns)
/-! ### the law's own product -/
def spTimes (K : PySem.W.Frag) : Sp := fun vs H Q E => ∃ (a b : Addr) (xs ys : List Int), vs = [.ref a, .ref b] ∧ SqL K H a (IL xs) ∧ SqL K H b (IL ys) ∧ xs.length ≤ 1000 ∧ ys.length ≤ 1000 ∧ (∀ x ∈ xs, ∀ y ∈ ys, Fm x y) ∧ spNew vs H Q (mulP xs ys)
theorem ok_times {f f1 : Addr} {fd fd1 : FuncData} (B : Bl mg) (D : Df K mg "_law_times" s_law_times ["one", "two"] f fd) (D_law_trimmed : Df K mg "_law_trimmed" s_law_trimmed ["numbers"] f1 fd1)
    (G_law_trimmed : FnOk P w K mg base CX0 1 f1 fd1 ["numbers"] (spLTrim K)) : FnOk P w K mg base CX0 2 f fd ["one", "two"] (spTimes K) := by
  refine D.F.ok sc_law_times (fun vs H Q E h => ?_) (fun cdv A outer s H vs Q E hr h => ?_)
  · obtain ⟨a, b, xs, ys, rfl, _⟩ := h
    rfl
  · obtain ⟨a, b, xs, ys, rfl, hA, hB, lx, ly, fm, q⟩ := h
    refine ⟨_, (pss_cons (ps_set (i := 2) sc_law_times.nd rfl (.inl rfl) (pe_op op_rep (pe_lst (pa_cons pe_int pa_nil)) (pe_op op_add (pe_callB (call_lenK (K := K)) (by rfl) B.len_ (by decide +kernel) (pa_cons (pv 0) pa_nil)) (pe_callB (call_lenK (K := K)) (by rfl) B.len_ (by decide +kernel) (pa_cons (pv 1) pa_nil)))))
 (pss_cons (ps_for PassesOwn.never rfl (pi_range1 (by rfl) B.range_ (pa_cons (pe_callB (call_lenK (K := K)) (by rfl) B.len_ (by decide +kernel) (pa_cons (pv 0) pa_nil)) pa_nil)) (pg_name (i := 3) sc_law_times.nd rfl (.inl rfl))
  (pss_one (ps_for PassesOwn.never rfl (pi_range1 (by rfl) B.range_ (pa_cons (pe_callB (call_lenK (K := K)) (by rfl) B.len_ (by decide +kernel) (pa_cons (pv 1) pa_nil)) pa_nil)) (pg_name (i := 4) sc_law_times.nd rfl (.inl rfl))
  (pss_one (ps_asg (pe_op op_add (pe_ix (ix_listK (K := K)) (pv 2) (pe_op op_add (pv 3) (pv 4)) (fun _ _ => rfl)) (pe_op op_mulW (pe_ix (ix_listK (K := K)) (pv 0) (pv 3) (fun _ _ => rfl)) (pe_ix (ix_listK (K := K)) (pv 1) (pv 4) (fun _ _ => rfl)))) (pg_sub (pv 2) (pe_op op_add (pv 3) (pv 4)) set_list))))))
 (pss_one (ps_ret (pe_call G_law_trimmed (hr.mono (by decide)) (by rfl) D_law_trimmed.g D_law_trimmed.F.kp D_law_trimmed.b .nil pass0 (pa_cons (pv 2) pa_nil)))))), ?_⟩
    refine ⟨Nat.succ_le_of_lt (by decide), fun p0 hp0 => ?_⟩
    have s0 := same_new (o := .lst [.int 0]) hp0
    refine ⟨.ref a, rfl, a, IL xs, rfl, .inl (s0.seq hA), .ref b, rfl, b, IL ys, rfl, .inl (s0.seq hB), _, _, rfl, rfl, p0, ((xs.length + ys.length : Nat) : Int), [.int 0], rfl, by rw [il_len, il_len]; rfl, upd_same, by omega, by omega, ?_, fun p hp => ?_⟩
    · show 1 * _ ≤ sizeLine
      exact sz_small (by omega)
    rw [Int.toNat_natCast, rep_il]
    have sm := s0.trans (same_new (o := .lst (IL (List.replicate (xs.length + ys.length) 0))) hp)
    have np : H p = none := s0.free hp
    have hz := upd_same (H := upd H p0 (.lst [.int 0])) (a := p) (o := .lst (IL (List.replicate (xs.length + ys.length) 0)))
    revert sm hz
    generalize upd (upd H p0 (.lst [.int 0])) p (.lst (IL (List.replicate (xs.length + ys.length) 0))) = H1
    intro sm hz
    refine ⟨.ref a, rfl, a, IL xs, rfl, .inl (sm.seq hA), _, rfl, by rw [il_len]; omega, by rw [il_len]; omega, ?_⟩
    rw [il_len, Int.toNat_natCast]
    refine for_range (fun i σ H' => ∃ (o : List Int) (y1 y2 : Option V), σ = [some (.ref a), some (.ref b), some (.ref p), y1, y2] ∧ Same H H' ∧ H' p = some (.lst (IL o)) ∧ o.length = xs.length + ys.length ∧ ∀ t, o.getD t 0 = (mulL (xs.take i) ys).getD t 0)
      ⟨_, none, none, rfl, sm, hz, List.length_replicate .., fun t => by rw [rep_getD]; rfl⟩ (fun i σ H' hi h => ?_) (fun σ H' h => ?_)
    · obtain ⟨o, y1, y2, rfl, sm, hp', lo, go⟩ := h
      rw [Int.zero_add]
      refine ⟨.ref b, rfl, b, IL ys, rfl, .inl (sm.seq hB), _, rfl, by rw [il_len]; omega, by rw [il_len]; omega, ?_⟩
      rw [il_len, Int.toNat_natCast]
      refine for_range (fun j σ H' => ∃ (o : List Int) (y2 : Option V), σ = [some (.ref a), some (.ref b), some (.ref p), some (.int i), y2] ∧ Same H H' ∧ H' p = some (.lst (IL o)) ∧ o.length = xs.length + ys.length ∧ ∀ t, o.getD t 0 = (mulL (xs.take i) ys).getD t 0 + if i ≤ t ∧ t < i + j then xs.getD i 0 * ys.getD (t - i) 0 else 0)
        ⟨o, y2, rfl, sm, hp', lo, fun t => by rw [if_neg (by omega), go, Int.add_zero]⟩ (fun j σ H' hj h => ?_) (fun σ H' h => ?_)
      · obtain ⟨o, y2, rfl, sm, hp', lo, go⟩ := h
        rw [Int.zero_add]
        refine ⟨.ref p, rfl, _, rfl, _, rfl, _, _, rfl, rfl, p, IL o, _, _, rfl, rfl, lst_of hp', il_at (j := i + j) (by omega) (by omega), .ref a, rfl, _, rfl, a, IL xs, _, _, rfl, rfl, sm.seq hA, il_at rfl hi, .ref b, rfl, _, rfl, b, IL ys, _, _, rfl, rfl, sm.seq hB, il_at rfl hj,
          _, _, rfl, rfl, fm _ (getD_mem hi) _ (getD_mem hj), _, _, rfl, rfl, .ref p, rfl, _, rfl, _, rfl, _, _, rfl, rfl, p, IL o, _, i + j, rfl, rfl, hp', ?_, o.set (i + j) (o.getD (i + j) 0 + xs.getD i 0 * ys.getD j 0), _, rfl, same_mut sm np, ?_, ?_, fun t => ?_⟩
        · rw [show ((i : Int) + (j : Int)) = ((i + j : Nat) : Int) by omega]
          exact il_ix (by omega)
        · rw [upd_same]
          exact congrArg (fun z => some (HO.lst z)) (il_set _ _ _)
        · rw [List.length_set, lo]
        · have e0 : o.getD (i + j) 0 = (mulL (xs.take i) ys).getD (i + j) 0 := by rw [go, if_neg (by omega), Int.add_zero]
          rw [set_getD, e0]
          by_cases e : i + j = t
          · subst e
            rw [if_pos ⟨rfl, by omega⟩, if_pos (by omega), show i + j - i = j by omega]
          · rw [if_neg (fun z => e z.1), go]
            by_cases h5 : i ≤ t ∧ t < i + j
            · rw [if_pos h5, if_pos (by omega)]
            · rw [if_neg h5, if_neg (by omega)]
      · obtain ⟨o, y2, rfl, sm, hp', lo, go⟩ := h
        exact ⟨o, _, _, rfl, sm, hp', lo, fun t => by rw [go, mulL_row xs ys i t hi]⟩
    · obtain ⟨o, y1, y2, rfl, sm, hp', lo, go⟩ := h
      rw [List.take_length] at go
      have e : trim o = mulP xs ys := trim_ext go
      exact ⟨.ref p, rfl, p, o, rfl, lst_of hp', by omega, fun H2 r s2 n2 h2 => q H2 r (sm.trans s2) (sm.free n2) (by rw [← e]; exact h2)⟩
/-! ### the law's own divisor -/
theorem bits_lt (i : Int) : i.natAbs < 2 ^ (Builtin.Int.intBits i) := by
  unfold Builtin.Int.intBits
  split
  · rename_i h
    have : i = 0 := by simpa using h
    subst this
    decide
  · exact Nat.lt_log2_self
def spLDiv (K : PySem.W.Frag) : Sp := fun vs H Q E => ∃ (a : Addr) (xs : List Int), vs = [.ref a] ∧ SqL K H a (IL xs) ∧ (∀ x ∈ xs, x.natAbs < 2 ^ 2000000) ∧ ∀ H', Same H H' → Q (.int (contP xs)) H'
end
end K78

set_option Elab.async false
set_option linter.all false
set_option maxRecDepth 100000
set_option maxHeartbeats 4000000
namespace K78
open PySem PySem.Spec PyProof.Rows L2 PA
section
variable {P : Program} {w : World} {K : PySem.W.Frag} {mg : Str → Option Value} {base : Heap}
/-- Euclid's turns: the product falls by half each time -/
def EuIn (y0 x y t : Nat) (x0 : Nat) : Prop := Nat.gcd x y = Nat.gcd x0 y0 ∧ ((t = 0 ∧ x = x0 ∧ y = y0) ∨ (1 ≤ t ∧ x * y * 2 ^ (t - 1) ≤ y0 * y0 ∧ (y < x ∨ y = 0)))
theorem eu_step {y0 x y t x0 : Nat} (h : EuIn y0 x y t x0) (hy : 0 < y) : EuIn y0 y (x % y) (t + 1) x0 := by
  obtain ⟨hg, h⟩ := h
  refine ⟨by rw [← hg, Nat.gcd_comm x y, Nat.gcd_rec y x, Nat.gcd_comm], .inr ⟨by omega, ?_, .inl (Nat.mod_lt _ hy)⟩⟩
  have hm := Nat.mod_lt x hy
  rcases h with ⟨rfl, rfl, rfl⟩ | ⟨ht, hp, hyx⟩
  · show y * (x % y) * 2 ^ 0 ≤ y * y
    rw [Nat.pow_zero, Nat.mul_one]
    exact Nat.mul_le_mul_left _ (by omega)
  · have hlt : y < x := by
      rcases hyx with h | h
      · exact h
      · omega
    have h2 : 2 * (x % y) ≤ x := by
      have e := Nat.div_add_mod x y
      have q1 : 1 ≤ x / y := (Nat.one_le_div_iff hy).mpr (by omega)
      have : y * 1 ≤ y * (x / y) := Nat.mul_le_mul_left _ q1
      omega
    have e : 2 ^ (t + 1 - 1) = 2 * 2 ^ (t - 1) := by
      rw [show t + 1 - 1 = (t - 1) + 1 by omega, Nat.pow_succ, Nat.mul_comm]
    rw [e]
    calc y * (x % y) * (2 * 2 ^ (t - 1)) = y * (2 * (x % y)) * 2 ^ (t - 1) := by
          simp only [Nat.mul_comm, Nat.mul_left_comm, Nat.mul_assoc]
      _ ≤ y * x * 2 ^ (t - 1) := Nat.mul_le_mul_right _ (Nat.mul_le_mul_left _ h2)
      _ = x * y * 2 ^ (t - 1) := by rw [Nat.mul_comm y x]
      _ ≤ y0 * y0 := hp
theorem eu_stay {y0 x t x0 : Nat} (h : EuIn y0 x 0 t x0) : EuIn y0 x 0 (t + 1) x0 := by
  obtain ⟨hg, h⟩ := h
  exact ⟨hg, .inr ⟨by omega, by simp, .inr rfl⟩⟩
theorem eu_end {y0 x y t x0 b : Nat} (h : EuIn y0 x y t x0) (hb : y0 < 2 ^ b) (ht : 2 * b + 1 < t) : y = 0 := by
  obtain ⟨hg, h⟩ := h
  rcases h with ⟨rfl, _, _⟩ | ⟨_, hp, hyx⟩
  · omega
  · rcases hyx with hyx | hyx
    · by_cases hy : y = 0
      · exact hy
      · exfalso
        have h1 : 1 ≤ x * y := Nat.mul_pos (by omega) (by omega)
        have h2 : 2 ^ (t - 1) ≤ x * y * 2 ^ (t - 1) := Nat.le_mul_of_pos_left _ h1
        have h3 : y0 * y0 < 2 ^ b * 2 ^ b := Nat.mul_lt_mul'' hb hb
        rw [← Nat.pow_add] at h3
        have h4 : 2 ^ (b + b) ≤ 2 ^ (t - 1) := Nat.pow_le_pow_right (by decide) (by omega)
        omega
    · exact hyx
theorem gcd_small {c n : Int} {N : Nat} (hc : c.natAbs < N) (hn : n.natAbs < N) : Int.gcd c n < N := by
  by_cases h : c.natAbs = 0
  · unfold Int.gcd
    rw [h, Nat.gcd_zero_left]
    exact hn
  · exact Nat.lt_of_le_of_lt (Nat.gcd_le_left _ (by omega)) hc
theorem cont_small {N : Nat} (h0 : 0 < N) : ∀ (xs : List Int) (c : Int), c.natAbs < N → (∀ x ∈ xs, x.natAbs < N) → (xs.foldl (fun c n => ((Int.gcd c n : Nat) : Int)) c).natAbs < N
  | [], c, hc, _ => hc
  | x :: r, c, hc, h => cont_small h0 r _ (by
      rw [Int.natAbs_natCast]
      exact gcd_small hc (h x (List.mem_cons_self ..))) fun y hy => h y (List.mem_cons_of_mem _ hy)
theorem cont_nn (xs : List Int) : 0 ≤ contP xs := by
  have : ∀ (xs : List Int) (c : Int), 0 ≤ c → 0 ≤ xs.foldl (fun c n => ((Int.gcd c n : Nat) : Int)) c := by
    intro xs
    induction xs with
    | nil => exact fun c h => h
    | cons x r ih => exact fun c _ => ih _ (Int.natCast_nonneg _)
  exact this xs 0 (Int.le_refl _)
theorem bits_le {i : Int} {n : Nat} (h : i.natAbs < 2 ^ n) : Builtin.Int.intBits i ≤ n := by
  unfold Builtin.Int.intBits
  split
  · exact Nat.zero_le _
  · rename_i h0
    have : i.natAbs ≠ 0 := fun e => h0 (by simpa using e)
    have := (Nat.log2_lt this).mpr h
    omega
def spLDivi (K : PySem.W.Frag) : Sp := fun vs H Q E => ∃ (a : Addr) (xs : List Int), vs = [.ref a] ∧ SqL K H a (IL xs) ∧ (∀ x ∈ xs, x.natAbs < 2 ^ 1000000) ∧ ∀ H', Same H H' → Q (.int (contP xs)) H'
theorem ok_ldivisor {f : Addr} {fd : FuncData} (B : Bl mg) (D : Df K mg "_law_divisor" s_law_divisor ["row"] f fd) : FnOk P w K mg base CX0 1 f fd ["row"] (spLDivi K) := by
  refine D.F.ok sc_law_divisor (fun vs H Q E h => ?_) (fun cdv A outer s H vs Q E hr h => ?_)
  · obtain ⟨a, xs, rfl, _⟩ := h
    rfl
  · obtain ⟨a, xs, rfl, hA, hx, q⟩ := h
    refine ⟨_, (pss_cons (ps_set (i := 1) sc_law_divisor.nd rfl (.inl rfl) pe_int)
 (pss_cons (ps_for PassesOwn.never rfl (pi_list (pv 0)) (pg_name (i := 2) sc_law_divisor.nd rfl (.inl rfl))
  (pss_cons (ps_set (i := 3) sc_law_divisor.nd rfl (.inl rfl) (pe_callB call_abs (by rfl) B.abs_ (by decide +kernel) (pa_cons (pv 2) pa_nil)))
 (pss_one (ps_for PassesOwn.never rfl (pi_range1 (by rfl) B.range_ (pa_cons (pe_op op_add (pe_op op_add pe_int (pe_op op_mulW pe_int (pe_bits (pv 1)))) (pe_op op_mulW pe_int (pe_bits (pv 3)))) pa_nil)) (pg_name (i := 4) sc_law_divisor.nd rfl (.inl rfl))
  (pss_one (ps_if (pt_cmpR op_gt (pv 3) pe_int (nomark _))
  (pss_cons (ps_set (i := 5) sc_law_divisor.nd rfl (.inl rfl) (pe_op op_modN (pe_callTy call_int1 (by rfl) B.int_ (by decide +kernel) (pa_cons (pv 1) pa_nil)) (pv 3)))
 (pss_cons (ps_set (i := 1) sc_law_divisor.nd rfl (.inl rfl) (pv 3))
 (pss_one (ps_set (i := 3) sc_law_divisor.nd rfl (.inl rfl) (pv 5)))))
  pss_nil))))))
 (pss_one (ps_ret (pv 1))))), ?_⟩
    refine ⟨.ref a, rfl, a, rfl, ⟨_, hA⟩, ?_⟩
    refine for_list (xs := IL xs) (fun i σ H' => ∃ (y1 y2 y3 y4 : Option V), σ = [some (.ref a), some (.int (contP (xs.take i))), y1, y2, y3, y4] ∧ Same H H') ⟨none, none, none, none, rfl, Same.refl _⟩ (fun i σ H' _ h => ?_) (fun i x σ H' hxi h => ?_) (fun σ H' h => ?_)
    · obtain ⟨y1, y2, y3, y4, rfl, sm⟩ := h
      exact sm.seq hA
    · obtain ⟨y1, y2, y3, y4, rfl, sm⟩ := h
      have hi : i < xs.length := by
        rw [← il_len xs]
        exact (List.getElem?_eq_some_iff.mp hxi).1
      rw [il_get hi] at hxi
      cases hxi
      have ab : ∀ i : Int, (if i < 0 then -i else i) = ((i.natAbs : Nat) : Int) := fun i => by
        split <;> omega
      refine ⟨_, rfl, _, rfl, ?_⟩
      rw [ab]
      have hc : (contP (xs.take i)).natAbs < 2 ^ 1000000 := cont_small (Nat.two_pow_pos _) _ 0 (Nat.two_pow_pos _) fun x h => hx x (List.mem_of_mem_take h)
      have hn := hx _ (getD_mem hi)
      have hcn := cont_nn (xs.take i)
      obtain ⟨x0, hx0⟩ : ∃ x0 : Nat, contP (xs.take i) = (x0 : Int) := ⟨(contP (xs.take i)).toNat, by omega⟩
      generalize hy0 : (xs.getD i 0).natAbs = y0 at *
      rw [hx0] at hc ⊢
      have b1 := bits_le hc
      have b2 : Builtin.Int.intBits (y0 : Int) ≤ 1000000 := bits_le (by simpa using hn)
      have f1 : ∀ n : Nat, n ≤ 1000000 → CMulW 2 (n : Int) := fun n h => mulG (a := 2) (b := 30) (by decide) (by omega) (by decide) (by decide) (by decide)
      refine ⟨_, rfl, _, rfl, _, _, rfl, rfl, f1 _ b1, _, _, rfl, rfl, _, rfl, _, rfl, _, _, rfl, rfl, f1 _ b2, _, _, rfl, rfl, _, rfl, by omega, by omega, ?_⟩
      rw [show (4 + 2 * ((Builtin.Int.intBits (x0 : Int) : Nat) : Int) + 2 * ((Builtin.Int.intBits (y0 : Int) : Nat) : Int)).toNat = 4 + 2 * Builtin.Int.intBits (x0 : Int) + 2 * Builtin.Int.intBits (y0 : Int) by omega]
      refine for_range (fun j σ H' => ∃ (x y : Nat) (y3 y4 : Option V), EuIn y0 x y j x0 ∧ σ = [some (.ref a), some (.int x), some (.int (xs.getD i 0)), some (.int y), y3, y4] ∧ Same H H') ⟨x0, y0, y3, y4, ⟨rfl, .inl ⟨rfl, rfl, rfl⟩⟩, rfl, sm⟩ (fun j σ H' hj h => ?_) (fun σ H' h => ?_)
      · obtain ⟨x, y, y3, y4, he, rfl, sm⟩ := h
        refine ⟨_, rfl, _, _, rfl, rfl, _, rfl, ite2 (fun h1 => ?_) (fun h1 => ?_)⟩
        · have hy : 0 < y := by simpa using h1
          refine ⟨_, rfl, .inl ⟨_, rfl, _, rfl, _, _, rfl, rfl, by omega, _, rfl, _, rfl, y, x % y, some (.int (0 + (j : Int))), some (.int ((x : Int).fmod (y : Int))), eu_step he hy, ?_, sm⟩⟩
          rw [show (((x % y : Nat)) : Int) = (x : Int).fmod (y : Int) by rw [Int.fmod_eq_emod_of_nonneg _ (by omega)]; rfl]
          rfl
        · have hy : y = 0 := by
            have : ¬ 0 < y := by simpa using h1
            omega
          subst hy
          exact ⟨x, 0, _, y4, eu_stay he, rfl, sm⟩
      · obtain ⟨x, y, y3, y4, he, rfl, sm⟩ := h
        have b3 : y0 < 2 ^ (Builtin.Int.intBits (y0 : Int)) := by simpa using bits_lt (y0 : Int)
        have hy := eu_end he b3 (by omega)
        subst hy
        have hg := he.1
        rw [Nat.gcd_zero_right] at hg
        refine ⟨some (.int (xs.getD i 0)), some (.int (0 : Nat)), y3, y4, ?_, sm⟩
        rw [cont_take hi, hx0]
        have : ((Int.gcd (x0 : Int) (xs.getD i 0) : Nat) : Int) = (x : Int) := by
          rw [hg]
          unfold Int.gcd
          rw [hy0]
          rfl
        rw [this]
    · obtain ⟨y1, y2, y3, y4, rfl, sm⟩ := h
      rw [il_len, List.take_length]
      exact ⟨_, rfl, q _ sm⟩
/-! ### data -/
def dI (xs : List Int) : PyData := .list (xs.map .int)
theorem dp_all {K : PySem.W.Frag} {H : Hp} : ∀ xs : List Int, DpAll K H (IL xs) (xs.map .int)
  | [] => .nil
  | x :: r => .cons (.int x) (dp_all r)
theorem dp_il {K : PySem.W.Frag} {H : Hp} {a : Addr} {xs : List Int} (h : SqL K H a (IL xs)) : Dp K H (.ref a) (dI xs) := .lst h (dp_all xs)
theorem can_all : ∀ xs : List Int, PyData.canLayAll0 (xs.map .int) = true
  | [] => rfl
  | x :: r => by
    show (PyData.canLay0 (.int x) && PyData.canLayAll0 (r.map .int)) = true
    rw [can_all r]
    rfl
theorem depth_all : ∀ xs : List Int, PyData.depthAll (xs.map .int) = 0
  | [] => rfl
  | x :: r => by
    show max (PyData.depth (.int x)) (PyData.depthAll (r.map .int)) = 0
    rw [depth_all r]
    rfl
theorem sh_dI (xs : List Int) : SeqAt.shaped (dI xs) = true := by
  unfold SeqAt.shaped dI
  rw [PyData.canLay0, can_all, PyData.depth, depth_all]
  rfl
theorem eqv_all : ∀ xs ys : List Int, PyData.eqvAll (xs.map .int) (ys.map .int) = decide (xs = ys)
  | [], [] => rfl
  | [], y :: r => rfl
  | x :: r, [] => rfl
  | x :: r, y :: t => by
    show (PyData.eqv (.int x) (.int y) && PyData.eqvAll (r.map .int) (t.map .int)) = _
    rw [eqv_all r t, PyData.eqv]
    by_cases h : x = y
    · by_cases h2 : r = t
      · simp [h, h2]
      · simp [h, h2]
    · simp [h]
theorem eqv_dI (xs ys : List Int) : PyData.eqv (dI xs) (dI ys) = decide (xs = ys) := by
  unfold dI
  rw [PyData.eqv]
  exact eqv_all xs ys
/-! ### the law's lowest form -/
def spLow (K : PySem.W.Frag) : Sp := fun vs H Q E => ∃ (a : Addr) (xs : List Int), vs = [.ref a] ∧ SqL K H a (IL xs) ∧ xs.length ≤ 1000 ∧ (∀ x ∈ xs, x.natAbs < 2 ^ 1000000) ∧ (xs ≠ [] → contP xs ≠ 0) ∧ (∀ x ∈ xs, CDivG x (sgc xs)) ∧ spNew vs H Q (primP xs)
theorem ok_lowest {f f1 : Addr} {fd fd1 : FuncData} (B : Bl mg) (D : Df K mg "_law_lowest" s_law_lowest ["one"] f fd) (D_law_divisor : Df K mg "_law_divisor" s_law_divisor ["row"] f1 fd1)
    (G_law_divisor : FnOk P w K mg base CX0 1 f1 fd1 ["row"] (spLDivi K)) : FnOk P w K mg base CX0 2 f fd ["one"] (spLow K) := by
  refine D.F.ok sc_law_lowest (fun vs H Q E h => ?_) (fun cdv A outer s H vs Q E hr h => ?_)
  · obtain ⟨a, xs, rfl, _⟩ := h
    rfl
  · obtain ⟨a, xs, rfl, hA, lx, hsm, hne, hdv, q⟩ := h
    refine ⟨_, (pss_cons (ps_if (pt_cmpR (op_eqDK (K := K) hr.units) (pv 0) (pe_lst pa_nil) (nomark _))
  (pss_one (ps_ret (pe_lst pa_nil)))
  pss_nil)
 (pss_cons (ps_set (i := 1) sc_law_lowest.nd rfl (.inr rfl) (pe_call G_law_divisor (hr.mono (by decide)) (by rfl) D_law_divisor.g D_law_divisor.F.kp D_law_divisor.b .nil pass0 (pa_cons (pv 0) pa_nil)))
 (C8.pss_cut (ps_if (pt_cmpR op_lt (pe_ix (ix_listK (K := K)) (pv 0) (pe_un un_neg pe_int) (fun _ _ => rfl)) pe_int (nomark _))
  (pss_one (ps_set (i := 1) sc_law_lowest.nd rfl (.inr rfl) (pe_un un_neg (pv 1))))
  pss_nil)
 (pss_one (ps_ret (pe_lc (own := [("number", 2)]) (g := gName 2) (tt := tYes) (by rfl) sc_law_lowest.nd (pi_list (pv 0)) (blkOk_by (N := ["one", "divisor", "number"]) (sc := defScope s_law_lowest) (by decide +kernel)) (fun _ _ _ _ _ => (pg_name (i := 2) sc_law_lowest.nd rfl (.inl rfl))) (fun _ _ _ _ _ => pts_nil) (fun _ _ _ _ _ => (pe_op op_fdivG (pv 2) (pv 1))))))))), ?_⟩
    refine ⟨.ref a, rfl, Nat.zero_le _, fun p hp => ?_⟩
    have s0 := same_new (o := .lst []) hp
    refine ⟨dI xs, dI [], dp_il (s0.seq hA), dp_il (xs := []) (lst_of upd_same), sh_dI _, sh_dI _, _, rfl, ?_⟩
    rw [eqv_dI]
    refine ite2 (fun h1 => ?_) (fun h1 => ?_)
    · have e : xs = [] := of_decide_eq_true h1
      subst e
      exact ⟨Nat.zero_le _, fun p2 hp2 => q _ p2 (s0.trans (same_new hp2)) (s0.free hp2) upd_same⟩
    · have ne : xs ≠ [] := fun e => h1 (decide_eq_true e)
      have hc := hne ne
      refine ⟨.ref a, rfl, a, xs, rfl, s0.seq hA, hsm, fun H2 s2 => ?_⟩
      have sm := s0.trans s2
      refine ⟨fun σ H' => σ = [some (.ref a), some (.int (sgc xs)), none] ∧ H' = H2, ?_, ?_⟩
      · refine ⟨.ref a, rfl, 1, rfl, _, _, _, _, rfl, rfl, sm.seq hA, at_last ne, _, _, rfl, rfl, _, rfl, ite2 (fun h2 => ?_) (fun h2 => ?_)⟩
        · refine ⟨_, rfl, _, rfl, ?_, rfl⟩
          rw [sgc, if_pos (by simpa using h2)]
          rfl
        · refine ⟨?_, rfl⟩
          rw [sgc, if_neg (by simpa using h2)]
          rfl
      · rintro σ' H' ⟨rfl, rfl⟩
        refine ⟨.ref a, rfl, a, rfl, ⟨_, sm.seq hA⟩, fun D hD => ?_⟩
        have nD : H D = none := sm.free hD
        refine lc_list (xs := IL xs) (fun i H' => Same H H' ∧ H' D = some (.lst (IL ((xs.take i).map (fun n => n.fdiv (sgc xs)))))) ⟨sm.trans (same_new hD), upd_same⟩ (fun i H' _ h => h.1.seq hA) (fun i x H' hx h => ?_) (fun H' h => ?_)
        · obtain ⟨sm, hL⟩ := h
          have hi : i < xs.length := by
            rw [← il_len xs]
            exact (List.getElem?_eq_some_iff.mp hx).1
          rw [il_get hi] at hx
          cases hx
          refine ⟨rfl, _, rfl, _, rfl, _, _, rfl, rfl, hdv _ (getD_mem hi), _, hL, ?_, same_mut sm nD, ?_⟩
          · rw [il_len, List.length_map, List.length_take]
            exact sz_lt (by omega)
          · rw [upd_same, List.take_add_one, List.getElem?_eq_getElem hi, List.getD_eq_getElem?_getD, List.getElem?_eq_getElem hi, List.map_append, ← il_app]
            rfl
        · obtain ⟨sm, hL⟩ := h
          refine q _ D sm nD ?_
          rw [hL, il_len, List.take_length, primP, if_neg hc]
end
end K78

set_option Elab.async false
set_option linter.all false
set_option maxRecDepth 100000
set_option maxHeartbeats 4000000
namespace K78
open PySem PySem.Spec PyProof.Rows L2 PA
section
variable {P : Program} {w : World} {K : PySem.W.Frag} {mg : Str → Option Value} {base : Heap}
theorem dvok_div {i j : Int} (h : DvOk i j) : CDivG i j := by
  obtain ⟨h0, h | ⟨q, e, hq⟩⟩ := h
  · exact divG h0 h
  · refine ⟨h0, ?_⟩
    unfold Builtin.divisionGoesByPylong
    rw [Bool.and_eq_false_iff]
    right
    rw [decide_eq_false_iff_not]
    intro z
    by_cases hi : i = 0
    · subst hi
      simp at z
    · have j0 : (j == 0) = false := by simpa using h0
      have i0 : (i == 0) = false := by simpa using hi
      simp only [j0, i0, Bool.false_eq_true, if_false] at z
      have hn : i.natAbs = j.natAbs * q.natAbs := by rw [e, Int.natAbs_mul]
      have hj : j.natAbs < 2 ^ (j.natAbs.log2 + 1) := Nat.lt_log2_self
      have hlt : i.natAbs < 2 ^ (j.natAbs.log2 + 1 + 4400) := by
        rw [hn, Nat.pow_add]
        exact Nat.mul_lt_mul'' hj hq
      have := (Nat.log2_lt (show i.natAbs ≠ 0 by omega)).mpr hlt
      omega
/-! ### the law's common factor -/
def spCommon (K : PySem.W.Frag) : Sp := fun vs H Q E => ∃ (a b : Addr) (xs ys g : List Int), vs = [.ref a, .ref b] ∧ SqL K H a (IL xs) ∧ SqL K H b (IL ys) ∧ LowOk xs ∧ LowOk ys ∧ LGcd ((primP xs).length + (primP ys).length + 2) (primP xs) (primP ys) g ∧ spNew vs H Q g
theorem ok_common {f f1 f2 : Addr} {fd fd1 fd2 : FuncData} (B : Bl mg) (D : Df K mg "_law_common" s_law_common ["one", "two"] f fd) (D_law_lowest : Df K mg "_law_lowest" s_law_lowest ["one"] f1 fd1) (D_law_trimmed : Df K mg "_law_trimmed" s_law_trimmed ["numbers"] f2 fd2)
    (G_law_lowest : FnOk P w K mg base CX0 2 f1 fd1 ["one"] (spLow K)) (G_law_trimmed : FnOk P w K mg base CX0 1 f2 fd2 ["numbers"] (spLTrim K)) : FnOk P w K mg base CX0 3 f fd ["one", "two"] (spCommon K) := by
  refine D.F.ok sc_law_common (fun vs H Q E h => ?_) (fun cdv A outer s H vs Q E hr h => ?_)
  · obtain ⟨a, b, xs, ys, g, rfl, _⟩ := h
    rfl
  · obtain ⟨a, b, xs, ys, g, rfl, hA, hB, lA, lB, run, q⟩ := h
    refine ⟨_, (pss_cons (ps_set (i := 0) sc_law_common.nd rfl (.inl rfl) (pe_call G_law_lowest (hr.mono (by decide)) (by rfl) D_law_lowest.g D_law_lowest.F.kp D_law_lowest.b .nil pass0 (pa_cons (pv 0) pa_nil)))
 (pss_cons (ps_set (i := 1) sc_law_common.nd rfl (.inr rfl) (pe_call G_law_lowest (hr.mono (by decide)) (by rfl) D_law_lowest.g D_law_lowest.F.kp D_law_lowest.b .nil pass0 (pa_cons (pv 1) pa_nil)))
 (pss_cons (ps_for PassesOwn.never rfl (pi_range1 (by rfl) B.range_ (pa_cons (pe_op op_add (pe_op op_add (pe_callB (call_lenK (K := K)) (by rfl) B.len_ (by decide +kernel) (pa_cons (pv 0) pa_nil)) (pe_callB (call_lenK (K := K)) (by rfl) B.len_ (by decide +kernel) (pa_cons (pv 1) pa_nil))) pe_int) pa_nil)) (pg_name (i := 2) sc_law_common.nd rfl (.inl rfl))
  (pss_cons (ps_if (pt_cmpR (op_eqDK (K := K) hr.units) (pv 1) (pe_lst pa_nil) (nomark _))
  (pss_one (ps_ret (pv 0)))
  pss_nil)
 (pss_cons (ps_set (i := 3) sc_law_common.nd rfl (.inl rfl) (pe_callTy call_list_of (by rfl) B.list_ (by decide +kernel) (pa_cons (pv 0) pa_nil)))
 (pss_cons (ps_for PassesOwn.never rfl (pi_range1 (by rfl) B.range_ (pa_cons (pe_op op_add (pe_callB (call_lenK (K := K)) (by rfl) B.len_ (by decide +kernel) (pa_cons (pv 0) pa_nil)) pe_int) pa_nil)) (pg_name (i := 4) sc_law_common.nd rfl (.inl rfl))
  (pss_one (ps_if (pt_cmpR op_ge (pe_callB (call_lenK (K := K)) (by rfl) B.len_ (by decide +kernel) (pa_cons (pv 3) pa_nil)) (pe_callB (call_lenK (K := K)) (by rfl) B.len_ (by decide +kernel) (pa_cons (pv 1) pa_nil)) (nomark _))
  (pss_cons (ps_set (i := 5) sc_law_common.nd rfl (.inl rfl) (pe_op op_sub (pe_callB (call_lenK (K := K)) (by rfl) B.len_ (by decide +kernel) (pa_cons (pv 3) pa_nil)) (pe_callB (call_lenK (K := K)) (by rfl) B.len_ (by decide +kernel) (pa_cons (pv 1) pa_nil))))
 (pss_cons (ps_set (i := 6) sc_law_common.nd rfl (.inl rfl) (pe_ix (ix_listK (K := K)) (pv 3) (pe_un un_neg pe_int) (fun _ _ => rfl)))
 (pss_cons (ps_setLc (i := 3) (own := [("number", 8)]) (g := gName 8) (tt := tYes) (by rfl) sc_law_common.nd rfl rfl (sw_true rfl rfl rfl (by decide +kernel)) (pi_list (pv 3)) (blkOk_by (N := ["one", "two", "turn", "rest", "step", "gap", "lead", "k", "number"]) (sc := defScope s_law_common) (by decide +kernel)) (fun _ _ _ _ _ => (pg_name (i := 8) sc_law_common.nd rfl (.inl rfl))) (fun _ _ _ _ _ => pts_nil) (fun _ _ _ _ _ => (pe_op op_mulW (pe_ix (ix_listK (K := K)) (pv 1) (pe_un un_neg pe_int) (fun _ _ => rfl)) (pv 8))))
 (pss_cons (ps_for PassesOwn.never rfl (pi_range1 (by rfl) B.range_ (pa_cons (pe_callB (call_lenK (K := K)) (by rfl) B.len_ (by decide +kernel) (pa_cons (pv 1) pa_nil)) pa_nil)) (pg_name (i := 7) sc_law_common.nd rfl (.inl rfl))
  (pss_one (ps_asg (pe_op op_sub (pe_ix (ix_listK (K := K)) (pv 3) (pe_op op_add (pv 5) (pv 7)) (fun _ _ => rfl)) (pe_op op_mulW (pv 6) (pe_ix (ix_listK (K := K)) (pv 1) (pv 7) (fun _ _ => rfl)))) (pg_sub (pv 3) (pe_op op_add (pv 5) (pv 7)) set_list))))
 (pss_one (ps_set (i := 3) sc_law_common.nd rfl (.inl rfl) (pe_call G_law_trimmed (hr.mono (by decide)) (by rfl) D_law_trimmed.g D_law_trimmed.F.kp D_law_trimmed.b .nil pass0 (pa_cons (pv 3) pa_nil))))))))
  pss_nil)))
 (pss_cons (ps_set (i := 0) sc_law_common.nd rfl (.inl rfl) (pv 1))
 (pss_one (ps_set (i := 1) sc_law_common.nd rfl (.inr rfl) (pe_call G_law_lowest (hr.mono (by decide)) (by rfl) D_law_lowest.g D_law_lowest.F.kp D_law_lowest.b .nil pass0 (pa_cons (pv 3) pa_nil)))))))))
 (pss_one (ps_ret (pv 0)))))), ?_⟩
    refine ⟨.ref a, rfl, a, xs, rfl, hA, lA.l, lA.s, lA.c, fun x hx => dvok_div (lA.d x hx), fun H1 p s1 np hp => ?_⟩
    refine ⟨.ref b, rfl, b, ys, rfl, s1.seq hB, lB.l, lB.s, lB.c, fun x hx => dvok_div (lB.d x hx), fun H2 r s2 nr hr' => ?_⟩
    have lp := prim_len xs
    have lq := prim_len ys
    have lA1 := lA.l
    have lB1 := lB.l
    refine ⟨.ref p, rfl, p, _, rfl, .inl (lst_of (s2 _ _ hp)), .ref r, rfl, r, _, rfl, .inl (lst_of hr'), _, _, rfl, rfl, _, _, rfl, rfl, _, rfl, by rw [il_len, il_len]; omega, by rw [il_len, il_len]; omega, ?_⟩
    rw [il_len, il_len, show (((primP xs).length : Int) + ((primP ys).length : Int) + 2).toNat = (primP xs).length + (primP ys).length + 2 by omega]
    generalize hN : (primP xs).length + (primP ys).length + 2 = N at *
    refine for_range (fun i σ H' => ∃ (p r : Addr) (x y : Pl) (y2 y3 y4 y5 y6 y7 y8 : Option V), σ = [some (.ref p), some (.ref r), y2, y3, y4, y5, y6, y7, y8] ∧ LGcd (N - i) x y g ∧ Same H H' ∧ H p = none ∧ H r = none ∧ H' p = some (.lst (IL x)) ∧ H' r = some (.lst (IL y)))
      ⟨p, r, _, _, none, none, none, none, none, none, none, rfl, run, s1.trans s2, np, s1.free nr, s2 _ _ hp, hr'⟩ (fun i σ H' hi h => ?_) (fun σ H' h => ?_)
    · obtain ⟨p, r, x, y, y2, y3, y4, y5, y6, y7, y8, rfl, rn, sm, np, nr, hp, hr'⟩ := h
      obtain ⟨k, hk⟩ : ∃ k, N - i = k + 1 := ⟨N - i - 1, by omega⟩
      rw [hk] at rn
      refine ⟨.ref r, rfl, Nat.zero_le _, fun e0 he0 => ?_⟩
      have s0 := same_new (o := .lst []) he0
      refine ⟨dI y, dI [], dp_il (s0.seq (lst_of hr')), dp_il (xs := []) (lst_of upd_same), sh_dI _, sh_dI _, _, rfl, ?_⟩
      rw [eqv_dI]
      refine ite2 (fun h1 => ?_) (fun h1 => ?_)
      · have e : y = [] := of_decide_eq_true h1
        subst e
        cases rn with
        | stop => exact ⟨.ref p, rfl, q _ p (sm.trans s0) np (s0 _ _ hp)⟩
        | step _ _ _ _ _ ne => exact absurd rfl ne
      · have ne : y ≠ [] := fun e => h1 (decide_eq_true e)
        cases rn with
        | stop => exact absurd rfl ne
        | step _ _ _ rest _ _ lx ly rm lo rn =>
        have py : 0 < y.length := List.length_pos_iff.mpr ne
        refine ⟨.ref p, rfl, p, _, rfl, .inl (lst_of (s0 _ _ hp)), fun L hL => ?_⟩
        have sL := (sm.trans s0).trans (same_new (o := .lst (IL x)) hL)
        have nL : H L = none := (sm.trans s0).free hL
        have hLL := upd_same (H := upd H' e0 (.lst [])) (a := L) (o := .lst (IL x))
        have hp1 := (same_new (o := .lst (IL x)) hL) _ _ (s0 _ _ hp)
        have hr1 := (same_new (o := .lst (IL x)) hL) _ _ (s0 _ _ hr')
        revert sL hLL hp1 hr1
        generalize upd (upd H' e0 (.lst [])) L (.lst (IL x)) = H3
        intro sL hLL hp1 hr1
        refine ⟨.ref p, rfl, p, _, rfl, .inl (lst_of hp1), _, _, rfl, rfl, _, rfl, by rw [il_len]; omega, by rw [il_len]; omega, ?_⟩
        rw [il_len, show ((x.length : Int) + 1).toNat = x.length + 1 by omega]
        refine for_range (fun j σ H' => ∃ (L : Addr) (l : Pl) (y4 y5 y6 y7 y8 : Option V), σ = [some (.ref p), some (.ref r), some (.int (0 + (i : Int))), some (.ref L), y4, y5, y6, y7, y8] ∧ LRem y (x.length + 1 - j) l rest ∧ Same H H' ∧ H L = none ∧ H' L = some (.lst (IL l)) ∧ H' p = some (.lst (IL x)) ∧ H' r = some (.lst (IL y)))
          ⟨L, x, y4, y5, y6, y7, y8, rfl, rm, sL, nL, hLL, hp1, hr1⟩ (fun j σ H' hj h => ?_) (fun σ H' h => ?_)
        · obtain ⟨L, l, y4, y5, y6, y7, y8, rfl, rm, sm, nL, hL, hp, hr'⟩ := h
          obtain ⟨m, hm⟩ : ∃ m, x.length + 1 - j = m + 1 := ⟨x.length + 1 - j - 1, by omega⟩
          have hm2 : x.length + 1 - (j + 1) = m := by omega
          rw [hm] at rm
          rw [hm2]
          refine ⟨.ref L, rfl, L, _, rfl, .inl (lst_of hL), .ref r, rfl, r, _, rfl, .inl (lst_of hr'), _, _, rfl, rfl, _, rfl, ite2 (fun h1 => ?_) (fun h1 => ?_)⟩
          · have hle : y.length ≤ l.length := by
              have := of_decide_eq_true h1
              rw [il_len, il_len] at this
              omega
            cases rm with
            | stop _ _ h => omega
            | step _ _ _ _ ll f1 f2 rm =>
            have nl : l ≠ [] := fun z => by
              subst z
              have : y.length ≤ 0 := hle
              omega
            refine ⟨.ref L, rfl, L, _, rfl, .inl (lst_of hL), .ref r, rfl, r, _, rfl, .inl (lst_of hr'), _, _, rfl, rfl, .ref L, rfl, 1, rfl, L, _, _, _, rfl, rfl, lst_of hL, at_last nl, ?_⟩
            rw [il_len, il_len]
            refine ⟨.ref L, rfl, L, rfl, ⟨_, lst_of hL⟩, fun C hC => ?_⟩
            have nC := sm.free hC
            refine lc_list (xs := IL l) (fun i H' => Same H H' ∧ H' L = some (.lst (IL l)) ∧ H' p = some (.lst (IL x)) ∧ H' r = some (.lst (IL y)) ∧ H' C = some (.lst (IL ((l.take i).map (lastP y * ·)))))
              ⟨sm.trans (same_new hC), (same_new hC) _ _ hL, (same_new hC) _ _ hp, (same_new hC) _ _ hr', upd_same⟩ (fun i H' _ h => lst_of h.2.1) (fun i v H' hv h => ?_) (fun H4 h => ?_)
            · obtain ⟨sm', hL', hp', hr'', hC'⟩ := h
              have hi : i < l.length := by
                rw [← il_len l]
                exact (List.getElem?_eq_some_iff.mp hv).1
              rw [il_get hi] at hv
              cases hv
              have nLC : L ≠ C := ne_of_none hL hC
              have npC : p ≠ C := ne_of_none hp hC
              have nrC : r ≠ C := ne_of_none hr' hC
              refine ⟨rfl, .ref r, rfl, 1, rfl, r, _, _, _, rfl, rfl, lst_of hr'', at_last ne, _, rfl, _, _, rfl, rfl, f1 _ (getD_mem hi), _, hC', ?_, same_mut sm' nC, ?_, ?_, ?_, ?_⟩
              · rw [il_len, List.length_map, List.length_take]
                exact sz_lt (by omega)
              · rw [upd_ne nLC]
                exact hL'
              · rw [upd_ne npC]
                exact hp'
              · rw [upd_ne nrC]
                exact hr''
              · rw [upd_same, List.take_add_one, List.getElem?_eq_getElem hi, List.getD_eq_getElem?_getD, List.getElem?_eq_getElem hi, List.map_append, ← il_app]
                rfl
            · obtain ⟨sm4, hL4, hp4, hr4, hC4⟩ := h
              have npC : p ≠ C := ne_of_none hp hC
              have nrC : r ≠ C := ne_of_none hr' hC
              rw [il_len, List.take_length] at hC4
              refine ⟨.ref r, rfl, r, _, rfl, .inl (lst_of hr4), _, rfl, by rw [il_len]; omega, by rw [il_len]; omega, ?_⟩
              rw [il_len, Int.toNat_natCast]
              refine for_range (fun t σ H' => ∃ (o : Pl) (y7 : Option V), σ = [some (.ref p), some (.ref r), some (.int (0 + (i : Int))), some (.ref C), some (.int (0 + (j : Int))), some (.int ((l.length : Int) - (y.length : Int))), some (.int (lastP l)), y7, y8] ∧ o.length = l.length ∧ (∀ u, o.getD u 0 = lastP y * l.getD u 0 - if l.length - y.length ≤ u ∧ u < l.length - y.length + t then lastP l * y.getD (u - (l.length - y.length)) 0 else 0) ∧ Same H H' ∧ H' C = some (.lst (IL o)) ∧ H' p = some (.lst (IL x)) ∧ H' r = some (.lst (IL y)))
                ⟨l.map (lastP y * ·), _, rfl, List.length_map .., fun u => by rw [if_neg (by omega), getD_map_mul, Int.sub_zero], sm4, hC4, hp4, hr4⟩ (fun t σ H' ht h => ?_) (fun σ H' h => ?_)
              · obtain ⟨o, y7, rfl, lo, go, sm', hC', hp', hr''⟩ := h
                rw [Int.zero_add]
                have eg : ((l.length : Int) - (y.length : Int) + (t : Int)) = ((l.length - y.length + t : Nat) : Int) := by omega
                refine ⟨.ref C, rfl, _, rfl, _, rfl, _, _, rfl, rfl, C, IL o, _, _, rfl, rfl, lst_of hC', il_at eg (by omega), _, rfl, .ref r, rfl, _, rfl, r, IL y, _, _, rfl, rfl, lst_of hr'', il_at rfl ht, _, _, rfl, rfl, f2 _ (getD_mem ht), _, _, rfl, rfl,
                  .ref C, rfl, _, rfl, _, rfl, _, _, rfl, rfl, C, IL o, _, l.length - y.length + t, rfl, rfl, hC', ?_, o.set (l.length - y.length + t) (o.getD (l.length - y.length + t) 0 - lastP l * y.getD t 0), _, rfl, ?_, fun u => ?_, same_mut sm' nC, ?_, ?_, ?_⟩
                · rw [eg]
                  exact il_ix (by omega)
                · rw [List.length_set, lo]
                · rw [set_getD]
                  by_cases e : l.length - y.length + t = u
                  · subst e
                    rw [if_pos ⟨rfl, by omega⟩, if_pos (by omega), go, if_neg (by omega), show l.length - y.length + t - (l.length - y.length) = t by omega, Int.sub_zero]
                  · rw [if_neg (fun z => e z.1), go]
                    by_cases h5 : l.length - y.length ≤ u ∧ u < l.length - y.length + t
                    · rw [if_pos h5, if_pos (by omega)]
                    · rw [if_neg h5, if_neg (by omega)]
                · rw [upd_same]
                  exact congrArg (fun z => some (HO.lst z)) (il_set _ _ _)
                · rw [upd_ne npC]
                  exact hp'
                · rw [upd_ne nrC]
                  exact hr''
              · obtain ⟨o, y7, rfl, lo, go, sm', hC', hp', hr''⟩ := h
                have e : trim o = stepRaw l y := by
                  rw [show stepRaw l y = trim (stepRaw l y) from ?_]
                  · refine trim_ext fun u => ?_
                    rw [go, stepRaw_get]
                    by_cases h5 : l.length - y.length ≤ u
                    · by_cases h6 : u < l.length - y.length + y.length
                      · rw [if_pos ⟨h5, h6⟩, if_pos h5, Int.neg_mul]
                        omega
                      · have z1 : y.getD (u - (l.length - y.length)) 0 = 0 := getD_far (by omega)
                        rw [if_neg (fun z => h6 z.2), if_pos h5, z1, Int.mul_zero]
                        omega
                    · rw [if_neg (fun z => h5 z.1), if_neg h5]
                      omega
                  · unfold stepRaw plusP
                    rw [trim_trim]
                refine ⟨.ref C, rfl, C, o, rfl, lst_of hC', by omega, fun H5 d s5 nd hd => ?_⟩
                rw [e] at hd
                exact ⟨d, _, _, _, _, _, _, rfl, rm, sm'.trans s5, sm'.free nd, hd, s5 _ _ hp', s5 _ _ hr''⟩
          · cases rm with
            | stop _ _ h => exact ⟨L, _, _, _, _, _, _, rfl, .stop _ _ h, sm, nL, hL, hp, hr'⟩
            | step _ _ _ h _ _ _ _ => exact absurd (decide_eq_true (show ((IL y).length : Int) ≤ ((IL l).length : Int) by rw [il_len, il_len]; omega)) h1
        · obtain ⟨L, l, y4, y5, y6, y7, y8, rfl, rm, sm, nL, hL, hp, hr'⟩ := h
          rw [Nat.sub_self] at rm
          cases rm
          refine ⟨.ref r, rfl, .ref L, rfl, L, _, rfl, lst_of hL, lo.l, lo.s, lo.c, fun x hx => dvok_div (lo.d x hx), fun H5 d s5 nd hd => ?_⟩
          refine ⟨r, d, _, _, _, _, _, _, _, _, _, rfl, ?_, sm.trans s5, nr, sm.free nd, s5 _ _ hr', hd⟩
          rw [show N - (i + 1) = k by omega]
          exact rn
    · obtain ⟨p, r, x, y, y2, y3, y4, y5, y6, y7, y8, rfl, rn, sm, np, nr, hp, hr'⟩ := h
      rw [Nat.sub_self] at rn
      cases rn
      exact ⟨.ref p, rfl, q _ p sm np hp⟩
end
end K78

set_option Elab.async false
set_option linter.all false
set_option maxRecDepth 100000
set_option maxHeartbeats 4000000
namespace K78
open PySem PySem.Spec PyProof.Rows L2 PA
section
variable {P : Program} {w : World} {K : PySem.W.Frag} {mg : Str → Option Value} {base : Heap}
/-! ### the law's divided -/
theorem ok_ldiv {f f1 : Addr} {fd fd1 : FuncData} (B : Bl mg) (D : Df K mg "_law_divided" s_law_divided ["one", "two"] f fd) (D_law_trimmed : Df K mg "_law_trimmed" s_law_trimmed ["numbers"] f1 fd1)
    (G_law_trimmed : FnOk P w K mg base CX0 1 f1 fd1 ["numbers"] (spLTrim K)) : FnOk P w K mg base CX0 2 f fd ["one", "two"] (spDiv K) := by
  refine D.F.ok sc_law_divided (fun vs H Q E h => ?_) (fun cdv A outer s H vs Q E hr h => ?_)
  · obtain ⟨a, b, xs, ys, o, rfl, _⟩ := h
    rfl
  · obtain ⟨a, b, xs, ys, o, rfl, hA, hB, dv, q⟩ := h
    obtain ⟨lf, lx, ly, res, run, hn, hsm⟩ := divs_run dv
    have ne : ys ≠ [] := fun z => by
      subst z
      exact lf.ne rfl
    have py : 0 < ys.length := List.length_pos_iff.mpr ne
    refine ⟨_, (pss_cons (ps_set (i := 2) sc_law_divided.nd rfl (.inl rfl) (pe_callTy call_list_of (by rfl) B.list_ (by decide +kernel) (pa_cons (pv 0) pa_nil)))
 (pss_cons (ps_set (i := 3) sc_law_divided.nd rfl (.inl rfl) (pe_op op_rep (pe_lst (pa_cons pe_int pa_nil)) (pe_callB (call_max2 (by rfl)) (by rfl) B.max_ (by decide +kernel) (pa_cons pe_int (pa_cons (pe_op op_add (pe_op op_sub (pe_callB (call_lenK (K := K)) (by rfl) B.len_ (by decide +kernel) (pa_cons (pv 0) pa_nil)) (pe_callB (call_lenK (K := K)) (by rfl) B.len_ (by decide +kernel) (pa_cons (pv 1) pa_nil))) pe_int) pa_nil)))))
 (pss_cons (ps_for PassesOwn.never rfl (pi_range1 (by rfl) B.range_ (pa_cons (pe_callB (call_lenK (K := K)) (by rfl) B.len_ (by decide +kernel) (pa_cons (pv 3) pa_nil)) pa_nil)) (pg_name (i := 4) sc_law_divided.nd rfl (.inl rfl))
  (pss_cons (ps_set (i := 5) sc_law_divided.nd rfl (.inl rfl) (pe_op op_sub (pe_op op_sub (pe_callB (call_lenK (K := K)) (by rfl) B.len_ (by decide +kernel) (pa_cons (pv 3) pa_nil)) pe_int) (pv 4)))
 (pss_cons (ps_set (i := 6) sc_law_divided.nd rfl (.inl rfl) (pe_ix (ix_listK (K := K)) (pv 2) (pe_op op_sub (pe_op op_add (pv 5) (pe_callB (call_lenK (K := K)) (by rfl) B.len_ (by decide +kernel) (pa_cons (pv 1) pa_nil))) pe_int) (fun _ _ => rfl)))
 (pss_cons (ps_if (pt_cmpR op_ne (pe_op op_modN (pe_callTy call_int1 (by rfl) B.int_ (by decide +kernel) (pa_cons (pv 6) pa_nil)) (pe_ix (ix_listK (K := K)) (pv 1) (pe_un un_neg pe_int) (fun _ _ => rfl))) pe_int (nomark _))
  (pss_one (ps_ret pe_non))
  pss_nil)
 (pss_cons (ps_asg (pe_op op_fdivG (pv 6) (pe_ix (ix_listK (K := K)) (pv 1) (pe_un un_neg pe_int) (fun _ _ => rfl))) (pg_sub (pv 3) (pv 5) set_list))
 (pss_one (ps_for PassesOwn.never rfl (pi_range1 (by rfl) B.range_ (pa_cons (pe_callB (call_lenK (K := K)) (by rfl) B.len_ (by decide +kernel) (pa_cons (pv 1) pa_nil)) pa_nil)) (pg_name (i := 7) sc_law_divided.nd rfl (.inl rfl))
  (pss_one (ps_asg (pe_op op_sub (pe_ix (ix_listK (K := K)) (pv 2) (pe_op op_add (pv 5) (pv 7)) (fun _ _ => rfl)) (pe_op op_mulW (pe_ix (ix_listK (K := K)) (pv 3) (pv 5) (fun _ _ => rfl)) (pe_ix (ix_listK (K := K)) (pv 1) (pv 7) (fun _ _ => rfl)))) (pg_sub (pv 2) (pe_op op_add (pv 5) (pv 7)) set_list))))))))))
 (pss_cons (ps_if (pt_cmpR (op_neDK (K := K) hr.units) (pe_call G_law_trimmed (hr.mono (by decide)) (by rfl) D_law_trimmed.g D_law_trimmed.F.kp D_law_trimmed.b .nil pass0 (pa_cons (pv 2) pa_nil)) (pe_lst pa_nil) (nomark _))
  (pss_one (ps_ret pe_non))
  pss_nil)
 (pss_one (ps_ret (pv 3))))))), ?_⟩
    refine ⟨.ref a, rfl, a, IL xs, rfl, .inl hA, fun L hL => ?_⟩
    have s1 := same_new (o := .lst (IL xs)) hL
    have i1 := upd_same (H := H) (a := L) (o := .lst (IL xs))
    revert s1 i1
    generalize upd H L (.lst (IL xs)) = H1
    intro s1 i1
    refine ⟨Nat.succ_le_of_lt (by decide), fun p0 hp0 => ⟨.ref a, rfl, a, IL xs, rfl, .inl ((s1.trans (same_new hp0)).seq hA), .ref b, rfl, b, IL ys, rfl, .inl ((s1.trans (same_new hp0)).seq hB), _, _, rfl, rfl, _, _, rfl, rfl, _, _, rfl, p0, ((max 0 (xs.length + 1 - ys.length) : Nat) : Int), [.int 0], rfl, ?_, upd_same, by omega, by omega, ?_, fun p hp => ?_⟩⟩
    · show V.int (if ((IL xs).length : Int) - ((IL ys).length : Int) + 1 > 0 then ((IL xs).length : Int) - ((IL ys).length : Int) + 1 else 0) = _
      rw [il_len, il_len]
      congr 1
      split <;> omega
    · show 1 * _ ≤ sizeLine
      exact sz_small (by omega)
    rw [Int.toNat_natCast, Nat.zero_max, rep_il]
    have s2 := (s1.trans (same_new hp0)).trans (same_new (o := .lst (IL (List.replicate (xs.length + 1 - ys.length) 0))) hp)
    have i2 : (upd (upd H1 p0 (.lst [.int 0])) p (.lst (IL (List.replicate (xs.length + 1 - ys.length) 0)))) L = some (.lst (IL xs)) := (same_new hp) _ _ ((same_new hp0) _ _ i1)
    have i3 := upd_same (H := upd H1 p0 (.lst [.int 0])) (a := p) (o := .lst (IL (List.replicate (xs.length + 1 - ys.length) 0)))
    have np : H p = none := s1.free ((same_new hp0).free hp)
    have nLp : L ≠ p := ne_of_none ((same_new hp0) _ _ i1) hp
    revert s2 i2 i3
    generalize upd (upd H1 p0 (.lst [.int 0])) p (.lst (IL (List.replicate (xs.length + 1 - ys.length) 0))) = H2
    intro s2 i2 i3
    generalize hN : xs.length + 1 - ys.length = N at *
    refine ⟨.ref p, rfl, p, _, rfl, .inl (lst_of i3), _, rfl, by omega, by rw [il_len, List.length_replicate]; omega, ?_⟩
    rw [il_len, List.length_replicate, Int.toNat_natCast]
    refine for_range (fun i σ H' => ∃ (l out : Pl) (y1 y2 y3 y4 : Option V), DivRun ys (N - i) l out res ∧ l.length = xs.length ∧ out.length = N ∧ σ = [some (.ref a), some (.ref b), some (.ref L), some (.ref p), y1, y2, y3, y4] ∧ Same H H' ∧ H' L = some (.lst (IL l)) ∧ H' p = some (.lst (IL out)))
      ⟨xs, _, none, none, none, none, run, rfl, by rw [List.length_replicate], rfl, s2, i2, i3⟩ (fun i σ H' hi h => ?_) (fun σ H' h => ?_)
    · obtain ⟨l, out, y1, y2, y3, y4, rn, ll, lo, rfl, sm, hl, ho⟩ := h
      obtain ⟨k, hk⟩ : ∃ k, N - i = k + 1 := ⟨N - i - 1, by omega⟩
      rw [hk] at rn
      have hkl : k + ys.length ≤ l.length := by omega
      refine ⟨.ref p, rfl, p, _, rfl, .inl (lst_of ho), _, _, rfl, rfl, _, rfl, _, _, rfl, rfl, ?_⟩
      dsimp only
      rw [il_len, lo, show ((N : Nat) : Int) - 1 - (0 + (i : Int)) = (k : Int) by omega]
      have g1 : atI (IL l) ((k : Int) + ((IL ys).length : Int) - 1) = some (.int (l.getD (k + ys.length - 1) 0)) := il_at (by rw [il_len]; omega) (by omega)
      refine ⟨.ref L, rfl, _, rfl, .ref b, rfl, b, _, rfl, .inl (sm.seq hB), _, _, rfl, rfl, _, _, rfl, rfl, L, IL l, _, _, rfl, rfl, lst_of hl, g1, ?_⟩
      refine ⟨_, rfl, .inl ⟨_, rfl, .ref b, rfl, 1, rfl, b, IL ys, _, _, rfl, rfl, sm.seq hB, at_last ne, _, _, rfl, rfl, lf.ne, rfl, _, rfl, ite2 (fun h1 => ?_) (fun h1 => ?_)⟩⟩
      · have e1 : (l.getD (k + ys.length - 1) 0).fmod (lastP ys) ≠ 0 := by simpa using h1
        cases rn with
        | none _ _ _ e =>
          have := hn rfl
          subst this
          exact q _ sm
        | step _ _ _ _ e _ _ => exact absurd e e1
      · have e1 : (l.getD (k + ys.length - 1) 0).fmod (lastP ys) = 0 := by simpa using h1
        cases rn with
        | none _ _ _ e => exact absurd e1 e
        | step _ _ _ _ _ hfm rn =>
          revert hfm rn
          generalize hc : (l.getD (k + ys.length - 1) 0).fdiv (lastP ys) = c
          intro hfm rn
          refine ⟨_, rfl, .ref b, rfl, 1, rfl, b, IL ys, _, _, rfl, rfl, sm.seq hB, at_last ne, _, _, rfl, rfl, divG lf.ne lf.sm, .ref p, rfl, _, rfl, p, IL out, _, k, rfl, rfl, ho, il_ix (by omega), ?_⟩
          rw [il_set, hc]
          have sm1 : Same H (upd H' p (.lst (IL (out.set k c)))) := same_mut sm np
          have ho1 := upd_same (H := H') (a := p) (o := .lst (IL (out.set k c)))
          have hl1 : (upd H' p (.lst (IL (out.set k c)))) L = some (.lst (IL l)) := by
            rw [upd_ne nLp]
            exact hl
          revert sm1 ho1 hl1
          generalize upd H' p (.lst (IL (out.set k c))) = H3
          intro sm1 ho1 hl1
          refine ⟨.ref b, rfl, b, _, rfl, .inl (sm1.seq hB), _, rfl, by rw [il_len]; omega, by rw [il_len]; omega, ?_⟩
          rw [il_len, Int.toNat_natCast]
          refine for_range (fun j σ H' => ∃ (l2 : Pl) (y4 : Option V), l2.length = l.length ∧ (∀ t, l2.getD t 0 = if k ≤ t ∧ t < k + j then l.getD t 0 - c * ys.getD (t - k) 0 else l.getD t 0) ∧ σ = [some (.ref a), some (.ref b), some (.ref L), some (.ref p), some (.int (0 + (i : Int))), some (.int k), some (.int (l.getD (k + ys.length - 1) 0)), y4] ∧ Same H H' ∧ H' L = some (.lst (IL l2)) ∧ H' p = some (.lst (IL (out.set k c))))
            ⟨l, y4, rfl, fun t => by rw [if_neg (by omega)], rfl, sm1, hl1, ho1⟩ (fun j σ H' hj h => ?_) (fun σ H' h => ?_)
          · obtain ⟨l2, y4, ll2, gl2, rfl, sm', hl', ho'⟩ := h
            rw [Int.zero_add]
            have nL : H L = none := hL
            refine ⟨.ref L, rfl, _, rfl, _, rfl, _, _, rfl, rfl, L, IL l2, _, _, rfl, rfl, lst_of hl', il_at (j := k + j) (by omega) (by omega), .ref p, rfl, _, rfl, p, IL (out.set k c), _, _, rfl, rfl, lst_of ho', il_at rfl (by rw [List.length_set]; omega), .ref b, rfl, _, rfl, b, IL ys, _, _, rfl, rfl, sm'.seq hB, il_at rfl hj, _, _, rfl, rfl, ?_, _, _, rfl, rfl,
              .ref L, rfl, _, rfl, _, rfl, _, _, rfl, rfl, L, IL l2, _, k + j, rfl, rfl, hl', ?_, l2.set (k + j) (l2.getD (k + j) 0 - c * ys.getD j 0), _, ?_, ?_, rfl, same_mut sm' nL, ?_, ?_⟩
            · rw [set_getD, if_pos ⟨rfl, by omega⟩]
              exact hfm _ (getD_mem hj)
            · rw [show ((k : Int) + (j : Int)) = ((k + j : Nat) : Int) by omega]
              exact il_ix (by omega)
            · rw [List.length_set, ll2]
            · intro t
              have e0 : l2.getD (k + j) 0 = l.getD (k + j) 0 := by rw [gl2, if_neg (by omega)]
              rw [set_getD, e0]
              by_cases e : k + j = t
              · subst e
                rw [if_pos ⟨rfl, by omega⟩, if_pos (by omega), show k + j - k = j by omega]
              · rw [if_neg (fun z => e z.1), gl2]
                by_cases h5 : k ≤ t ∧ t < k + j
                · rw [if_pos h5, if_pos (by omega)]
                · rw [if_neg h5, if_neg (by omega)]
            · rw [upd_same, set_getD, if_pos ⟨rfl, by omega⟩]
              exact congrArg (fun z => some (HO.lst z)) (il_set _ _ _)
            · rw [upd_ne nLp.symm]
              exact ho'
          · obtain ⟨l2, y4, ll2, gl2, rfl, sm', hl', ho'⟩ := h
            have e2 : l2 = subAt l ys k c := ext_getD (by rw [ll2, subAt_len]) fun t => by
              rw [gl2, subAt_get]
              by_cases h5 : k ≤ t ∧ t < k + ys.length
              · rw [if_pos h5, if_pos ⟨h5.1, h5.2, by omega⟩]
              · rw [if_neg h5, if_neg (fun z => h5 ⟨z.1, z.2.1⟩)]
            subst e2
            refine ⟨_, _, _, _, _, _, ?_, by rw [ll2, ll], by rw [List.length_set, lo], rfl, sm', hl', ho'⟩
            rw [show N - (i + 1) = k by omega]
            exact rn
    · obtain ⟨l, out, y1, y2, y3, y4, rn, ll, lo, rfl, sm, hl, ho⟩ := h
      rw [Nat.sub_self] at rn
      cases rn
      refine ⟨.ref L, rfl, L, l, rfl, lst_of hl, by omega, fun H5 t s5 nt ht => ?_⟩
      refine ⟨Nat.zero_le _, fun e0 he0 => ?_⟩
      have s0 := same_new (o := .lst []) he0
      refine ⟨dI (trim l), dI [], dp_il (s0.seq (lst_of ht)), dp_il (xs := []) (lst_of upd_same), sh_dI _, sh_dI _, _, rfl, ?_⟩
      have sm5 := (sm.trans s5).trans s0
      rw [eqv_dI]
      refine ite2 (fun h1 => ?_) (fun h1 => ?_)
      · have ex : trim l ≠ [] := by simpa using h1
        rcases hsm l out rfl with ⟨_, e⟩ | ⟨h2, _⟩
        · subst e
          exact q _ sm5
        · exact absurd (trim_zero fun t => by
            by_cases ht : t < l.length
            · exact h2 _ (getD_mem ht)
            · exact getD_far (by omega)) ex
      · have ex : trim l = [] := by simpa using h1
        have hz : ∀ x ∈ l, x = 0 := fun x hx => by
          obtain ⟨t, ht, e⟩ := List.getElem_of_mem hx
          have := trim_get l t
          have e2 : l.getD t 0 = x := by
            rw [List.getD_eq_getElem?_getD, List.getElem?_eq_getElem ht, e]
            rfl
          rw [ex, e2] at this
          exact this.symm
        rcases hsm l out rfl with ⟨⟨x, hx, h3⟩, _⟩ | ⟨_, e⟩
        · exact absurd (hz x hx) h3
        · subst e
          exact ⟨.ref p, rfl, q _ p sm5 np (s0 _ _ (s5 _ _ ho))⟩
end
end K78

set_option Elab.async false
set_option linter.all false
set_option maxRecDepth 100000
set_option maxHeartbeats 4000000
namespace K78
open PySem PySem.Spec PyProof.Rows L2 PA
section
variable {P : Program} {w : World} {K : PySem.W.Frag} {mg : Str → Option Value} {base : Heap}
/-! ### is_list: a new list of ints -/
def spIsL (K : PySem.W.Frag) : Sp := fun vs H Q E => ∃ (a : Addr) (xs : List Int), vs = [.ref a] ∧ H a = some (.lst (IL xs)) ∧ ∀ H', Same H H' → Q (.bl true) H'
theorem ok_isl {f : Addr} {fd : FuncData} (B : Bl mg) (D : Df K mg "_law_is_list" s_law_is_list ["told"] f fd) : FnOk P w K mg base CX0 1 f fd ["told"] (spIsL K) := by
  refine D.F.ok sc_law_is_list (fun vs H Q E h => ?_) (fun cdv A outer s H vs Q E hr h => ?_)
  · obtain ⟨a, xs, rfl, _⟩ := h
    rfl
  · obtain ⟨a, xs, rfl, hA, q⟩ := h
    refine ⟨_, (pss_one (ps_ret (pe_and (pe_callB (call_isiK' (K := K)) (by rfl) B.isinstance_ (by decide +kernel) (pa_cons (pv 0) (pa_cons (pe_bltn (v := .ty "list") (u := .type "list") (by rfl) B.list_ (by decide +kernel) rfl) pa_nil))) (pe_one (pe_cmpR (op_eqDK (K := K) hr.units) (pe_lc (own := [("n", 1)]) (g := gName 1) (by rfl) sc_law_is_list.nd (pi_list (pv 0)) (blkOk_by (N := ["told", "n"]) (sc := defScope s_law_is_list) (by decide +kernel)) (fun _ _ _ _ _ => (pg_name (i := 1) sc_law_is_list.nd rfl (.inl rfl))) (fun _ _ _ _ _ => (pts_one (PW.pt (pw_or (pt_not (pt_val (pe_callB (call_isiK' (K := K)) (by rfl) B.isinstance_ (by decide +kernel) (pa_cons (pv 1) (pa_cons (pe_bltn (v := .ty "int") (u := .type "int") (by rfl) B.int_ (by decide +kernel) rfl) pa_nil))))) (pw_or1 (pt_val (pe_callB (call_isiK' (K := K)) (by rfl) B.isinstance_ (by decide +kernel) (pa_cons (pv 1) (pa_cons (pe_bltn (v := .ty "bool") (u := .type "bool") (by rfl) B.bool_ (by decide +kernel) rfl) pa_nil))))))))) (fun _ _ _ _ _ => (pv 1))) (pe_lst pa_nil) (nomark _)))))), ?_⟩
    refine ⟨.ref a, rfl, _, _, _, _, true, rfl, .ty "list", .base (.lst hA), kit_ty (by decide +kernel), true, rfl, ?_⟩
    refine iteT ?_
    refine ⟨.ref a, rfl, a, rfl, ⟨_, lst_of hA⟩, fun C hC => ?_⟩
    refine lc_list (xs := IL xs) (fun i H' => Same H H' ∧ H' C = some (.lst [])) ⟨same_new hC, upd_same⟩ (fun i H' _ h => h.1.seq (lst_of hA)) (fun i x H' hx h => ?_) (fun H' h => ?_)
    · obtain ⟨sm, hC'⟩ := h
      have hi : i < xs.length := by
        rw [← il_len xs]
        exact (List.getElem?_eq_some_iff.mp hx).1
      rw [il_get hi] at hx
      cases hx
      refine ⟨rfl, _, rfl, _, _, _, _, true, rfl, .ty "int", .base (.int _), kit_ty (by decide +kernel), true, rfl, ?_⟩
      refine iteF ?_
      refine ⟨_, rfl, _, _, _, _, false, rfl, .ty "bool", .base (.int _), kit_ty (by decide +kernel), false, rfl, ?_⟩
      exact iteF ⟨sm, hC'⟩
    · obtain ⟨sm, hC'⟩ := h
      refine ⟨Nat.zero_le _, fun e0 he0 => ?_⟩
      have s0 := same_new (o := .lst []) he0
      refine ⟨dI [], dI [], dp_il (xs := []) (lst_of (s0 _ _ hC')), dp_il (xs := []) (lst_of upd_same), sh_dI _, sh_dI _, ?_⟩
      rw [eqv_dI]
      exact q _ (sm.trans s0)
/-! ### the menu -/

def spMenu : Sp := fun vs H Q E => vs = [] ∧ ∀ H' m (as : List Addr), Same H H' → H' m = some (.lst (as.map V.ref)) → as.length = 8 → (∀ t, t < 8 → H (as.getD t 0) = none ∧ H' (as.getD t 0) = some (.lst (IL (PA.menu.getD t [])))) → Q (.ref m) H'
theorem ok_menu {f : Addr} {fd : FuncData} (B : Bl mg) (D : Df K mg "_law_menu" s_law_menu [] f fd) : FnOk P w K mg base CX0 1 f fd [] spMenu := by
  refine D.F.ok sc_law_menu (fun vs H Q E h => ?_) (fun cdv A outer s H vs Q E hr h => ?_)
  · obtain ⟨rfl, _⟩ := h
    rfl
  · obtain ⟨rfl, q⟩ := h
    refine ⟨_, (pss_one (ps_ret (pe_lst (pa_cons (pe_lst (pa_cons pe_int (pa_cons pe_int pa_nil))) (pa_cons (pe_lst (pa_cons pe_int (pa_cons pe_int pa_nil))) (pa_cons (pe_lst (pa_cons (pe_un un_neg pe_int) (pa_cons pe_int pa_nil))) (pa_cons (pe_lst (pa_cons pe_int (pa_cons pe_int pa_nil))) (pa_cons (pe_lst (pa_cons pe_int (pa_cons pe_int (pa_cons pe_int pa_nil)))) (pa_cons (pe_lst (pa_cons pe_int (pa_cons pe_int (pa_cons pe_int pa_nil)))) (pa_cons (pe_lst (pa_cons pe_int (pa_cons pe_int (pa_cons pe_int pa_nil)))) (pa_cons (pe_lst (pa_cons (pe_un un_neg pe_int) (pa_cons pe_int (pa_cons pe_int (pa_cons pe_int pa_nil))))) pa_nil))))))))))), ?_⟩
    have z : ∀ n, n ≤ 100 → n ≤ sizeLine := fun n h => sz_small (by omega)
    refine ⟨z _ (by decide), fun a0 h0 => ⟨z _ (by decide), fun a1 h1 => ⟨_, rfl, z _ (by decide), fun a2 h2 => ⟨z _ (by decide), fun a3 h3 => ⟨z _ (by decide), fun a4 h4 => ⟨z _ (by decide), fun a5 h5 => ⟨z _ (by decide), fun a6 h6 => ⟨_, rfl, z _ (by decide), fun a7 h7 => ⟨z _ (show (8 : Nat) ≤ 100 by decide), fun m hm => ?_⟩⟩⟩⟩⟩⟩⟩⟩⟩
    have t0 := same_new (o := .lst [.int 0, .int 1]) h0
    have t1 := same_new (o := .lst [.int 1, .int 1]) h1
    have t2 := same_new (o := .lst [.int (-2), .int 1]) h2
    have t3 := same_new (o := .lst [.int 3, .int 2]) h3
    have t4 := same_new (o := .lst [.int 1, .int 0, .int 1]) h4
    have t5 := same_new (o := .lst [.int 1, .int 1, .int 1]) h5
    have t6 := same_new (o := .lst [.int 2, .int 0, .int 1]) h6
    have t7 := same_new (o := .lst [.int (-2), .int 0, .int 0, .int 1]) h7
    have tm := same_new (o := .lst [.ref a0, .ref a1, .ref a2, .ref a3, .ref a4, .ref a5, .ref a6, .ref a7]) hm
    have u1 := t0.trans t1
    have u2 := u1.trans t2
    have u3 := u2.trans t3
    have u4 := u3.trans t4
    have u5 := u4.trans t5
    have u6 := u5.trans t6
    have u7 := u6.trans t7
    refine q _ m [a0, a1, a2, a3, a4, a5, a6, a7] (u7.trans tm) upd_same rfl fun t ht => ?_
    match t, ht with
    | 0, _ => exact ⟨h0, tm _ _ (t7 _ _ (t6 _ _ (t5 _ _ (t4 _ _ (t3 _ _ (t2 _ _ (t1 _ _ upd_same)))))))⟩
    | 1, _ => exact ⟨t0.free h1, tm _ _ (t7 _ _ (t6 _ _ (t5 _ _ (t4 _ _ (t3 _ _ (t2 _ _ upd_same))))))⟩
    | 2, _ => exact ⟨u1.free h2, tm _ _ (t7 _ _ (t6 _ _ (t5 _ _ (t4 _ _ (t3 _ _ upd_same)))))⟩
    | 3, _ => exact ⟨u2.free h3, tm _ _ (t7 _ _ (t6 _ _ (t5 _ _ (t4 _ _ upd_same))))⟩
    | 4, _ => exact ⟨u3.free h4, tm _ _ (t7 _ _ (t6 _ _ (t5 _ _ upd_same)))⟩
    | 5, _ => exact ⟨u4.free h5, tm _ _ (t7 _ _ (t6 _ _ upd_same))⟩
    | 6, _ => exact ⟨u5.free h6, tm _ _ (t7 _ _ upd_same)⟩
    | 7, _ => exact ⟨u6.free h7, tm _ _ upd_same⟩
end
end K78

set_option Elab.async false
set_option linter.all false
set_option maxRecDepth 100000
set_option maxHeartbeats 4000000
namespace K78
open PySem PySem.Spec PyProof.Rows L2 PA
section
variable {P : Program} {w : World} {K : PySem.W.Frag} {mg : Str → Option Value} {base : Heap}
abbrev NL (es : List Nat) : List Int := es.map Int.ofNat
theorem nl_at {es : List Nat} {z : Int} {t : Nat} (e : z = (t : Int)) (h : t < es.length) : atI (IL (NL es)) z = some (.int ((es.getD t 0 : Nat) : Int)) := by
  refine at_of e ?_
  rw [List.getElem?_map, List.getElem?_map, List.getElem?_eq_getElem h, List.getD_eq_getElem?_getD, List.getElem?_eq_getElem h]
  rfl
theorem menu_small : ∀ t, t < 8 → ∀ y ∈ menu.getD t [], y.natAbs < 2 ^ 10 := by decide
theorem menu_len : ∀ t, t < 8 → (menu.getD t []).length ≤ 10 := by decide
/-! ### built -/
def spBuilt (K : PySem.W.Frag) : Sp := fun vs H Q E => ∃ (a : Addr) (c : Int) (es : List Nat), vs = [.int c, .ref a] ∧ SqL K H a (IL (NL es)) ∧ BFits c es ∧ spNew vs H Q (builtP c es 8)
theorem ok_built {f f1 f2 : Addr} {fd fd1 fd2 : FuncData} (B : Bl mg) (D : Df K mg "_law_built" s_law_built ["number", "powers"] f fd) (D_law_times : Df K mg "_law_times" s_law_times ["one", "two"] f1 fd1) (D_law_menu : Df K mg "_law_menu" s_law_menu [] f2 fd2)
    (G_law_times : FnOk P w K mg base CX0 2 f1 fd1 ["one", "two"] (spTimes K)) (G_law_menu : FnOk P w K mg base CX0 1 f2 fd2 [] spMenu) : FnOk P w K mg base CX0 3 f fd ["number", "powers"] (spBuilt K) := by
  refine D.F.ok sc_law_built (fun vs H Q E h => ?_) (fun cdv A outer s H vs Q E hr h => ?_)
  · obtain ⟨a, c, es, rfl, _⟩ := h
    rfl
  · obtain ⟨a, c, es, rfl, hA, bf, q⟩ := h
    refine ⟨_, (pss_cons (ps_set (i := 2) sc_law_built.nd rfl (.inl rfl) (pe_lst (pa_cons (pv 0) pa_nil)))
 (pss_cons (ps_for PassesOwn.never rfl (pi_range1 (by rfl) B.range_ (pa_cons pe_int pa_nil)) (pg_name (i := 3) sc_law_built.nd rfl (.inl rfl))
  (pss_one (ps_for PassesOwn.never rfl (pi_range1 (by rfl) B.range_ (pa_cons (pe_ix (ix_listK (K := K)) (pv 1) (pv 3) (fun _ _ => rfl)) pa_nil)) (pg_name (i := 4) sc_law_built.nd rfl (.inl rfl))
  (pss_one (ps_set (i := 2) sc_law_built.nd rfl (.inl rfl) (pe_call G_law_times (hr.mono (by decide)) (by rfl) D_law_times.g D_law_times.F.kp D_law_times.b .nil pass0 (pa_cons (pv 2) (pa_cons (pe_ix (ix_listK (K := K)) (pe_call0 G_law_menu (hr.mono (by decide)) (by rfl) D_law_menu.g D_law_menu.F.kp D_law_menu.b .nil pass0) (pv 3) (fun _ _ => rfl)) pa_nil))))))))
 (pss_one (ps_ret (pv 2))))), ?_⟩
    have l8 := bf.l
    refine ⟨_, rfl, sz_small (by show 1 ≤ 100000; decide), fun p hp => ?_⟩
    refine ⟨_, rfl, by omega, by omega, ?_⟩
    refine for_range (fun t σ H' => ∃ (p : Addr) (y1 y2 : Option V), σ = [some (.int c), some (.ref a), some (.ref p), y1, y2] ∧ Same H H' ∧ H p = none ∧ H' p = some (.lst (IL (builtP c es t)))) ⟨p, none, none, rfl, same_new hp, hp, upd_same⟩ (fun t σ H' ht h => ?_) (fun σ H' h => ?_)
    · obtain ⟨p, y1, y2, rfl, sm, np, hp⟩ := h
      have ht8 : t < 8 := ht
      rw [Int.zero_add]
      have he := bf.e _ (show es.getD t 0 ∈ es by rw [List.getD_eq_getElem?_getD, List.getElem?_eq_getElem (by omega)]; exact List.getElem_mem (by omega))
      refine ⟨.ref a, rfl, _, rfl, a, _, _, _, rfl, rfl, sm.seq hA, nl_at rfl (by omega), _, rfl, by omega, by omega, ?_⟩
      rw [Int.toNat_natCast]
      refine for_range (fun j σ H' => ∃ (p : Addr) (y2 : Option V), σ = [some (.int c), some (.ref a), some (.ref p), some (.int t), y2] ∧ Same H H' ∧ H p = none ∧ H' p = some (.lst (IL (powP (builtP c es t) (menu.getD t []) j)))) ⟨p, y2, rfl, sm, np, hp⟩ (fun j σ H' hj h => ?_) (fun σ H' h => ?_)
      · obtain ⟨p, y2, rfl, sm, np, hp⟩ := h
        obtain ⟨f1, f2⟩ := bf.f t j ht8 hj
        refine ⟨.ref p, rfl, rfl, fun H2 m as s2 hm la has => ?_⟩
        obtain ⟨nf, hf⟩ := has t ht8
        have ha : atI (as.map V.ref) (t : Int) = some (.ref (as.getD t 0)) := by
          refine atI_nat ?_
          rw [List.getElem?_map, List.getElem?_eq_getElem (by omega), List.getD_eq_getElem?_getD, List.getElem?_eq_getElem (by omega)]
          rfl
        refine ⟨_, rfl, m, _, _, _, rfl, rfl, lst_of hm, ha, p, as.getD t 0, _, _, rfl, lst_of (s2 _ _ hp), lst_of hf, f1, Nat.le_trans (menu_len t ht8) (by decide), fun x hx y hy => ?_, fun H3 r s3 nr hr' => ?_⟩
        · exact mulG (a := 1000) (b := 10) (f2 x hx) (menu_small t ht8 y hy) (by decide) (by decide) (by decide)
        · exact ⟨r, _, rfl, (sm.trans s2).trans s3, (sm.trans s2).free nr, hr'⟩
      · obtain ⟨p, y2, rfl, sm, np, hp⟩ := h
        exact ⟨p, _, _, rfl, sm, np, hp⟩
    · obtain ⟨p, y1, y2, rfl, sm, np, hp⟩ := h
      exact ⟨.ref p, rfl, q _ p sm np hp⟩
/-! ### powers -/
def spPowers (K : PySem.W.Frag) : Sp := fun vs H Q E => ∃ (a : Addr) (ds : List Int) (k most : Nat), vs = [.ref a, .int k, .int most] ∧ SqL K H a (IL ds) ∧ DrawsOk ds ∧ k ≤ 100 ∧ most ≤ 10 ∧ ∀ es : List Nat, es.length = 8 → (∀ e ∈ es, e ≤ most) → spNew vs H Q (NL es)
theorem ok_powers {f f1 : Addr} {fd fd1 : FuncData} (B : Bl mg) (D : Df K mg "_law_powers" s_law_powers ["draws", "k", "most"] f fd) (D_law_mix : Df K mg "_law_mix" s_law_mix ["draws", "k", "many"] f1 fd1)
    (G_law_mix : FnOk P w K mg base CX0 1 f1 fd1 ["draws", "k", "many"] (spMix K)) : FnOk P w K mg base CX0 2 f fd ["draws", "k", "most"] (spPowers K) := by
  refine D.F.ok sc_law_powers (fun vs H Q E h => ?_) (fun cdv A outer s H vs Q E hr h => ?_)
  · obtain ⟨a, ds, k, most, rfl, _⟩ := h
    rfl
  · obtain ⟨a, ds, k, most, rfl, hA, hd, hk, hm, q⟩ := h
    refine ⟨_, (pss_one (ps_ret (pe_lc (own := [("t", 3)]) (g := gName 3) (tt := tYes) (by rfl) sc_law_powers.nd (pi_range1 (by rfl) B.range_ (pa_cons pe_int pa_nil)) (blkOk_by (N := ["draws", "k", "most", "t"]) (sc := defScope s_law_powers) (by decide +kernel)) (fun _ _ _ _ _ => (pg_name (i := 3) sc_law_powers.nd rfl (.inl rfl))) (fun _ _ _ _ _ => pts_nil) (fun _ _ _ _ _ => (pe_callB (call_max2 (by rfl)) (by rfl) B.max_ (by decide +kernel) (pa_cons pe_int (pa_cons (pe_op op_sub (pe_call G_law_mix (hr.mono (by decide)) (by rfl) D_law_mix.g D_law_mix.F.kp D_law_mix.b .nil pass0 (pa_cons (pv 0) (pa_cons (pe_op op_add (pv 1) (pv 3)) (pa_cons (pe_op op_add (pv 2) pe_int) pa_nil)))) pe_int) pa_nil))))))), ?_⟩
    refine ⟨_, rfl, by omega, by omega, fun C hC => ?_⟩
    refine lc_range (fun i H' => Same H H' ∧ ∃ es : List Nat, es.length = i ∧ (∀ e ∈ es, e ≤ most) ∧ H' C = some (.lst (IL (NL es)))) ⟨same_new hC, [], rfl, (fun _ h => nomatch h), upd_same⟩ (fun i H' hi h => ?_) (fun H' h => ?_)
    · obtain ⟨sm, es, le, he, hC'⟩ := h
      have hi8 : i < 8 := hi
      refine ⟨rfl, .ref a, rfl, _, rfl, _, rfl, _, _, rfl, rfl, _, rfl, _, _, rfl, rfl, a, ds, _, _, rfl, sm.seq hA, hd, by omega, by omega, by omega, fun r H2 r0 r1 s2 => ?_⟩
      refine ⟨_, _, rfl, rfl, _, _, rfl, _, s2 _ _ hC', ?_, same_mut (sm.trans s2) hC, es ++ [(r - 2).toNat], ?_, ?_, ?_⟩
      · rw [il_len, List.length_map]
        exact sz_lt (by omega)
      · rw [List.length_append, le]
        rfl
      · intro e h
        rcases List.mem_append.mp h with h | h
        · exact he e h
        · rw [List.mem_singleton] at h
          omega
      · have e1 : NL (es ++ [(r - 2).toNat]) = NL es ++ [((r - 2).toNat : Int)] := List.map_append
        have e2 : (if r - 2 > 0 then r - 2 else 0) = ((r - 2).toNat : Int) := by split <;> omega
        rw [upd_same, e1, ← il_app, e2]
        rfl
    · obtain ⟨sm, es, le, he, hC'⟩ := h
      exact q es le he _ C sm hC hC'
/-! ### a number -/
def spNumber (K : PySem.W.Frag) : Sp := fun vs H Q E => ∃ (a : Addr) (ds : List Int) (k : Nat), vs = [.ref a, .int k] ∧ SqL K H a (IL ds) ∧ DrawsOk ds ∧ k ≤ 100 ∧ ∀ (c : Int) H', c ≠ 0 → c.natAbs ≤ 1000000000000000 → Same H H' → Q (.int c) H'
theorem ok_number {f f1 : Addr} {fd fd1 : FuncData} (B : Bl mg) (D : Df K mg "_law_number" s_law_number ["draws", "k"] f fd) (D_law_mix : Df K mg "_law_mix" s_law_mix ["draws", "k", "many"] f1 fd1)
    (G_law_mix : FnOk P w K mg base CX0 1 f1 fd1 ["draws", "k", "many"] (spMix K)) : FnOk P w K mg base CX0 2 f fd ["draws", "k"] (spNumber K) := by
  refine D.F.ok sc_law_number (fun vs H Q E h => ?_) (fun cdv A outer s H vs Q E hr h => ?_)
  · obtain ⟨a, ds, k, rfl, _⟩ := h
    rfl
  · obtain ⟨a, ds, k, rfl, hA, hd, hk, q⟩ := h
    refine ⟨_, (pss_cons (ps_set (i := 2) sc_law_number.nd rfl (.inl rfl) (pe_op op_add pe_int (pe_call G_law_mix (hr.mono (by decide)) (by rfl) D_law_mix.g D_law_mix.F.kp D_law_mix.b .nil pass0 (pa_cons (pv 0) (pa_cons (pv 1) (pa_cons pe_int pa_nil))))))
 (pss_one (ps_ret (pe_ix (ix_listK (K := K)) (pe_lst (pa_cons pe_int (pa_cons (pe_un un_neg pe_int) (pa_cons (pv 2) (pa_cons (pe_un un_neg (pv 2)) (pa_cons (pe_op op_mulW (pv 2) (pe_op op_pow pe_int pe_int)) (pa_cons (pe_un un_neg pe_int) pa_nil))))))) (pe_call G_law_mix (hr.mono (by decide)) (by rfl) D_law_mix.g D_law_mix.F.kp D_law_mix.b .nil pass0 (pa_cons (pv 0) (pa_cons (pe_op op_add (pv 1) pe_int) (pa_cons pe_int pa_nil)))) (fun _ _ => rfl))))), ?_⟩
    refine ⟨_, rfl, _, rfl, a, ds, _, _, rfl, hA, hd, by omega, by omega, by omega, fun r H2 r0 r1 s2 => ?_⟩
    have f1 : CMulW (1 + r) (10 ^ (12 : Int).toNat) := mulG (a := 60) (b := 60) (by omega) (by decide) (by decide) (by decide) (by decide)
    refine ⟨_, _, rfl, rfl, _, rfl, _, rfl, _, rfl, _, rfl, _, rfl, 10, 12, rfl, rfl, ⟨by omega, by omega, by decide⟩, _, _, rfl, rfl, f1, _, rfl, sz_small (by show 6 ≤ 100000; decide), fun L hL => ?_⟩
    have s3 := same_new (o := .lst [.int 1, .int (-1), .int (1 + r), .int (-(1 + r)), .int ((1 + r) * 10 ^ (12 : Int).toNat), .int (-12)]) hL
    refine ⟨.ref a, rfl, _, rfl, _, _, rfl, rfl, a, ds, _, _, rfl, (s2.trans s3).seq hA, hd, by omega, by omega, by omega, fun t H4 t0 t1 s4 => ?_⟩
    have e12 : (10 : Int) ^ (12 : Int).toNat = 1000000000000 := by decide
    obtain ⟨n, rfl⟩ : ∃ n : Nat, t = (n : Int) := ⟨t.toNat, by omega⟩
    have fin : ∀ c : Int, [V.int 1, .int (-1), .int (1 + r), .int (-(1 + r)), .int ((1 + r) * 10 ^ (12 : Int).toNat), .int (-12)][n]? = some (.int c) → c ≠ 0 → c.natAbs ≤ 1000000000000000 → ∃ p xs i v, V.ref L = .ref p ∧ V.int (n : Int) = .int i ∧ SqL K H4 p xs ∧ atI xs i = some v ∧ Q v H4 :=
      fun c e c0 c1 => ⟨L, _, _, _, rfl, rfl, lst_of (s4 _ _ upd_same), atI_nat e, q c H4 c0 c1 ((s2.trans s3).trans s4)⟩
    have hn : n < 6 := by omega
    match n, hn, fin with
    | 0, _, fin => exact fin 1 rfl (by decide) (by decide)
    | 1, _, fin => exact fin (-1) rfl (by decide) (by decide)
    | 2, _, fin => exact fin (1 + r) rfl (by omega) (by omega)
    | 3, _, fin => exact fin (-(1 + r)) rfl (by omega) (by omega)
    | 4, _, fin => exact fin ((1 + r) * 10 ^ (12 : Int).toNat) rfl (by rw [e12]; omega) (by rw [e12]; omega)
    | 5, _, fin => exact fin (-12) rfl (by decide) (by decide)
/-! ### any polynomial -/
def spAny (K : PySem.W.Frag) : Sp := fun vs H Q E => ∃ (a : Addr) (ds : List Int) (k : Nat), vs = [.ref a, .int k] ∧ SqL K H a (IL ds) ∧ DrawsOk ds ∧ k ≤ 100 ∧ ∀ p : Pl, trim p = p → p.length ≤ 7 → (∀ x ∈ p, x.natAbs ≤ 1000000) → spNew vs H Q p
theorem ok_any {f f1 f2 : Addr} {fd fd1 fd2 : FuncData} (B : Bl mg) (D : Df K mg "_law_any" s_law_any ["draws", "k"] f fd) (D_law_mix : Df K mg "_law_mix" s_law_mix ["draws", "k", "many"] f1 fd1) (D_law_trimmed : Df K mg "_law_trimmed" s_law_trimmed ["numbers"] f2 fd2)
    (G_law_mix : FnOk P w K mg base CX0 1 f1 fd1 ["draws", "k", "many"] (spMix K)) (G_law_trimmed : FnOk P w K mg base CX0 1 f2 fd2 ["numbers"] (spLTrim K)) : FnOk P w K mg base CX0 2 f fd ["draws", "k"] (spAny K) := by
  refine D.F.ok sc_law_any (fun vs H Q E h => ?_) (fun cdv A outer s H vs Q E hr h => ?_)
  · obtain ⟨a, ds, k, rfl, _⟩ := h
    rfl
  · obtain ⟨a, ds, k, rfl, hA, hd, hk, q⟩ := h
    refine ⟨_, (pss_cons (ps_set (i := 2) sc_law_any.nd rfl (.inr rfl) (pe_ix (ix_listK (K := K)) (pe_lst (pa_cons pe_int (pa_cons pe_int pa_nil))) (pe_call G_law_mix (hr.mono (by decide)) (by rfl) D_law_mix.g D_law_mix.F.kp D_law_mix.b .nil pass0 (pa_cons (pv 0) (pa_cons (pv 1) (pa_cons pe_int pa_nil)))) (fun _ _ => rfl)))
 (pss_one (ps_ret (pe_call G_law_trimmed (hr.mono (by decide)) (by rfl) D_law_trimmed.g D_law_trimmed.F.kp D_law_trimmed.b .nil pass0 (pa_cons (pe_lc (own := [("t", 3)]) (g := gName 3) (tt := tYes) (by rfl) sc_law_any.nd (pi_range1 (by rfl) B.range_ (pa_cons (pe_call G_law_mix (hr.mono (by decide)) (by rfl) D_law_mix.g D_law_mix.F.kp D_law_mix.b .nil pass0 (pa_cons (pv 0) (pa_cons (pe_op op_add (pv 1) pe_int) (pa_cons pe_int pa_nil)))) pa_nil)) (blkOk_by (N := ["draws", "k", "most", "t"]) (sc := defScope s_law_any) (by decide +kernel)) (fun _ _ _ _ _ => (pg_name (i := 3) sc_law_any.nd rfl (.inl rfl))) (fun _ _ _ _ _ => pts_nil) (fun _ _ _ _ _ => (pe_op op_sub (pe_call G_law_mix (hr.mono (by decide)) (by rfl) D_law_mix.g D_law_mix.F.kp D_law_mix.b .nil pass0 (pa_cons (pv 0) (pa_cons (pe_op op_add (pe_op op_add (pv 1) pe_int) (pv 3)) (pa_cons (pe_op op_add (pe_op op_mulW pe_int (pv 2)) pe_int) pa_nil)))) (pv 2)))) pa_nil))))), ?_⟩
    refine ⟨sz_small (by show 2 ≤ 100000; decide), fun L hL => ?_⟩
    have s1 := same_new (o := .lst [.int 3, .int 1000000]) hL
    refine ⟨.ref a, rfl, _, rfl, a, ds, _, _, rfl, s1.seq hA, hd, by omega, by omega, by omega, fun r H2 r0 r1 s2 => ?_⟩
    have hm : ∃ m : Int, atI [V.int 3, V.int 1000000] r = some (.int m) ∧ 0 < m ∧ m ≤ 1000000 := by
      rcases (by omega : r = 0 ∨ r = 1) with h | h
      · subst h
        exact ⟨3, rfl, by decide, by decide⟩
      · subst h
        exact ⟨1000000, rfl, by decide, by decide⟩
    obtain ⟨m, em, m0, m1⟩ := hm
    have sm2 := s1.trans s2
    refine ⟨L, _, _, _, rfl, rfl, lst_of (s2 _ _ upd_same), em, ?_⟩
    refine ⟨.ref a, rfl, _, rfl, _, _, rfl, rfl, a, ds, _, _, rfl, sm2.seq hA, hd, by omega, by omega, by omega, fun n H3 n0 n1 s3 => ?_⟩
    have sm3 := sm2.trans s3
    refine ⟨_, rfl, by omega, by omega, fun C hC => ?_⟩
    refine lc_range (fun i H' => Same H H' ∧ ∃ p : Pl, p.length = i ∧ (∀ x ∈ p, x.natAbs ≤ 1000000) ∧ H' C = some (.lst (IL p))) ⟨sm3.trans (same_new hC), [], rfl, (fun _ h => nomatch h), upd_same⟩ (fun i H' hi h => ?_) (fun H' h => ?_)
    · obtain ⟨sm, p, lp, hp, hC'⟩ := h
      have f1 : CMulW 2 m := mulG (a := 2) (b := 30) (by decide) (by omega) (by decide) (by decide) (by decide)
      refine ⟨rfl, .ref a, rfl, _, rfl, _, _, rfl, rfl, _, rfl, _, _, rfl, rfl, _, rfl, _, _, rfl, rfl, f1, _, _, rfl, rfl, a, ds, _, _, rfl, sm.seq hA, hd, by omega, by omega, by omega, fun r H4 r0 r1 s4 => ?_⟩
      refine ⟨_, rfl, _, _, rfl, rfl, _, s4 _ _ hC', ?_, same_mut (sm.trans s4) (sm3.free hC), p ++ [r - m], ?_, ?_, ?_⟩
      · rw [il_len]
        exact sz_lt (by omega)
      · rw [List.length_append, lp]
        rfl
      · intro x h
        rcases List.mem_append.mp h with h | h
        · exact hp x h
        · rw [List.mem_singleton] at h
          omega
      · rw [upd_same, ← il_app]
        rfl
    · obtain ⟨sm, p, lp, hp, hC'⟩ := h
      refine ⟨C, p, rfl, lst_of hC', by omega, fun H5 t s5 nt ht => ?_⟩
      refine q (trim p) (trim_trim p) (by have := trim_len p; omega) (fun x hx => ?_) H5 t (sm.trans s5) (sm.free nt) ht
      obtain ⟨j, hj, e⟩ := List.getElem_of_mem hx
      have e2 : (trim p).getD j 0 = x := by
        rw [List.getD_eq_getElem?_getD, List.getElem?_eq_getElem hj, e]
        rfl
      rw [trim_get] at e2
      by_cases h : j < p.length
      · rw [← e2]
        exact hp _ (getD_mem h)
      · rw [getD_far (by omega)] at e2
        subst e2
        decide
end
end K78

set_option Elab.async false
set_option linter.all false
set_option maxRecDepth 100000
set_option maxHeartbeats 4000000
/-! defs that may ask for a repr: nothing else on the stack is being shown -/
namespace K78
open PySem PySem.Spec PyProof.Rows L2 PA
structure FnG (P : Program) (w : World) (K : PySem.W.Frag) (mg : Str → Option Value) (base : Heap) (k : Nat) (f : Addr) (fd : FuncData) (ps : List Str) (sp : Sp) : Prop where
  len : ∀ vs H Q E, sp vs H Q E → vs.length = ps.length
  run : ∀ (A : Around) (outer : List Env) (s : Shared) (H : Hp) (args : Args) (us : List Value) (vs : List V) (Q : VK) (E : XK), Room k A → A.guards = some [] → Env0 P w K mg base A outer s H →
    BindsTo s fd args (ps.zip us) → Vals vs us → sp vs H Q E → codeAny (model P w) A (Code.call (Value.ref f) args) (CR CX0 outer P w H s Q E) s
section
variable {P : Program} {w : World} {K : PySem.W.Frag} {mg : Str → Option Value} {base : Heap}
theorem fnG_ok {x qual : Str} {st : Stmt} {f : Addr} {fd : FuncData} {N ps : List Str} {k : Nat} {sp : Sp} (F : Fun K x qual st f fd) (S : FnScope N ps (defScope st)) (len : ∀ vs H Q E, sp vs H Q E → vs.length = ps.length)
    (hbody : ∀ (cdv : Value) (A : Around) (outer : List Env) (s : Shared) (H : Hp) (vs : List V) (Q : VK) (E : XK), Room k (A.deeper (envOfC qual (defScope st) s.heap.objs.size f cdv)) → A.guards = some [] → sp vs H Q E →
      ∃ t, PSs (cxOf CX0 P w K mg base N qual (defScope st) f cdv A outer s H E).nox (defBody st) t ∧ t { nx := fun _ H' => Q .non H', rt := Q } (start N vs) H) : FnG P w K mg base (k + 1) f fd ps sp := by
  obtain ⟨oc, od, kV, doc, pm, an, cdv, ct, osl, rfl, lk, hcd⟩ := F.ex
  constructor
  · exact len
  intro A outer s H args us vs Q E room hgd e0 bind vals hsp
  have old : ∀ b o, base.get? b = some o → s.heap.get? b = some o := fun b o e => (e0.bs b o e).1
  have KX := e0.mod.kin.keeps old
  have lim := e0.mod.nolimit.keeps old
  have kinds : ∀ y ∈ ps.zip us, (defScope st).names.lookup y.1 = some .local ∨ ((defScope st).names.lookup y.1 = some .cell ∧ ((cellsFrom (s.heap.objs.size + 1) (defScope st).names []).lookup y.1).isSome = true) := by
    rintro ⟨n, v⟩ hy
    cases S.par n (List.of_mem_zip hy).1 with
    | inl q => exact Or.inl q
    | inr q => exact Or.inr ⟨q, PySem.W.cellsFrom_some _ _ _ (Or.inl q)⟩
  apply codeAny_call_function room.depth (KX _ _ lk) rfl S.co S.gen rfl (PySem.W.codeRec_of KX hcd)
  apply bind
  apply wpAny_newFunctionEnv_cells S.kind kinds
  intro env he s1 inc
  subst he
  refine ⟨lim.keeps inc.toInCall.keep, codeAny_func ?_⟩
  obtain ⟨t, body, read⟩ := hbody cdv A outer s H vs Q E (room.deeper _) hgd hsp
  have I := inv_start (CX := CX0) (E := E) S room.hd e0 (len _ _ _ _ hsp) vals inc
  apply wpAny_mono (body.nox.run [] s1 (start N vs) H _ I read)
  · intro fl s' out
    cases fl with
    | ret u =>
      obtain ⟨v, σ', H', J, rv, q⟩ := out
      exact ⟨v, H', J.os, J.bare, J.base, J.hok, rv, q⟩
    | next =>
      obtain ⟨σ', H', J, q⟩ := out
      exact ⟨.non, H', J.os, J.bare, J.base, J.hok, rfl, q⟩
    | brk =>
      obtain ⟨σ', H', J, q⟩ := out
      exact False.elim q
    | cont =>
      obtain ⟨σ', H', J, q⟩ := out
      exact False.elim q
  · exact fun e s' out => out
end
section
variable {X : Cx}
theorem runG {k : Nat} {f : Addr} {fd : FuncData} {ps : List Str} {sp : Sp} {pins : List (Addr × Obj)} {σ : L2.St} {H : Hp} {s : Shared} {Q : VK} {us : List Value} {vs : List V} (F : FnG X.prog X.w X.K X.mg X.base k f fd ps sp) (hr : Room k X.A) (hgd : X.A.guards = some [])
    (hb : Binds X.K fd ps []) (I : L2.Inv X pins σ H s) (r : Vals vs us) (h : sp vs H Q E0) : wpAny (model X.prog X.w) X.A (call (.ref f) us) (EP X pins σ Q) X.xe s := by
  have hl : (us ++ []).length = ps.length := by
    rw [List.append_nil, ← r.length]
    exact F.len _ _ _ _ h
  have hb' := hb s us I.kIn hl
  rw [List.append_nil] at hb'
  apply wpAny_call
  apply codeAny_mono (F.run X.A X.stack s H ⟨us, []⟩ us vs Q E0 hr hgd I.env0 hb' r h)
  intro res s' out
  match res, out with
  | .ok (.ret u), out => exact I.after out
theorem pe_callG {k : Nat} {f : Addr} {fd : FuncData} {ps : List Str} {sp : Sp} {x : Str} {p pos : Pos} {e : Expr} {es : List Expr} {t : TA} (F : FnG X.prog X.w X.K X.mg X.base k f fd ps sp) (hr : Room k X.A) (hgd : X.A.guards = some []) (hg : Gl X x) (hm : X.mg x = some (.ref f))
    (hk : PySem.W.keepIn X.K (.ref f) = true) (hb : Binds X.K fd ps []) (ha : PA X (e :: es) t) (hdb : (x == ("__debug__" : Str)) = false := by decide) (he : starEach (e :: es) X.env = (false, eval e X.env) :: starEach es X.env := by rfl)
    (hpl : (backTo pos (starEach es X.env)).any (·.1) = false := by rfl) : PE X (.Call (.Name x p) (e :: es) [] pos) (fun σ H Q => t σ H fun vs H1 => sp vs H1 Q E0) := by
  constructor
  intro pins s σ H Q I h
  apply wpAny_Call_Name_kw
  refine ld_glob I hg hm ?_ hdb
  refine PySem.W.callWith_K (h₀ := X.base) I.ok.mod.kin hk (thn (ha.run pos pins s σ H _ I h) ?_) he hpl
  rintro us s1 ⟨vs, H1, I1, r, q⟩
  exact ⟨I1.kIn, runG F hr hgd hb I1 r q⟩
/-- repr of data of any depth -/
theorem call_reprD {K : PySem.W.Frag} (hgd : X.A.guards = some []) (hu : X.A.units + 64 < cLine) (hK : X.K = K := by rfl) : CallR X (.builtin "repr") (fun xs H Q => ∃ (a : Addr) (d : PyData), xs = [.ref a] ∧ Dp K H (.ref a) d ∧ d.showable = true ∧ d.hasDict = false ∧ d.depth ≤ 60 ∧ d.shown.length ≤ sizeLine ∧ Q (.str d.shown) H) := by
  subst hK
  intro pins s σ H xs us Q I r h
  obtain ⟨a, d, rfl, hd, hs, hh, hdp, hsz, q⟩ := h
  match us, r with
  | [u], .cons ru .nil =>
    have eu : u = .ref a := ru
    subst eu
    obtain ⟨as, rd⟩ := Dp.reads I d _ _ hd rfl
    refine repr_of_reads' rd hs (fun z => ?_) hgd (by omega) (fun b o e => e) (fun h' tk t' keep => ?_) hsz
    · rw [hh] at z
      cases z
    · exact ⟨.str d.shown, H, I.kept keep, ⟨_, rfl⟩, q⟩
end
/-- the law's call, from its promise -/
theorem law_callG {P : Program} {w : World} {K : PySem.W.Frag} {mg mb : Str → Option Value} {k : Nat} {fa a : Addr} {fd : FuncData} {x : Str} {sp : Sp} {s₁ : Shared} {vs : List Value} {ns : List Int}
    (KX : K.In s₁.heap) (hns : s₁.heap.Ns mainGlobals mg) (hb : s₁.heap.Ns builtinsNs mb) (hbb : ∀ x : Str, x ≠ "__name__" → mb x = bootBuiltins x) (hlim : s₁.heap.NoLimit) (hgens : s₁.gens = #[])
    (ha : s₁.heap.get? a = some { cls := .type "list", data := .seq vs.toArray }) (hi : IntsAre vs ns) (hl : ns.length ≤ sizeLine) (hr : Room k callerA)
    (F : ∀ base : Heap, K.In base → base.Ns mainGlobals mg → FnG P w K mg base k fa fd [x] sp)
    (hbind : ∀ (s : Shared) (u : Value), BindsTo s fd ⟨[u], []⟩ [(x, u)])
    (hsp : ∀ H : Hp, Only H → SqL K H a (ns.map V.int) → sp [.ref a] H (fun v _ => v = .bl true) fun _ _ _ => False) :
    codeAny (model P w) callerA (.call (.ref fa) ⟨[.ref a], []⟩)
      (fun r s' => r = .ok (.ret (.bool true)) ∧ OldK s₁.heap s'.heap ∧ s'.os = s₁.os ∧ AllBare s'.gens) s₁ := by
  have rv := vals_ints hi
  have lenV := hi.length
  have go : ∀ H : Hp, Only H → SqL K H a (ns.map V.int) → HOk P w H s₁.heap → (∀ b, H b ≠ none → b = a) → (H a ≠ none → K.lookup a = none) →
      codeAny (model P w) callerA (.call (.ref fa) ⟨[.ref a], []⟩)
        (fun r s' => r = .ok (.ret (.bool true)) ∧ OldK s₁.heap s'.heap ∧ s'.os = s₁.os ∧ AllBare s'.gens) s₁ := by
    intro H only seq hok single free
    have stay : ∀ {b : Addr} {o : Obj}, s₁.heap.get? b = some o → H b = none → (hidT s₁.heap H).get? b = some o := fun e n => hidT_get e n
    have notDict : ∀ {b : Addr} {o : Obj} {es : Array DictEntry} {ep : Nat}, s₁.heap.get? b = some o → o.data = .dict es ep → H b = none := by
      intro b o es ep e d
      by_cases hn : H b = none
      · exact hn
      · have eb := single b hn
        subst eb
        rw [ha] at e
        cases e
        exact absurd (show Data.seq vs.toArray _ = Data.dict es ep from d) (by intro z; cases z)
    have names : ∀ {b : Addr} {m : Str → Option Value}, s₁.heap.Ns b m → (hidT s₁.heap H).Ns b m := by
      rintro b m ⟨o, es, ep, e, d, r⟩
      exact ⟨o, es, ep, stay e (notDict e d), d, r⟩
    have KB : K.In (hidT s₁.heap H) := by
      intro b o e
      refine stay (KX b o e) ?_
      by_cases hn : H b = none
      · exact hn
      · have eb := single b hn
        subst eb
        rw [free hn] at e
        cases e
    have mod : L2.Mod K mg (hidT s₁.heap H) := by
      refine ⟨KB, names hns, ⟨mb, names hb, hbb⟩, ?_⟩
      obtain ⟨mc, h1, h2⟩ := hlim
      exact ⟨mc, names h1, h2⟩
    have e0 : Env0 P w K mg (hidT s₁.heap H) callerA [] s₁ H :=
      { frames := rfl, mod := mod, bs := fun b o e => of_hidT e, bsz := Nat.le_of_eq (hidT_size _ _), funs := trivial, frf := (fun b hb => nomatch hb), hok := hok, bare := .of_eq hgens }
    have run := (F _ KB (names hns)).run callerA [] s₁ H ⟨[.ref a], []⟩ [.ref a] [.ref a] _ _ hr rfl e0 (hbind s₁ (.ref a)) (.cons rfl .nil) (hsp H only seq)
    apply codeAny_mono run
    intro res s' out
    match res, out with
    | .ok (.ret u), ⟨v, H', os, bare, un, hok', r', q⟩ =>
      have q' : v = .bl true := q
      subst q'
      have eu : u = Value.bool true := r'
      subst eu
      refine ⟨rfl, OldK.of_keep ?_, os, bare⟩
      intro b o e
      by_cases hn : H b = none
      · exact un.keep b o e hn (by intro z; exact nomatch z) (by simp)
      · cases only b with
        | inl z => exact absurd z hn
        | inr z =>
          obtain ⟨ob, xs, z⟩ := z
          have z2 := un.frzs b ob _ z
          have e1 := (hok b _ z).1
          have e2 := (hok' b _ z2).1
          rw [e] at e1
          cases e1
          exact e2
  by_cases hk : K.lookup a = none
  · let H : Hp := fun b => if b = a then some (.frz { cls := .type "list", data := .seq vs.toArray } (.lst (ns.map V.int))) else none
    have at_a : H a = some (.frz { cls := .type "list", data := .seq vs.toArray } (.lst (ns.map V.int))) := if_pos rfl
    have off : ∀ b, b ≠ a → H b = none := fun b h => if_neg h
    refine go H ?_ (.inl (.inr ⟨_, at_a⟩)) ?_ ?_ (fun _ => hk)
    · intro b
      by_cases h : b = a
      · subst h
        exact .inr ⟨_, _, at_a⟩
      · exact .inl (off b h)
    · intro b u z
      by_cases h : b = a
      · subst h
        rw [at_a] at z
        cases z
        exact ⟨ha, by rw [List.length_map]; exact hl, vs, _, rv, ha⟩
      · rw [off b h] at z
        cases z
    · intro b h
      by_cases e : b = a
      · exact e
      · exact absurd (off b e) h
  · obtain ⟨o, ho⟩ : ∃ o, K.lookup a = some o := Option.ne_none_iff_exists'.mp hk
    have e := KX a o ho
    rw [ha] at e
    cases e
    refine go (fun _ => none) (fun _ => .inl rfl) ?_ (fun b u z => nomatch z) (fun b z => absurd rfl z) (fun z => absurd rfl z)
    exact .inr ⟨_, vs.toArray, _, ho, rfl, rfl, rfl, by rw [List.size_toArray, lenV]; exact hl, by simpa using rv⟩
theorem walk_ofG {l : PySem.W.OpenLaw} {n k : Nat} {q : Program} {loose : List Str} {XP : (Str → Option Value) → Heap → Prop} {YP : World → Heap → Prop} {d : DefRec} {K : Params → PySem.W.Frag} {sp : World → Sp} {x : Str}
    (hn : l.most = some n) (hn2 : n ≤ sizeLine) (hdf : d.params.defaults = []) (hr : Room k callerA) (hY : ∀ (w : World) (h : Heap), YP w h → (K w.params).In h)
    (F : ∀ (w : World) (mg : Str → Option Value) (fa : Addr) (h : Heap), (K w.params).In h → h.Ns mainGlobals mg → mg d.name = some (.ref fa) →
      ∃ fd : FuncData, (∀ (s : Shared) (u : Value), BindsTo s fd ⟨[u], []⟩ [(x, u)]) ∧ ∀ base : Heap, (K w.params).In base → base.Ns mainGlobals mg → FnG l.prog w (K w.params) mg base k fa fd [x] (sp w))
    (hsp : ∀ (w : World) (H : Hp) (a : Addr) (ns : List Int), ns.length ≤ n → Only H → SqL (K w.params) H a (ns.map V.int) → sp w [.ref a] H (fun v _ => v = .bl true) fun _ _ _ => False) :
    PySem.W.WalkO q loose XP YP l.row.toRowW d [] (fun f vs => PySem.call f vs) := by
  apply Att.attach_call hn hdf
  intro w s₀ s₁ mg mb fa o pm cd doc a vs ns G Y ho hd hcd hmg hobj hints hlen hgens
  have KX := hY w _ Y
  obtain ⟨fd, hb, hF⟩ := F w mg fa _ KX G.T.g hmg
  exact law_callG KX G.T.g G.T.b G.T.builtins G.T.nolimit hgens hobj hints (Nat.le_trans hlen hn2) hr hF hb (fun H hO hS => hsp w H a ns hlen hO hS)
end K78

set_option Elab.async false
set_option linter.all false
set_option maxRecDepth 100000
set_option maxHeartbeats 4000000
namespace K78
open PySem PySem.Spec PyProof.Rows L2 PA
section
variable {P : Program} {w : World} {K : PySem.W.Frag} {mg : Str → Option Value} {base : Heap}
/-- a list of eight ints, made over range(8): slot v is the comprehension's -/
theorem lc8 {te : TE} {σ : L2.St} {H : Hp} {Q : VK} {v : Nat} (f : Nat → Int) (h : ∀ t H' (Q' : VK), t < 8 → Same H H' → Q' (.int (f t)) H' → te ((wipe σ [v]).set v (some (.int (t : Int)))) H' Q') (hw : ∀ x, wipe ((wipe σ [v]).set v x) [v] = wipe σ [v])
    (q : ∀ H' C, Same H H' → H C = none → H' C = some (.lst (IL ((List.range 8).map f))) → Q (.ref C) H') : tLc (iRng1 (tCons (tC (.int 8)) tNil)) (gName v) tYes te [v] σ H Q := by
  refine ⟨_, rfl, by omega, by omega, fun C hC => ?_⟩
  refine lc_range (fun i H' => Same H H' ∧ H' C = some (.lst (IL ((List.range i).map f)))) ⟨same_new hC, upd_same⟩ (fun i H' hi h => ?_) (fun H' h => ?_)
  · obtain ⟨sm, hC'⟩ := h
    refine ⟨hw _, ?_⟩
    show te ((wipe σ [v]).set v (some (.int (0 + (i : Int))))) H' _
    rw [Int.zero_add]
    refine h i H' _ hi sm ⟨_, hC', ?_, same_mut sm hC, ?_⟩
    · rw [il_len, List.length_map, List.length_range]
      exact sz_lt (by have : i < 8 := hi; omega)
    · rw [upd_same, List.range_succ, List.map_append, ← il_app]
      rfl
  · exact q H' C h.1 hC h.2
theorem nl_mn (a b : List Nat) : (List.range 8).map (fun t => if ((b.getD t 0 : Nat) : Int) < ((a.getD t 0 : Nat) : Int) then ((b.getD t 0 : Nat) : Int) else ((a.getD t 0 : Nat) : Int)) = NL (mn a b) := by
  unfold mn NL
  rw [List.map_map]
  refine List.map_congr_left fun t _ => ?_
  show _ = (((min (a.getD t 0) (b.getD t 0) : Nat)) : Int)
  split <;> omega
theorem nl_mn1 (a : List Nat) : (List.range 8).map (fun t => if ((a.getD t 0 : Nat) : Int) < 1 then ((a.getD t 0 : Nat) : Int) else 1) = NL (mn1 a) := by
  unfold mn1 NL
  rw [List.map_map]
  refine List.map_congr_left fun t _ => ?_
  show _ = (((min 1 (a.getD t 0) : Nat)) : Int)
  split <;> omega
theorem nl_sb {a b : List Nat} (h : ∀ t, t < 8 → b.getD t 0 ≤ a.getD t 0) : (List.range 8).map (fun t => ((a.getD t 0 : Nat) : Int) - ((b.getD t 0 : Nat) : Int)) = NL (sb a b) := by
  unfold sb NL
  rw [List.map_map]
  refine List.map_congr_left fun t ht => ?_
  have := h t (List.mem_range.mp ht)
  show _ = (((a.getD t 0 - b.getD t 0 : Nat)) : Int)
  omega
theorem nl_cnt (a b : List Nat) : ((List.range 8).filter (fun t => decide ((0 : Int) < ((b.getD t 0 : Nat) : Int)))).map (fun t => ((a.getD t 0 : Nat) : Int).fdiv ((b.getD t 0 : Nat) : Int)) = NL (PA.cnt a b) := by
  have e : (fun t => decide ((0 : Int) < ((b.getD t 0 : Nat) : Int))) = fun t => decide (0 < b.getD t 0) := by
    funext t
    exact decide_eq_decide.mpr (by omega)
  unfold PA.cnt NL
  rw [e, List.map_map]
  refine List.map_congr_left fun t _ => ?_
  show _ = (((a.getD t 0 / b.getD t 0 : Nat)) : Int)
  rw [Int.fdiv_eq_ediv_of_nonneg _ (by omega)]
  rfl
/-! ### how data are shown -/
def d3 (x y z : Pl) : PyData := .tuple [dI x, dI y, dI z]
theorem show_all : ∀ xs : List Int, (∀ x ∈ xs, x.natAbs < 2 ^ 150) → PyData.showableAll (xs.map .int) = true
  | [], _ => rfl
  | x :: r, h => by
    have h1 := h x (List.mem_cons_self ..)
    have h2 := show_all r fun y hy => h y (List.mem_cons_of_mem _ hy)
    have h3 : x.natAbs.log2 < 1920 := Nat.lt_of_lt_of_le (PySem.Flt.log2_lt_of (by decide) h1) (by decide)
    simp only [List.map_cons, PyData.showableAll, PyData.showable, h2, decide_eq_true h3, Bool.and_self]
theorem nodict_all : ∀ xs : List Int, PyData.hasDictAll (xs.map .int) = false
  | [] => by simp only [List.map_nil, PyData.hasDictAll]
  | x :: r => by simp only [List.map_cons, PyData.hasDictAll, PyData.hasDict, nodict_all r, Bool.or_self]
theorem shown_sum : ∀ xs : List Int, (∀ x ∈ xs, x.natAbs < 2 ^ 150) → ((PyData.shownAll (xs.map .int)).map (·.length)).sum ≤ 151 * xs.length
  | [], _ => by simp [PyData.shownAll]
  | x :: r, h => by
    have h1 := h x (List.mem_cons_self ..)
    have h2 := shown_sum r fun y hy => h y (List.mem_cons_of_mem _ hy)
    have h3 : x.natAbs.log2 < 150 := PySem.Flt.log2_lt_of (by decide) h1
    have h4 : (PyData.shown (.int x)).length ≤ 151 := by
      have := int_text_length_le (a := x) (k := 150) (by decide) h3
      show (Str.ofString (toString x)).length ≤ 151
      rw [PySem.ofString_length]
      exact this
    simp only [List.map_cons, PyData.shownAll, List.sum_cons, List.length_cons]
    omega
theorem shown_dI {p : Pl} (h : Shw p) : (PyData.shown (dI p)).length ≤ 9400 := by
  have h1 := listText_len_le (PyData.shownAll (p.map .int))
  have h2 := shown_sum p h.s
  have h3 := PyData.shownAll_length (p.map .int)
  have h4 := h.l
  rw [List.length_map] at h3
  unfold dI
  rw [PyData.shown]
  omega
theorem shown_d3 {x y z : Pl} (hx : Shw x) (hy : Shw y) (hz : Shw z) : (d3 x y z).shown.length ≤ sizeLine := by
  have h1 := tupleText_len_le (PyData.shownAll [dI x, dI y, dI z])
  have e : PyData.shownAll [dI x, dI y, dI z] = [(dI x).shown, (dI y).shown, (dI z).shown] := by simp only [PyData.shownAll]
  have a := shown_dI hx
  have b := shown_dI hy
  have c := shown_dI hz
  have e2 : (d3 x y z).shown = tupleText (PyData.shownAll [dI x, dI y, dI z]) := by
    unfold d3
    rw [PyData.shown]
  rw [e2]
  rw [e] at h1 ⊢
  simp only [List.map_cons, List.map_nil, List.sum_cons, List.sum_nil, List.length_cons, List.length_nil] at h1
  exact sz_small (by omega)
theorem showable_d3 {x y z : Pl} (hx : Shw x) (hy : Shw y) (hz : Shw z) : (d3 x y z).showable = true := by
  simp only [d3, dI, PyData.showable, PyData.showableAll, show_all _ hx.s, show_all _ hy.s, show_all _ hz.s, Bool.and_self]
theorem nodict_d3 (x y z : Pl) : (d3 x y z).hasDict = false := by
  simp only [d3, dI, PyData.hasDict, PyData.hasDictAll, nodict_all, Bool.or_self]
theorem depth_d3 (x y z : Pl) : (d3 x y z).depth ≤ 60 := by
  simp only [d3, dI, PyData.depth, PyData.depthAll, depth_all]
  decide
/-- lists of lists -/
def dLL (xss : List Pl) : PyData := .list (xss.map dI)
theorem can_dI (xs : List Int) : PyData.canLay0 (dI xs) = true := by
  unfold dI
  rw [PyData.canLay0, can_all]
theorem canLL : ∀ xss : List Pl, PyData.canLayAll0 (xss.map dI) = true
  | [] => rfl
  | x :: r => by
    show (PyData.canLay0 (dI x) && PyData.canLayAll0 (r.map dI)) = true
    rw [can_dI, canLL r]
    rfl
theorem depthLL : ∀ xss : List Pl, PyData.depthAll (xss.map dI) ≤ 1
  | [] => Nat.zero_le _
  | x :: r => by
    have e : PyData.depth (dI x) = 1 := by
      unfold dI
      rw [PyData.depth, depth_all]
    have := depthLL r
    show max (PyData.depth (dI x)) (PyData.depthAll (r.map dI)) ≤ 1
    omega
theorem sh_dLL (xss : List Pl) : SeqAt.shaped (dLL xss) = true := by
  have := depthLL xss
  unfold SeqAt.shaped dLL
  rw [PyData.canLay0, canLL, PyData.depth, decide_eq_true (by omega)]
  rfl
theorem eqvLL_refl : ∀ xss : List Pl, PyData.eqvAll (xss.map dI) (xss.map dI) = true
  | [] => rfl
  | x :: r => by
    show (PyData.eqv (dI x) (dI x) && PyData.eqvAll (r.map dI) (r.map dI)) = true
    rw [eqv_dI, eqvLL_refl r, decide_eq_true rfl]
    rfl
theorem eqv_dLL (xss : List Pl) : PyData.eqv (dLL xss) (dLL xss) = true := by
  unfold dLL
  rw [PyData.eqv]
  exact eqvLL_refl xss
/-- those of the range's ints that pass a test, made over range(8) -/
theorem lcF {tt : TT} {te : TE} {σ : L2.St} {H : Hp} {Q : VK} {v : Nat} (c : Nat → Bool) (g : Nat → Int)
    (ht : ∀ t H' (Q' : Bool → Hp → Prop), t < 8 → Same H H' → Q' (c t) H' → tt ((wipe σ [v]).set v (some (.int (t : Int)))) H' Q')
    (h : ∀ t H' (Q' : VK), t < 8 → c t = true → Same H H' → Q' (.int (g t)) H' → te ((wipe σ [v]).set v (some (.int (t : Int)))) H' Q') (hw : ∀ x, wipe ((wipe σ [v]).set v x) [v] = wipe σ [v])
    (q : ∀ H' C, Same H H' → H C = none → H' C = some (.lst (IL (((List.range 8).filter c).map g))) → Q (.ref C) H') : tLc (iRng1 (tCons (tC (.int 8)) tNil)) (gName v) tt te [v] σ H Q := by
  refine ⟨_, rfl, by omega, by omega, fun C hC => ?_⟩
  refine lc_range (fun i H' => Same H H' ∧ H' C = some (.lst (IL (((List.range i).filter c).map g)))) ⟨same_new hC, upd_same⟩ (fun i H' hi h' => ?_) (fun H' h => ?_)
  · obtain ⟨sm, hC'⟩ := h'
    refine ⟨hw _, ?_⟩
    show tt ((wipe σ [v]).set v (some (.int (0 + (i : Int))))) H' _
    rw [Int.zero_add]
    have e : (List.range (i + 1)).filter c = (List.range i).filter c ++ if c i = true then [i] else [] := by
      rw [List.range_succ, List.filter_append]
      by_cases hc : c i = true
      · simp [hc]
      · simp [hc]
    refine ht i H' _ hi sm ?_
    refine ite2 (fun hc => ?_) (fun hc => ?_)
    · refine h i H' _ hi hc sm ⟨_, hC', ?_, same_mut sm hC, ?_⟩
      · rw [il_len, List.length_map]
        have h1 := List.length_filter_le c (List.range i)
        rw [List.length_range] at h1
        exact sz_lt (by have : i < 8 := hi; omega)
      · rw [upd_same, e, if_pos hc, List.map_append, ← il_app]
        rfl
    · rw [e, if_neg hc, List.append_nil]
      exact ⟨sm, hC'⟩
  · exact q H' C h.1 hC h.2
theorem d3_dp {H : Hp} {T p1 p2 p3 : Addr} {x y z : Pl} (h : H T = some (.tup [.ref p1, .ref p2, .ref p3])) (h1 : H p1 = some (.lst (IL x))) (h2 : H p2 = some (.lst (IL y))) (h3 : H p3 = some (.lst (IL z))) : Dp K H (.ref T) (d3 x y z) :=
  .tup (SqT.of h) (.cons (dp_il (lst_of h1)) (.cons (dp_il (lst_of h2)) (.cons (dp_il (lst_of h3)) .nil)))
theorem d5_dp {H : Hp} {T p1 p2 p3 p4 p5 : Addr} {x1 x2 x3 x4 x5 : Pl} (h : H T = some (.lst [.ref p1, .ref p2, .ref p3, .ref p4, .ref p5])) (h1 : H p1 = some (.lst (IL x1))) (h2 : H p2 = some (.lst (IL x2))) (h3 : H p3 = some (.lst (IL x3))) (h4 : H p4 = some (.lst (IL x4))) (h5 : H p5 = some (.lst (IL x5))) :
    Dp K H (.ref T) (dLL [x1, x2, x3, x4, x5]) :=
  .lst (lst_of h) (.cons (dp_il (lst_of h1)) (.cons (dp_il (lst_of h2)) (.cons (dp_il (lst_of h3)) (.cons (dp_il (lst_of h4)) (.cons (dp_il (lst_of h5)) .nil)))))
theorem primfits_nil : PrimFits [] := ⟨by decide, Nat.zero_le _⟩
theorem gcd_right {p : Pl} : GcdRun 0 p (primP []) p := .stop p
theorem gcd_left {p : Pl} (h : p ≠ []) : GcdRun 1 (primP []) p p := .step 0 0 _ p [] p h primfits_nil (.stop _ (List.length_pos_iff.mpr h)) (.stop p)
end
end K78

set_option Elab.async false
set_option linter.all false
set_option maxRecDepth 100000
set_option maxHeartbeats 8000000
namespace K78
open PySem PySem.Spec PyProof.Rows L2 PA
section
variable {P : Program} {w : World} {K : PySem.W.Frag} {mg : Str → Option Value} {base : Heap}
/-- what the mathematics says of the first half -/
def PTAll : Prop := ∀ (c1 c2 : Int) (mine other few : List Nat), c1 ≠ 0 → c1.natAbs ≤ 1000000000000000 → c2 ≠ 0 → c2.natAbs ≤ 1000000000000000 → mine.length = 8 → other.length = 8 → few.length = 8 →
  (∀ e ∈ mine, e ≤ 3) → (∀ e ∈ other, e ≤ 3) → (∀ e ∈ few, e ≤ 2) → PTFacts c1 c2 mine other few
def spPT (K : PySem.W.Frag) : Sp := fun vs H Q E => ∃ (a : Addr) (ds : List Int), vs = [.ref a] ∧ SqL K H a (IL ds) ∧ DrawsOk ds ∧ ∀ H', Same H H' → Q (.bl true) H'
theorem ok_ptold (M : PTAll) {f f1 f2 f3 f4 f5 f6 f7 f8 f9 f10 : Addr} {fd fd1 fd2 fd3 fd4 fd5 fd6 fd7 fd8 fd9 fd10 : FuncData} (B : Bl mg) (D : Df K mg "_law_powers_told" s_law_powers_told ["draws"] f fd)
    (D_law_powers : Df K mg "_law_powers" s_law_powers ["draws", "k", "most"] f1 fd1) (G_law_powers : FnOk P w K mg base CX0 2 f1 fd1 ["draws", "k", "most"] (spPowers K))
    (D_law_number : Df K mg "_law_number" s_law_number ["draws", "k"] f2 fd2) (G_law_number : FnOk P w K mg base CX0 2 f2 fd2 ["draws", "k"] (spNumber K))
    (D_law_built : Df K mg "_law_built" s_law_built ["number", "powers"] f3 fd3) (G_law_built : FnOk P w K mg base CX0 3 f3 fd3 ["number", "powers"] (spBuilt K))
    (D_primitive : Df K mg "primitive" s_primitive ["one"] f4 fd4) (G_primitive : FnOk P w K mg base CX0 2 f4 fd4 ["one"] (spPrim K))
    (D_gcd : Df K mg "gcd" s_gcd ["one", "two"] f5 fd5) (G_gcd : FnOk P w K mg base CX0 4 f5 fd5 ["one", "two"] (spGcd K))
    (D_squarefree : Df K mg "squarefree" s_squarefree ["one"] f6 fd6) (G_squarefree : FnOk P w K mg base CX0 5 f6 fd6 ["one"] (spSq K))
    (D_law_is_list : Df K mg "_law_is_list" s_law_is_list ["told"] f7 fd7) (G_law_is_list : FnOk P w K mg base CX0 1 f7 fd7 ["told"] (spIsL K))
    (D_divided : Df K mg "divided" s_divided ["one", "two"] f8 fd8) (G_divided : FnOk P w K mg base CX0 1 f8 fd8 ["one", "two"] (spDiv K))
    (D_often : Df K mg "often" s_often ["one", "two"] f9 fd9) (G_often : FnOk P w K mg base CX0 2 f9 fd9 ["one", "two"] (spOften K))
    (D_law_menu : Df K mg "_law_menu" s_law_menu [] f10 fd10) (G_law_menu : FnOk P w K mg base CX0 1 f10 fd10 [] spMenu) : FnG P w K mg base 6 f fd ["draws"] (spPT K) := by
  refine fnG_ok D.F sc_law_powers_told (fun vs H Q E h => ?_) (fun cdv A outer s H vs Q E hr hgd h => ?_)
  · obtain ⟨a, ds, rfl, _⟩ := h
    rfl
  · obtain ⟨a, ds, rfl, hA, hd, q⟩ := h
    refine ⟨_, (pss_cons (ps_set (i := 1) sc_law_powers_told.nd rfl (.inr rfl) (pe_call G_law_powers (hr.mono (by decide)) (by rfl) D_law_powers.g D_law_powers.F.kp D_law_powers.b .nil pass0 (pa_cons (pv 0) (pa_cons pe_int (pa_cons pe_int pa_nil)))))
 (pss_cons (ps_set (i := 2) sc_law_powers_told.nd rfl (.inr rfl) (pe_call G_law_powers (hr.mono (by decide)) (by rfl) D_law_powers.g D_law_powers.F.kp D_law_powers.b .nil pass0 (pa_cons (pv 0) (pa_cons pe_int (pa_cons pe_int pa_nil)))))
 (pss_cons (ps_set (i := 3) sc_law_powers_told.nd rfl (.inr rfl) (pe_call G_law_powers (hr.mono (by decide)) (by rfl) D_law_powers.g D_law_powers.F.kp D_law_powers.b .nil pass0 (pa_cons (pv 0) (pa_cons pe_int (pa_cons pe_int pa_nil)))))
 (pss_cons (ps_set (i := 4) sc_law_powers_told.nd rfl (.inl rfl) (pe_call G_law_built (hr.mono (by decide)) (by rfl) D_law_built.g D_law_built.F.kp D_law_built.b .nil pass0 (pa_cons (pe_call G_law_number (hr.mono (by decide)) (by rfl) D_law_number.g D_law_number.F.kp D_law_number.b .nil pass0 (pa_cons (pv 0) (pa_cons pe_int pa_nil))) (pa_cons (pv 1) pa_nil))))
 (pss_cons (ps_set (i := 5) sc_law_powers_told.nd rfl (.inl rfl) (pe_call G_law_built (hr.mono (by decide)) (by rfl) D_law_built.g D_law_built.F.kp D_law_built.b .nil pass0 (pa_cons (pe_call G_law_number (hr.mono (by decide)) (by rfl) D_law_number.g D_law_number.F.kp D_law_number.b .nil pass0 (pa_cons (pv 0) (pa_cons pe_int pa_nil))) (pa_cons (pv 2) pa_nil))))
 (pss_cons (ps_set (i := 6) sc_law_powers_told.nd rfl (.inl rfl) (pe_call G_law_built (hr.mono (by decide)) (by rfl) D_law_built.g D_law_built.F.kp D_law_built.b .nil pass0 (pa_cons pe_int (pa_cons (pv 3) pa_nil))))
 (pss_cons (ps_set (i := 7) sc_law_powers_told.nd rfl (.inl rfl) (pe_call G_law_built (hr.mono (by decide)) (by rfl) D_law_built.g D_law_built.F.kp D_law_built.b .nil pass0 (pa_cons pe_int (pa_cons (pv 1) pa_nil))))
 (pss_cons (ps_set (i := 8) sc_law_powers_told.nd rfl (.inl rfl) (pe_call G_law_built (hr.mono (by decide)) (by rfl) D_law_built.g D_law_built.F.kp D_law_built.b .nil pass0 (pa_cons pe_int (pa_cons (pe_lc (own := [("t", 16)]) (g := gName 16) (tt := tYes) (by rfl) sc_law_powers_told.nd (pi_range1 (by rfl) B.range_ (pa_cons pe_int pa_nil)) (blkOk_by (N := ["draws", "mine", "other", "few", "one", "two", "part", "plain", "shared", "kept", "turn", "told", "row", "due", "found", "counts", "t"]) (sc := defScope s_law_powers_told) (by decide +kernel)) (fun _ _ _ _ _ => (pg_name (i := 16) sc_law_powers_told.nd rfl (.inl rfl))) (fun _ _ _ _ _ => pts_nil) (fun _ _ _ _ _ => (pe_callB (call_min2 (by rfl)) (by rfl) B.min_ (by decide +kernel) (pa_cons (pe_ix (ix_listK (K := K)) (pv 1) (pv 16) (fun _ _ => rfl)) (pa_cons (pe_ix (ix_listK (K := K)) (pv 2) (pv 16) (fun _ _ => rfl)) pa_nil))))) pa_nil))))
 (pss_cons (ps_set (i := 9) sc_law_powers_told.nd rfl (.inl rfl) (pe_callB (call_reprD (K := K) hgd hr.units) (by rfl) B.repr_ (by decide +kernel) (pa_cons (pe_tup (pa_cons (pv 4) (pa_cons (pv 5) (pa_cons (pv 6) pa_nil)))) pa_nil)))
 (pss_cons (ps_for PassesOwn.never rfl (pi_range1 (by rfl) B.range_ (pa_cons pe_int pa_nil)) (pg_name (i := 10) sc_law_powers_told.nd rfl (.inl rfl))
  (pss_cons (ps_set (i := 11) sc_law_powers_told.nd rfl (.inl rfl) (pe_lst (pa_cons (pe_call G_primitive (hr.mono (by decide)) (by rfl) D_primitive.g D_primitive.F.kp D_primitive.b .nil pass0 (pa_cons (pv 4) pa_nil)) (pa_cons (pe_call G_gcd (hr.mono (by decide)) (by rfl) D_gcd.g D_gcd.F.kp D_gcd.b .nil pass0 (pa_cons (pv 4) (pa_cons (pv 5) pa_nil))) (pa_cons (pe_call G_gcd (hr.mono (by decide)) (by rfl) D_gcd.g D_gcd.F.kp D_gcd.b .nil pass0 (pa_cons (pv 4) (pa_cons (pe_lst pa_nil) pa_nil))) (pa_cons (pe_call G_gcd (hr.mono (by decide)) (by rfl) D_gcd.g D_gcd.F.kp D_gcd.b .nil pass0 (pa_cons (pe_lst pa_nil) (pa_cons (pv 4) pa_nil))) (pa_cons (pe_call G_squarefree (hr.mono (by decide)) (by rfl) D_squarefree.g D_squarefree.F.kp D_squarefree.b .nil pass0 (pa_cons (pv 4) pa_nil)) pa_nil)))))))
 (pss_cons (ps_if (pt_cmpR (op_neDK (K := K) hr.units) (pv 11) (pe_lst (pa_cons (pv 7) (pa_cons (pv 8) (pa_cons (pv 7) (pa_cons (pv 7) (pa_cons (pe_call G_law_built (hr.mono (by decide)) (by rfl) D_law_built.g D_law_built.F.kp D_law_built.b .nil pass0 (pa_cons pe_int (pa_cons (pe_lc (own := [("t", 16)]) (g := gName 16) (tt := tYes) (by rfl) sc_law_powers_told.nd (pi_range1 (by rfl) B.range_ (pa_cons pe_int pa_nil)) (blkOk_by (N := ["draws", "mine", "other", "few", "one", "two", "part", "plain", "shared", "kept", "turn", "told", "row", "due", "found", "counts", "t"]) (sc := defScope s_law_powers_told) (by decide +kernel)) (fun _ _ _ _ _ => (pg_name (i := 16) sc_law_powers_told.nd rfl (.inl rfl))) (fun _ _ _ _ _ => pts_nil) (fun _ _ _ _ _ => (pe_callB (call_min2 (by rfl)) (by rfl) B.min_ (by decide +kernel) (pa_cons pe_int (pa_cons (pe_ix (ix_listK (K := K)) (pv 1) (pv 16) (fun _ _ => rfl)) pa_nil))))) pa_nil))) pa_nil)))))) (nomark _))
  (pss_one (ps_ret pe_bl))
  pss_nil)
 (pss_cons (ps_if (pt_cmpR (op_neDK (K := K) hr.units) (pe_lc (own := [("row", 12)]) (g := gName 12) (by rfl) sc_law_powers_told.nd (pi_list (pv 11)) (blkOk_by (N := ["draws", "mine", "other", "few", "one", "two", "part", "plain", "shared", "kept", "turn", "told", "row", "due", "found", "counts", "t"]) (sc := defScope s_law_powers_told) (by decide +kernel)) (fun _ _ _ _ _ => (pg_name (i := 12) sc_law_powers_told.nd rfl (.inl rfl))) (fun _ _ _ _ _ => (pts_one (pt_not (pt_val (pe_call G_law_is_list (hr.mono (by decide)) (by rfl) D_law_is_list.g D_law_is_list.F.kp D_law_is_list.b .nil pass0 (pa_cons (pv 12) pa_nil)))))) (fun _ _ _ _ _ => (pv 12))) (pe_lst pa_nil) (nomark _))
  (pss_one (ps_ret pe_bl))
  pss_nil)
 (pss_one (ps_for PassesOwn.never rfl (pi_list (pv 11)) (pg_name (i := 12) sc_law_powers_told.nd rfl (.inl rfl))
  (pss_one (ps_expr (pe_bm PySem.F.plainAttrs_list PySem.F.slot_list_append PySem.F.type_list_append mt_append (pv 12) (pa_cons pe_int pa_nil))))))))))
 (pss_cons (ps_set (i := 13) sc_law_powers_told.nd rfl (.inl rfl) pe_non)
 (C8.pss_cut (ps_if (pt_cmpR (op_eqDK (K := K) hr.units) (pe_lc (own := [("t", 16)]) (g := gName 16) (by rfl) sc_law_powers_told.nd (pi_range1 (by rfl) B.range_ (pa_cons pe_int pa_nil)) (blkOk_by (N := ["draws", "mine", "other", "few", "one", "two", "part", "plain", "shared", "kept", "turn", "told", "row", "due", "found", "counts", "t"]) (sc := defScope s_law_powers_told) (by decide +kernel)) (fun _ _ _ _ _ => (pg_name (i := 16) sc_law_powers_told.nd rfl (.inl rfl))) (fun _ _ _ _ _ => (pts_one (pt_cmpR op_gt (pe_ix (ix_listK (K := K)) (pv 3) (pv 16) (fun _ _ => rfl)) (pe_ix (ix_listK (K := K)) (pv 1) (pv 16) (fun _ _ => rfl)) (nomark _)))) (fun _ _ _ _ _ => (pv 16))) (pe_lst pa_nil) (nomark _))
  (pss_one (ps_set (i := 13) sc_law_powers_told.nd rfl (.inl rfl) (pe_call G_law_built (hr.mono (by decide)) (by rfl) D_law_built.g D_law_built.F.kp D_law_built.b .nil pass0 (pa_cons (pe_op op_fdivG (pe_ix (ix_listK (K := K)) (pv 4) (pe_un un_neg pe_int) (fun _ _ => rfl)) (pe_ix (ix_listK (K := K)) (pv 7) (pe_un un_neg pe_int) (fun _ _ => rfl))) (pa_cons (pe_lc (own := [("t", 16)]) (g := gName 16) (tt := tYes) (by rfl) sc_law_powers_told.nd (pi_range1 (by rfl) B.range_ (pa_cons pe_int pa_nil)) (blkOk_by (N := ["draws", "mine", "other", "few", "one", "two", "part", "plain", "shared", "kept", "turn", "told", "row", "due", "found", "counts", "t"]) (sc := defScope s_law_powers_told) (by decide +kernel)) (fun _ _ _ _ _ => (pg_name (i := 16) sc_law_powers_told.nd rfl (.inl rfl))) (fun _ _ _ _ _ => pts_nil) (fun _ _ _ _ _ => (pe_op op_sub (pe_ix (ix_listK (K := K)) (pv 1) (pv 16) (fun _ _ => rfl)) (pe_ix (ix_listK (K := K)) (pv 3) (pv 16) (fun _ _ => rfl))))) pa_nil)))))
  pss_nil)
 (pss_cons (ps_set (i := 14) sc_law_powers_told.nd rfl (.inl rfl) (pe_call G_divided (hr.mono (by decide)) (by rfl) D_divided.g D_divided.F.kp D_divided.b .nil pass0 (pa_cons (pv 4) (pa_cons (pv 6) pa_nil))))
 (C8.pss_cut (ps_if (PW.pt (pw_or (pt_cmpR (op_neDK (K := K) hr.units) (pv 14) (pv 13) (nomark _)) (pw_or1 (PW.pt (pw_and (pt_cmpR op_notN (pv 14) pe_non (nomark _)) (pw_and1 (pt_not (pt_val (pe_call G_law_is_list (hr.mono (by decide)) (by rfl) D_law_is_list.g D_law_is_list.F.kp D_law_is_list.b .nil pass0 (pa_cons (pv 14) pa_nil))))))))))
  (pss_one (ps_ret pe_bl))
  pss_nil)
 (pss_cons (ps_setLc (i := 15) (own := [("t", 16)]) (g := gName 16) (by rfl) sc_law_powers_told.nd rfl rfl (sw_true rfl rfl rfl (by decide +kernel)) (pi_range1 (by rfl) B.range_ (pa_cons pe_int pa_nil)) (blkOk_by (N := ["draws", "mine", "other", "few", "one", "two", "part", "plain", "shared", "kept", "turn", "told", "row", "due", "found", "counts", "t"]) (sc := defScope s_law_powers_told) (by decide +kernel)) (fun _ _ _ _ _ => (pg_name (i := 16) sc_law_powers_told.nd rfl (.inl rfl))) (fun _ _ _ _ _ => (pts_one (pt_cmpR op_gt (pe_ix (ix_listK (K := K)) (pv 3) (pv 16) (fun _ _ => rfl)) pe_int (nomark _)))) (fun _ _ _ _ _ => (pe_op op_fdivG (pe_ix (ix_listK (K := K)) (pv 1) (pv 16) (fun _ _ => rfl)) (pe_ix (ix_listK (K := K)) (pv 3) (pv 16) (fun _ _ => rfl)))))
 (C8.pss_cut (ps_if (PW.pt (pw_and (pt_cmpR (op_neDK (K := K) hr.units) (pv 15) (pe_lst pa_nil) (nomark _)) (pw_and1 (PW.pt (pw_or (pt_cmpR op_ne (pe_call G_often (hr.mono (by decide)) (by rfl) D_often.g D_often.F.kp D_often.b .nil pass0 (pa_cons (pv 4) (pa_cons (pv 6) pa_nil))) (pe_callB (cr_min (by rfl)) (by rfl) B.min_ (by decide +kernel) (pa_cons (pv 15) pa_nil)) (nomark _)) (pw_or1 (pt_val (pe_callB (call_isiK' (K := K)) (by rfl) B.isinstance_ (by decide +kernel) (pa_cons (pe_call G_often (hr.mono (by decide)) (by rfl) D_often.g D_often.F.kp D_often.b .nil pass0 (pa_cons (pv 4) (pa_cons (pv 6) pa_nil))) (pa_cons (pe_bltn (v := .ty "bool") (u := .type "bool") (by rfl) B.bool_ (by decide +kernel) rfl) pa_nil))))))))))
  (pss_one (ps_ret pe_bl))
  pss_nil)
 (pss_cons (ps_for PassesOwn.never rfl (pi_range1 (by rfl) B.range_ (pa_cons pe_int pa_nil)) (pg_name (i := 16) sc_law_powers_told.nd rfl (.inl rfl))
  (pss_one (ps_if (pt_cmpR op_ne (pe_call G_often (hr.mono (by decide)) (by rfl) D_often.g D_often.F.kp D_often.b .nil pass0 (pa_cons (pv 4) (pa_cons (pe_ix (ix_listK (K := K)) (pe_call0 G_law_menu (hr.mono (by decide)) (by rfl) D_law_menu.g D_law_menu.F.kp D_law_menu.b .nil pass0) (pv 16) (fun _ _ => rfl)) pa_nil))) (pe_ix (ix_listK (K := K)) (pv 1) (pv 16) (fun _ _ => rfl)) (nomark _))
  (pss_one (ps_ret pe_bl))
  pss_nil)))
 (pss_one (ps_ret (pe_cmpR op_eq (pe_callB (call_reprD (K := K) hgd hr.units) (by rfl) B.repr_ (by decide +kernel) (pa_cons (pe_tup (pa_cons (pv 4) (pa_cons (pv 5) (pa_cons (pv 6) pa_nil)))) pa_nil)) (pv 9) (nomark _))))))))))))))))))))), ?_⟩
    refine ⟨.ref a, rfl, a, ds, 0, 3, rfl, hA, hd, by omega, by omega, fun mine lm em H1 pm s1 nm hm => ?_⟩
    refine ⟨.ref a, rfl, a, ds, 10, 3, rfl, s1.seq hA, hd, by omega, by omega, fun other lo eo H2 po s2 no ho => ?_⟩
    refine ⟨.ref a, rfl, a, ds, 20, 2, rfl, s2.seq (s1.seq hA), hd, by omega, by omega, fun few lf ef H3 pf s3 nf hf => ?_⟩
    have t3 := (s1.trans s2).trans s3
    refine ⟨.ref a, rfl, a, ds, 30, rfl, t3.seq hA, hd, by omega, fun c1 H4 c10 c1b s4 => ?_⟩
    have hm4 := s4 _ _ (s3 _ _ (s2 _ _ hm))
    refine ⟨.ref pm, rfl, pm, c1, mine, rfl, lst_of hm4, (M c1 1 mine other few c10 c1b (by decide) (by decide) lm lo lf em eo ef).b1, fun H5 p1 s5 n1 h1 => ?_⟩
    have t5 := (t3.trans s4).trans s5
    refine ⟨.ref a, rfl, a, ds, 32, rfl, t5.seq hA, hd, by omega, fun c2 H6 c20 c2b s6 => ?_⟩
    have F := M c1 c2 mine other few c10 c1b c20 c2b lm lo lf em eo ef
    have ho6 := s6 _ _ (s5 _ _ (s4 _ _ (s3 _ _ ho)))
    refine ⟨.ref po, rfl, po, c2, other, rfl, lst_of ho6, F.b2, fun H7 p2 s7 n2 h2 => ?_⟩
    have hf7 := s7 _ _ (s6 _ _ (s5 _ _ (s4 _ _ hf)))
    refine ⟨.ref pf, rfl, pf, 1, few, rfl, lst_of hf7, F.b3, fun H8 p3 s8 n3 h3 => ?_⟩
    have hm8 := s8 _ _ (s7 _ _ (s6 _ _ (s5 _ _ hm4)))
    have ho8 := s8 _ _ (s7 _ _ ho6)
    refine ⟨.ref pm, rfl, pm, 1, mine, rfl, lst_of hm8, F.b4, fun H9 p4 s9 n4 h4 => ?_⟩
    have hm9 := s9 _ _ hm8
    have ho9 := s9 _ _ ho8
    dsimp only [L2.gName, L2.tSeq, L2.tAsg, L2.tCall, L2.tCons, L2.tC]
    refine lc8 (v := 16) (fun t => if ((other.getD t 0 : Nat) : Int) < ((mine.getD t 0 : Nat) : Int) then ((other.getD t 0 : Nat) : Int) else ((mine.getD t 0 : Nat) : Int)) (fun t H' Q' ht sm k => ?_) (by intro x; rfl) (fun H10 C s10 nC hC => ?_)
    · exact ⟨.ref pm, rfl, _, rfl, pm, _, _, _, rfl, rfl, lst_of (sm _ _ hm9), nl_at rfl (by omega), .ref po, rfl, _, rfl, po, _, _, _, rfl, rfl, lst_of (sm _ _ ho9), nl_at rfl (by omega), _, _, rfl, k⟩
    rw [nl_mn] at hC
    refine ⟨C, 1, mn mine other, rfl, lst_of hC, F.b5, fun H11 p5 s11 n5 h5 => ?_⟩
    -- all that was made, in one heap
    have tb : Same H H11 := ((((((t5.trans s6).trans s7).trans s8).trans s9).trans s10).trans s11)
    have gm := s11 _ _ (s10 _ _ hm9)
    have go := s11 _ _ (s10 _ _ ho9)
    have gf := s11 _ _ (s10 _ _ (s9 _ _ (s8 _ _ hf7)))
    have g1 := s11 _ _ (s10 _ _ (s9 _ _ (s8 _ _ (s7 _ _ (s6 _ _ h1)))))
    have g2 := s11 _ _ (s10 _ _ (s9 _ _ (s8 _ _ h2)))
    have g3 := s11 _ _ (s10 _ _ (s9 _ _ h3))
    have g4 := s11 _ _ (s10 _ _ h4)
    clear s1 s2 s3 s4 s5 s6 s7 s8 s9 s10 s11 t3 t5 hm4 ho6 hf7 hm8 ho8 hm9 ho9 nm no nf n1 n2 n3 n4 n5 hm ho hf h1 h2 h3 h4 nC hC
    refine ⟨.ref p1, rfl, .ref p2, rfl, .ref p3, rfl, sz_small (by show 3 ≤ 100000; decide), fun T hT => ?_⟩
    have sT := same_new (o := .tup [.ref p1, .ref p2, .ref p3]) hT
    refine ⟨T, d3 _ _ _, rfl, d3_dp upd_same (sT _ _ g1) (sT _ _ g2) (sT _ _ g3), showable_d3 F.s1 F.s2 F.s3, nodict_d3 _ _ _, depth_d3 _ _ _, shown_d3 F.s1 F.s2 F.s3, ?_⟩
    have ub := tb.trans sT
    have gm := sT _ _ gm
    have go := sT _ _ go
    have gf := sT _ _ gf
    have g1 := sT _ _ g1
    have g2 := sT _ _ g2
    have g3 := sT _ _ g3
    have g4 := sT _ _ g4
    have g5 := sT _ _ h5
    clear sT h5 tb hT
    revert ub gm go gf g1 g2 g3 g4 g5
    generalize upd H11 T (.tup [.ref p1, .ref p2, .ref p3]) = Hb
    intro ub gm go gf g1 g2 g3 g4 g5
    generalize hTx : (d3 (builtP c1 mine 8) (builtP c2 other 8) (builtP 1 few 8)).shown = Tx
    -- for turn in range(2)
    refine ⟨_, rfl, by omega, by omega, ?_⟩
    refine for_range (fun i σ H' => ∃ (y1 y2 y3 : Option V), σ = [some (.ref a), some (.ref pm), some (.ref po), some (.ref pf), some (.ref p1), some (.ref p2), some (.ref p3), some (.ref p4), some (.ref p5), some (.str Tx), y1, y2, y3, none, none, none, none] ∧ Same Hb H')
      ⟨none, none, none, rfl, Same.refl _⟩ (fun i σ H' hi h => ?_) (fun σ H' h => ?_)
    · obtain ⟨y1, y2, y3, rfl, sm⟩ := h
      rw [Int.zero_add]
      have pw : PrimFits (primP (builtP c1 mine 8)) := by rw [F.pe]; exact F.pl
      -- told = [..]
      refine ⟨.ref p1, rfl, p1, _, rfl, lst_of (sm _ _ g1), F.p1, fun A1 q1 s1 n1 h1 => ?_⟩
      rw [F.pe] at h1
      have w1 := sm.trans s1
      obtain ⟨r1, run1⟩ := F.g1
      refine ⟨.ref p1, rfl, .ref p2, rfl, p1, p2, _, _, _, r1, rfl, lst_of (w1 _ _ g1), lst_of (w1 _ _ g2), F.p1, F.p2, by rw [F.pe]; exact run1, fun A2 q2 s2 n2 h2 => ?_⟩
      have w2 := w1.trans s2
      refine ⟨.ref p1, rfl, Nat.zero_le _, fun e1 he1 => ?_⟩
      have u1 := same_new (o := .lst []) he1
      refine ⟨p1, e1, _, [], _, 0, rfl, lst_of (u1 _ _ (w2 _ _ g1)), lst_of upd_same, F.p1, primfits_nil, by rw [F.pe]; exact gcd_right, fun A3 q3 s3 n3 h3 => ?_⟩
      have w3 := (w2.trans u1).trans s3
      refine ⟨Nat.zero_le _, fun e2 he2 => ?_⟩
      have u2 := same_new (o := .lst []) he2
      refine ⟨.ref p1, rfl, e2, p1, [], _, _, 1, rfl, lst_of upd_same, lst_of (u2 _ _ (w3 _ _ g1)), primfits_nil, F.p1, by rw [F.pe]; exact gcd_left F.pn, fun A4 q4 s4 n4 h4 => ?_⟩
      have w4 := (w3.trans u2).trans s4
      obtain ⟨r5, sg, run5, dv5⟩ := F.sq
      refine ⟨.ref p1, rfl, p1, _, sg, _, r5, rfl, lst_of (w4 _ _ g1), F.p1, pw, by rw [F.pe]; exact F.pd, by rw [F.pe]; exact F.pn, by rw [F.pe]; exact F.fm, by rw [F.pe, F.pi]; exact run5, by rw [F.pe]; exact dv5, fun A5 q5 s5 n5 h5 => ?_⟩
      have w5 := w4.trans s5
      refine ⟨sz_small (by show 5 ≤ 100000; decide), fun tl htl => ?_⟩
      have u3 := same_new (o := .lst [.ref q1, .ref q2, .ref q3, .ref q4, .ref q5]) htl
      have w6 := w5.trans u3
      have i1 := u3 _ _ (s5 _ _ (s4 _ _ (u2 _ _ (s3 _ _ (u1 _ _ (s2 _ _ h1))))))
      have i2 := u3 _ _ (s5 _ _ (s4 _ _ (u2 _ _ (s3 _ _ (u1 _ _ h2)))))
      have i3 := u3 _ _ (s5 _ _ (s4 _ _ (u2 _ _ h3)))
      have i4 := u3 _ _ (s5 _ _ h4)
      have i5 := u3 _ _ h5
      have j1 : Hb q1 = none := sm.free n1
      have j2 : Hb q2 = none := w1.free n2
      have j3 : Hb q3 = none := w2.free (u1.free n3)
      have j4 : Hb q4 = none := w3.free (u2.free n4)
      have j5 : Hb q5 = none := w4.free n5
      have k1 : q1 ≠ tl := ne_of_none (s5 _ _ (s4 _ _ (u2 _ _ (s3 _ _ (u1 _ _ (s2 _ _ h1)))))) htl
      have k2 : q2 ≠ tl := ne_of_none (s5 _ _ (s4 _ _ (u2 _ _ (s3 _ _ (u1 _ _ h2))))) htl
      have k3 : q3 ≠ tl := ne_of_none (s5 _ _ (s4 _ _ (u2 _ _ h3))) htl
      have k4 : q4 ≠ tl := ne_of_none (s5 _ _ h4) htl
      have k5 : q5 ≠ tl := ne_of_none h5 htl
      have jt : Hb tl = none := w5.free htl
      have it := upd_same (H := A5) (a := tl) (o := .lst [.ref q1, .ref q2, .ref q3, .ref q4, .ref q5])
      clear s1 s2 s3 s4 s5 u1 u2 u3 w1 w2 w3 w4 w5 n1 n2 n3 n4 n5 h1 h2 h3 h4 h5 htl he1 he2
      revert w6 i1 i2 i3 i4 i5 it
      generalize upd A5 tl (.lst [.ref q1, .ref q2, .ref q3, .ref q4, .ref q5]) = Ht
      intro w6 i1 i2 i3 i4 i5 it
      -- if told != [..]
      refine ⟨.ref tl, rfl, .ref p4, rfl, .ref p5, rfl, .ref p4, rfl, .ref p4, rfl, ?_⟩
      dsimp only [L2.gName, L2.tSeq, L2.tAsg, L2.tCall, L2.tCons, L2.tC]
      refine lc8 (v := 16) (fun t => if ((mine.getD t 0 : Nat) : Int) < 1 then ((mine.getD t 0 : Nat) : Int) else 1) (fun t H' Q' ht sm k => ?_) (by intro x; rfl) (fun A6 C s6 nC hC => ?_)
      · exact ⟨.ref pm, rfl, _, rfl, pm, _, _, _, rfl, rfl, lst_of (sm _ _ (w6 _ _ gm)), nl_at rfl (by omega), _, _, rfl, k⟩
      rw [nl_mn1] at hC
      refine ⟨C, 1, mn1 mine, rfl, lst_of hC, F.b6, fun A7 q6 s7 n6 h6 => ?_⟩
      have s67 := s6.trans s7
      refine ⟨sz_small (by show 5 ≤ 100000; decide), fun tl2 htl2 => ?_⟩
      have u4 := same_new (o := .lst [.ref p4, .ref p5, .ref p4, .ref p4, .ref q6]) htl2
      have v1 := s67.trans u4
      have v2 := w6.trans v1
      refine ⟨dLL _, dLL _, d5_dp (v1 _ _ it) (v1 _ _ i1) (v1 _ _ i2) (v1 _ _ i3) (v1 _ _ i4) (v1 _ _ i5), d5_dp upd_same (v2 _ _ g4) (v2 _ _ g5) (v2 _ _ g4) (v2 _ _ g4) (u4 _ _ h6), sh_dLL _, sh_dLL _, _, rfl, ?_⟩
      rw [eqv_dLL]
      refine iteF ?_
      have it := v1 _ _ it
      have i1 := v1 _ _ i1
      have i2 := v1 _ _ i2
      have i3 := v1 _ _ i3
      have i4 := v1 _ _ i4
      have i5 := v1 _ _ i5
      clear s6 s7 s67 u4 v1 w6 htl2 nC hC n6 h6
      revert v2 it i1 i2 i3 i4 i5
      generalize upd A7 tl2 (.lst [.ref p4, .ref p5, .ref p4, .ref p4, .ref q6]) = Hu
      intro v2 it i1 i2 i3 i4 i5
      -- if [row for row in told if not is_list(row)] != []
      refine ⟨.ref tl, rfl, tl, rfl, ⟨_, lst_of it⟩, fun C hC => ?_⟩
      have all : ∀ (i : Nat) (x : V), ([.ref q1, .ref q2, .ref q3, .ref q4, .ref q5] : List V)[i]? = some x → ∃ (p : Addr) (zs : Pl), x = .ref p ∧ Hu p = some (.lst (IL zs)) := by
        intro i x hx
        have := List.mem_of_getElem? hx
        simp only [List.mem_cons, List.not_mem_nil, or_false] at this
        rcases this with h | h | h | h | h
        · exact ⟨q1, _, h, i1⟩
        · exact ⟨q2, _, h, i2⟩
        · exact ⟨q3, _, h, i3⟩
        · exact ⟨q4, _, h, i4⟩
        · exact ⟨q5, _, h, i5⟩
      refine lc_list (xs := [.ref q1, .ref q2, .ref q3, .ref q4, .ref q5]) (fun i H' => Same Hu H' ∧ H' C = some (.lst [])) ⟨same_new hC, upd_same⟩ (fun i H' _ h => lst_of (h.1 _ _ it)) (fun i x H' hx h => ?_) (fun H' h => ?_)
      · obtain ⟨sm', hC'⟩ := h
        obtain ⟨p, zs, rfl, hp⟩ := all i x hx
        refine ⟨rfl, .ref p, rfl, p, zs, rfl, sm' _ _ hp, fun H2 s2 => ⟨true, rfl, ?_⟩⟩
        exact iteF ⟨sm'.trans s2, s2 _ _ hC'⟩
      obtain ⟨sm', hC'⟩ := h
      refine ⟨Nat.zero_le _, fun e0 he0 => ?_⟩
      have s0 := same_new (o := .lst []) he0
      refine ⟨dI [], dI [], dp_il (xs := []) (lst_of (s0 _ _ hC')), dp_il (xs := []) (lst_of upd_same), sh_dI _, sh_dI _, _, rfl, ?_⟩
      rw [eqv_dI]
      refine iteF ?_
      have v3 := sm'.trans s0
      -- for row in told: row.append(7)
      have ld : ∀ p : Pl, p.length ≤ 1000 → p.length ≤ 2000 := fun p h => by omega
      have lens : ∀ x ∈ ([.ref q1, .ref q2, .ref q3, .ref q4, .ref q5] : List V), ∃ p, x = .ref p ∧ Hb p = none ∧ p ≠ tl ∧ ∃ zs : Pl, Hu p = some (.lst (IL zs)) ∧ zs.length ≤ 2000 := by
        intro x hx
        simp only [List.mem_cons, List.not_mem_nil, or_false] at hx
        rcases hx with h | h | h | h | h
        · exact ⟨q1, h, j1, k1, _, i1, ld _ F.pl.l⟩
        · exact ⟨q2, h, j2, k2, _, i2, ld _ F.ls⟩
        · exact ⟨q3, h, j3, k3, _, i3, ld _ F.pl.l⟩
        · exact ⟨q4, h, j4, k4, _, i4, ld _ F.pl.l⟩
        · exact ⟨q5, h, j5, k5, _, i5, ld _ F.lq⟩
      refine ⟨.ref tl, rfl, tl, rfl, ⟨_, lst_of (v3 _ _ it)⟩, ?_⟩
      refine for_list (xs := [.ref q1, .ref q2, .ref q3, .ref q4, .ref q5]) (fun j σ H' => ∃ (y3 : Option V), σ = [some (.ref a), some (.ref pm), some (.ref po), some (.ref pf), some (.ref p1), some (.ref p2), some (.ref p3), some (.ref p4), some (.ref p5), some (.str Tx), some (.int i), some (.ref tl), y3, none, none, none, none] ∧ Same Hb H' ∧ H' tl = some (.lst [.ref q1, .ref q2, .ref q3, .ref q4, .ref q5]) ∧
          ∀ x ∈ ([.ref q1, .ref q2, .ref q3, .ref q4, .ref q5] : List V), ∃ p, x = .ref p ∧ Hb p = none ∧ p ≠ tl ∧ ∃ zs : Pl, H' p = some (.lst (IL zs)) ∧ zs.length ≤ 2000 + j)
        ⟨y3, rfl, v2.trans v3, v3 _ _ it, fun x hx => ?_⟩ (fun j σ H' _ h => ?_) (fun j x σ H' hx h => ?_) (fun σ H' h => ?_)
      · obtain ⟨p, e, a1, a2, zs, a3, a4⟩ := lens x hx
        exact ⟨p, e, a1, a2, zs, v3 _ _ a3, a4⟩
      · obtain ⟨y3, rfl, _, h, _⟩ := h
        exact lst_of h
      · obtain ⟨y3, rfl, sb', ht', al⟩ := h
        obtain ⟨p, rfl, a1, a2, zs, a3, a4⟩ := al x (List.mem_of_getElem? hx)
        refine ⟨.ref p, rfl, .inl ⟨rfl, _, lst_of a3⟩, p, _, _, rfl, rfl, a3, ?_, _, rfl, same_mut sb' a1, ?_, fun y hy => ?_⟩
        · rw [il_len]
          have : j < 5 := (List.getElem?_eq_some_iff.mp hx).1
          exact sz_lt (by omega)
        · rw [upd_ne a2.symm]
          exact ht'
        · obtain ⟨p', e, b1, b2, zs', b3, b4⟩ := al y hy
          by_cases hpp : p' = p
          · subst hpp
            refine ⟨p', e, b1, b2, zs ++ [7], ?_, ?_⟩
            · rw [upd_same, ← il_app]
              rfl
            · rw [List.length_append]
              show zs.length + 1 ≤ _
              omega
          · refine ⟨p', e, b1, b2, zs', ?_, by omega⟩
            rw [upd_ne hpp]
            exact b3
      · obtain ⟨y3, rfl, sb', ht', al⟩ := h
        exact ⟨_, _, _, rfl, sb'⟩
    · obtain ⟨y1, y2, y3, rfl, sm⟩ := h
      by_cases hall : ∀ t, t < 8 → few.getD t 0 ≤ mine.getD t 0
      all_goals
        refine ⟨fun σ' H' => ∃ v : V, σ' = [some (.ref a), some (.ref pm), some (.ref po), some (.ref pf), some (.ref p1), some (.ref p2), some (.ref p3), some (.ref p4), some (.ref p5), some (.str Tx), y1, y2, y3, some v, none, none, none] ∧ Same Hb H' ∧
          ((¬ (∀ t, t < 8 → few.getD t 0 ≤ mine.getD t 0) ∧ v = .non) ∨ ((∀ t, t < 8 → few.getD t 0 ≤ mine.getD t 0) ∧ ∃ p, v = .ref p ∧ H' p = some (.lst (IL (builtP c1 (sb mine few) 8))))), ?_, ?_⟩
        · dsimp only [L2.tIfS, L2.tTest, L2.tOp]
          refine lcF (v := 16) (fun t => decide (((mine.getD t 0 : Nat) : Int) < ((few.getD t 0 : Nat) : Int))) (fun t => (t : Int)) (fun t H' Q' ht sm' k => ?_) (fun t H' Q' ht _ sm' k => ?_) (by intro x; rfl) (fun A1 C s1 nC hC => ?_)
          · exact ⟨.ref pf, rfl, _, rfl, pf, _, _, _, rfl, rfl, lst_of (sm' _ _ (sm _ _ gf)), nl_at rfl (by omega), .ref pm, rfl, _, rfl, pm, _, _, _, rfl, rfl, lst_of (sm' _ _ (sm _ _ gm)), nl_at rfl (by omega), _, _, rfl, rfl, _, rfl, k⟩
          · exact ⟨_, rfl, k⟩
          have w1 := sm.trans s1
          refine ⟨Nat.zero_le _, fun e0 he0 => ?_⟩
          have u0 := same_new (o := .lst []) he0
          refine ⟨dI _, dI [], dp_il (u0.seq (lst_of hC)), dp_il (xs := []) (lst_of upd_same), sh_dI _, sh_dI _, _, rfl, ?_⟩
          rw [eqv_dI]
          have w2 := w1.trans u0
          refine ite2 (fun h1 => ?_) (fun h1 => ?_)
          · have h2 := of_decide_eq_true h1
            have al : ∀ t, t < 8 → few.getD t 0 ≤ mine.getD t 0 := by
              intro t ht
              rw [List.map_eq_nil_iff, List.filter_eq_nil_iff] at h2
              have := h2 t (List.mem_range.mpr ht)
              simp only [decide_eq_true_eq] at this
              omega
            refine ⟨.ref p1, rfl, 1, rfl, p1, _, _, _, rfl, rfl, lst_of (w2 _ _ g1), at_last F.on, .ref p4, rfl, 1, rfl, p4, _, _, _, rfl, rfl, lst_of (w2 _ _ g4), at_last F.pn, _, _, rfl, rfl, divG F.lz F.lb, ?_⟩
            dsimp only [L2.gName, L2.tSeq, L2.tAsg, L2.tCall, L2.tCons, L2.tC]
            refine lc8 (v := 16) (fun t => ((mine.getD t 0 : Nat) : Int) - ((few.getD t 0 : Nat) : Int)) (fun t H' Q' ht sm' k => ?_) (by intro x; rfl) (fun A2 C2 s2 nC2 hC2 => ?_)
            · exact ⟨.ref pm, rfl, _, rfl, pm, _, _, _, rfl, rfl, lst_of (sm' _ _ (w2 _ _ gm)), nl_at rfl (by omega), .ref pf, rfl, _, rfl, pf, _, _, _, rfl, rfl, lst_of (sm' _ _ (w2 _ _ gf)), nl_at rfl (by omega), _, _, rfl, rfl, k⟩
            rw [nl_sb al] at hC2
            refine ⟨C2, c1, sb mine few, by show [V.int ((lastP _).fdiv (lastP _)), V.ref C2] = _; rw [F.la], lst_of hC2, (F.du al).1, fun A3 r s3 nr hr' => ?_⟩
            exact ⟨.ref r, rfl, (w2.trans s2).trans s3, .inr ⟨al, r, rfl, hr'⟩⟩
          · refine ⟨.non, rfl, w2, .inl ⟨fun al => h1 (decide_eq_true ?_), rfl⟩⟩
            rw [List.map_eq_nil_iff, List.filter_eq_nil_iff]
            intro t ht
            have := al t (List.mem_range.mp ht)
            simp only [decide_eq_true_eq]
            omega
      case' pos =>
        rintro σ' H' ⟨v, rfl, sm, hv⟩
        obtain ⟨pd, rfl, hpd⟩ : ∃ p, v = .ref p ∧ H' p = some (.lst (IL (builtP c1 (sb mine few) 8))) := by
          rcases hv with ⟨h, _⟩ | ⟨_, h⟩
          · exact absurd hall h
          · exact h
        refine ⟨.ref p1, rfl, .ref p3, rfl, p1, p3, _, _, _, rfl, lst_of (sm _ _ g1), lst_of (sm _ _ g3), (F.du hall).2, fun A4 r s4 nr hr' => ?_⟩
        refine ⟨fun σ' H' => ∃ v1 v2 : V, σ' = [some (.ref a), some (.ref pm), some (.ref po), some (.ref pf), some (.ref p1), some (.ref p2), some (.ref p3), some (.ref p4), some (.ref p5), some (.str Tx), y1, y2, y3, some v1, some v2, none, none] ∧ Same Hb H', ?_, ?_⟩
        · refine ⟨.ref r, rfl, .ref pd, rfl, dI _, dI _, dp_il (lst_of hr'), dp_il (lst_of (s4 _ _ hpd)), sh_dI _, sh_dI _, _, rfl, ?_⟩
          rw [eqv_dI, decide_eq_true rfl]
          refine iteF ?_
          refine ⟨.ref r, rfl, rfl, _, rfl, ?_⟩
          refine iteT ?_
          refine ⟨.ref r, rfl, r, _, rfl, hr', fun A5 s5 => ⟨true, rfl, ?_⟩⟩
          exact iteF ⟨_, _, rfl, (sm.trans s4).trans s5⟩
      case' neg =>
        rintro σ' H' ⟨v, rfl, sm, hv⟩
        obtain rfl : v = .non := by
          rcases hv with ⟨_, h⟩ | ⟨h, _⟩
          · exact h
          · exact absurd h hall
        refine ⟨.ref p1, rfl, .ref p3, rfl, p1, p3, _, _, _, rfl, lst_of (sm _ _ g1), lst_of (sm _ _ g3), F.dn hall, fun A4 s4 => ?_⟩
        refine ⟨fun σ' H' => ∃ v1 v2 : V, σ' = [some (.ref a), some (.ref pm), some (.ref po), some (.ref pf), some (.ref p1), some (.ref p2), some (.ref p3), some (.ref p4), some (.ref p5), some (.str Tx), y1, y2, y3, some v1, some v2, none, none] ∧ Same Hb H', ?_, ?_⟩
        · refine ⟨.non, rfl, .non, rfl, .none, .none, .non, .non, by decide, by decide, _, rfl, ?_⟩
          refine iteF ?_
          refine ⟨.non, rfl, rfl, _, rfl, ?_⟩
          refine iteF ?_
          exact iteF ⟨_, _, rfl, sm.trans s4⟩
      all_goals
        clear sm hv
        rintro σ' H' ⟨v1, v2, rfl, sm⟩
        dsimp only [L2.tSeq, L2.tAsg]
        refine lcF (v := 16) (fun t => decide ((0 : Int) < ((few.getD t 0 : Nat) : Int))) (fun t => ((mine.getD t 0 : Nat) : Int).fdiv ((few.getD t 0 : Nat) : Int)) (fun t H' Q' ht sm' k => ?_) (fun t H' Q' ht hc sm' k => ?_) (by intro x; rfl) (fun A1 C s1 nC hC => ?_)
        · exact ⟨.ref pf, rfl, _, rfl, pf, _, _, _, rfl, rfl, lst_of (sm' _ _ (sm _ _ gf)), nl_at rfl (by omega), _, _, rfl, rfl, _, rfl, k⟩
        · have hc := of_decide_eq_true hc
          have hl : few.getD t 0 ≤ 2 := ef _ (by rw [List.getD_eq_getElem?_getD, List.getElem?_eq_getElem (by omega)]; exact List.getElem_mem (by omega))
          refine ⟨.ref pm, rfl, _, rfl, pm, _, _, _, rfl, rfl, lst_of (sm' _ _ (sm _ _ gm)), nl_at rfl (by omega), .ref pf, rfl, _, rfl, pf, _, _, _, rfl, rfl, lst_of (sm' _ _ (sm _ _ gf)), nl_at rfl (by omega), _, _, rfl, rfl, divG (by omega) ?_, k⟩
          exact Nat.lt_of_le_of_lt (show _ ≤ 2 by omega) (Nat.lt_of_lt_of_le (show 2 < 2 ^ 2 by decide) (Nat.pow_le_pow_right (by decide) (by decide)))
        rw [nl_cnt] at hC
        have sm := sm.trans s1
        clear s1
        refine ⟨fun σ' H' => ∃ v1 v2 v3 : V, σ' = [some (.ref a), some (.ref pm), some (.ref po), some (.ref pf), some (.ref p1), some (.ref p2), some (.ref p3), some (.ref p4), some (.ref p5), some (.str Tx), y1, y2, y3, some v1, some v2, some v3, none] ∧ Same Hb H', ?_, ?_⟩
        · refine ⟨.ref C, rfl, Nat.zero_le _, fun e0 he0 => ?_⟩
          have u0 := same_new (o := .lst []) he0
          have w := sm.trans u0
          refine ⟨dI _, dI [], dp_il (u0.seq (lst_of hC)), dp_il (xs := []) (lst_of upd_same), sh_dI _, sh_dI _, _, rfl, ?_⟩
          rw [eqv_dI]
          refine ite2 (fun h1 => ?_) (fun h1 => ?_)
          · have ne : PA.cnt mine few ≠ [] := fun z => by
              rw [z] at h1
              exact absurd h1 (by decide)
            obtain ⟨n, of1, of2, of3⟩ := F.of ne
            have lp : 0 < (NL (PA.cnt mine few)).length := by
              rw [List.length_map]
              exact List.length_pos_iff.mpr ne
            refine ⟨.ref p1, rfl, .ref p3, rfl, p1, p3, _, _, n, rfl, lst_of (w _ _ g1), lst_of (w _ _ g3), of1, fun A2 s2 => ?_⟩
            refine ⟨.ref C, rfl, C, _, rfl, lst_of (s2 _ _ (u0 _ _ hC)), lp, fun m hm hle => ?_⟩
            have em : m = (n : Int) := by
              obtain ⟨x, hx, rfl⟩ := List.mem_map.mp hm
              have h1 := of3 x hx
              have h2 := hle (Int.ofNat n) (List.mem_map.mpr ⟨n, of2, rfl⟩)
              show ((x : Nat) : Int) = (n : Int)
              have h3 : ((x : Nat) : Int) ≤ (n : Int) := h2
              omega
            subst em
            refine ⟨rfl, _, rfl, ?_⟩
            rw [decide_eq_true rfl]
            refine iteF ?_
            refine ⟨.ref p1, rfl, .ref p3, rfl, p1, p3, _, _, n, rfl, lst_of (s2 _ _ (w _ _ g1)), lst_of (s2 _ _ (w _ _ g3)), of1, fun A3 s3 => ?_⟩
            refine ⟨_, _, _, _, false, rfl, .ty "bool", .base (.int _), kit_ty (by decide +kernel), false, rfl, ?_⟩
            exact iteF ⟨_, _, _, rfl, (w.trans s2).trans s3⟩
          · exact iteF ⟨_, _, _, rfl, w⟩
        · clear sm hC nC
          rintro σ' H' ⟨v1, v2, v3, rfl, sm⟩
          refine ⟨_, rfl, by omega, by omega, ?_⟩
          refine for_range (fun i σ H' => ∃ y : Option V, σ = [some (.ref a), some (.ref pm), some (.ref po), some (.ref pf), some (.ref p1), some (.ref p2), some (.ref p3), some (.ref p4), some (.ref p5), some (.str Tx), y1, y2, y3, some v1, some v2, some v3, y] ∧ Same Hb H') ⟨none, rfl, sm⟩ (fun t σ H' ht h => ?_) (fun σ H' h => ?_)
          · obtain ⟨y, rfl, sm⟩ := h
            have ht8 : t < 8 := ht
            rw [Int.zero_add]
            refine ⟨.ref p1, rfl, rfl, fun A2 m as s2 hm' la has => ?_⟩
            obtain ⟨nf, hf⟩ := has t ht8
            have ha : atI (as.map V.ref) (t : Int) = some (.ref (as.getD t 0)) := by
              refine atI_nat ?_
              rw [List.getElem?_map, List.getElem?_eq_getElem (by omega), List.getD_eq_getElem?_getD, List.getElem?_eq_getElem (by omega)]
              rfl
            refine ⟨_, rfl, m, _, _, _, rfl, rfl, lst_of hm', ha, p1, as.getD t 0, _, _, mine.getD t 0, rfl, lst_of (s2 _ _ (sm _ _ g1)), lst_of hf, F.om t ht8, fun A3 s3 => ?_⟩
            refine ⟨.ref pm, rfl, _, rfl, pm, _, _, _, rfl, rfl, lst_of (s3 _ _ (s2 _ _ (sm _ _ gm))), nl_at rfl (by omega), rfl, _, rfl, ?_⟩
            rw [decide_eq_true rfl]
            exact iteF ⟨_, rfl, (sm.trans s2).trans s3⟩
          · obtain ⟨y, rfl, sm⟩ := h
            refine ⟨.ref p1, rfl, .ref p2, rfl, .ref p3, rfl, sz_small (by show 3 ≤ 100000; decide), fun T hT => ?_⟩
            have sT := same_new (o := .tup [.ref p1, .ref p2, .ref p3]) hT
            have w := sm.trans sT
            refine ⟨T, d3 _ _ _, rfl, d3_dp upd_same (w _ _ g1) (w _ _ g2) (w _ _ g3), showable_d3 F.s1 F.s2 F.s3, nodict_d3 _ _ _, depth_d3 _ _ _, shown_d3 F.s1 F.s2 F.s3, .str Tx, rfl, rfl, ?_⟩
            rw [hTx, decide_eq_true rfl]
            exact q _ (ub.trans w)
end
end K78

set_option Elab.async false
set_option linter.all false
set_option maxRecDepth 100000
set_option maxHeartbeats 8000000
namespace K78
open PySem PySem.Spec PyProof.Rows L2 PA
section
variable {P : Program} {w : World} {K : PySem.W.Frag} {mg : Str → Option Value} {base : Heap}
/-- what the mathematics says of the second half -/
def OTAll : Prop := ∀ S A B : Pl, trim S = S → trim A = A → trim B = B → S.length ≤ 7 → A.length ≤ 7 → B.length ≤ 7 → (∀ x ∈ S, x.natAbs ≤ 1000000) → (∀ x ∈ A, x.natAbs ≤ 1000000) → (∀ x ∈ B, x.natAbs ≤ 1000000) → OTFacts (mulP S A) (mulP S B)
theorem small6 {x : Int} (h : x.natAbs ≤ 1000000) : x.natAbs < 2 ^ 30 := Nat.lt_of_le_of_lt h (by decide)
/-- data that is None or a list of ints -/
def dO : Option Pl → PyData
  | none => .none
  | some p => dI p
theorem sh_dO : ∀ o, SeqAt.shaped (dO o) = true
  | none => by decide
  | some p => sh_dI p
theorem eqv_dO : ∀ o, PyData.eqv (dO o) (dO o) = true
  | none => rfl
  | some p => by
    show PyData.eqv (dI p) (dI p) = true
    rw [eqv_dI, decide_eq_true rfl]
theorem ok_otold (M : OTAll) {f f1 f2 f3 f4 f5 f6 f7 f8 f9 : Addr} {fd fd1 fd2 fd3 fd4 fd5 fd6 fd7 fd8 fd9 : FuncData} (B : Bl mg) (D : Df K mg "_law_others_told" s_law_others_told ["draws"] f fd)
    (D_law_any : Df K mg "_law_any" s_law_any ["draws", "k"] f1 fd1) (G_law_any : FnOk P w K mg base CX0 2 f1 fd1 ["draws", "k"] (spAny K))
    (D_law_times : Df K mg "_law_times" s_law_times ["one", "two"] f2 fd2) (G_law_times : FnOk P w K mg base CX0 2 f2 fd2 ["one", "two"] (spTimes K))
    (D_gcd : Df K mg "gcd" s_gcd ["one", "two"] f3 fd3) (G_gcd : FnOk P w K mg base CX0 4 f3 fd3 ["one", "two"] (spGcd K))
    (D_law_is_list : Df K mg "_law_is_list" s_law_is_list ["told"] f4 fd4) (G_law_is_list : FnOk P w K mg base CX0 1 f4 fd4 ["told"] (spIsL K))
    (D_law_lowest : Df K mg "_law_lowest" s_law_lowest ["one"] f5 fd5) (G_law_lowest : FnOk P w K mg base CX0 2 f5 fd5 ["one"] (spLow K))
    (D_divided : Df K mg "divided" s_divided ["one", "two"] f6 fd6) (G_divided : FnOk P w K mg base CX0 1 f6 fd6 ["one", "two"] (spDiv K))
    (D_law_common : Df K mg "_law_common" s_law_common ["one", "two"] f7 fd7) (G_law_common : FnOk P w K mg base CX0 3 f7 fd7 ["one", "two"] (spCommon K))
    (D_law_mix : Df K mg "_law_mix" s_law_mix ["draws", "k", "many"] f8 fd8) (G_law_mix : FnOk P w K mg base CX0 1 f8 fd8 ["draws", "k", "many"] (spMix K))
    (D_law_divided : Df K mg "_law_divided" s_law_divided ["one", "two"] f9 fd9) (G_law_divided : FnOk P w K mg base CX0 2 f9 fd9 ["one", "two"] (spDiv K)) : FnOk P w K mg base CX0 5 f fd ["draws"] (spPT K) := by
  refine D.F.ok sc_law_others_told (fun vs H Q E h => ?_) (fun cdv A outer s H vs Q E hr h => ?_)
  · obtain ⟨a, ds, rfl, _⟩ := h
    rfl
  · obtain ⟨a, ds, rfl, hA, hd, q⟩ := h
    refine ⟨_, (pss_cons (ps_set (i := 1) sc_law_others_told.nd rfl (.inl rfl) (pe_call G_law_any (hr.mono (by decide)) (by rfl) D_law_any.g D_law_any.F.kp D_law_any.b .nil pass0 (pa_cons (pv 0) (pa_cons pe_int pa_nil))))
 (pss_cons (ps_set (i := 2) sc_law_others_told.nd rfl (.inl rfl) (pe_call G_law_times (hr.mono (by decide)) (by rfl) D_law_times.g D_law_times.F.kp D_law_times.b .nil pass0 (pa_cons (pv 1) (pa_cons (pe_call G_law_any (hr.mono (by decide)) (by rfl) D_law_any.g D_law_any.F.kp D_law_any.b .nil pass0 (pa_cons (pv 0) (pa_cons pe_int pa_nil))) pa_nil))))
 (pss_cons (ps_set (i := 3) sc_law_others_told.nd rfl (.inl rfl) (pe_call G_law_times (hr.mono (by decide)) (by rfl) D_law_times.g D_law_times.F.kp D_law_times.b .nil pass0 (pa_cons (pv 1) (pa_cons (pe_call G_law_any (hr.mono (by decide)) (by rfl) D_law_any.g D_law_any.F.kp D_law_any.b .nil pass0 (pa_cons (pv 0) (pa_cons pe_int pa_nil))) pa_nil))))
 (pss_cons (ps_set (i := 4) sc_law_others_told.nd rfl (.inl rfl) (pe_call G_gcd (hr.mono (by decide)) (by rfl) D_gcd.g D_gcd.F.kp D_gcd.b .nil pass0 (pa_cons (pv 2) (pa_cons (pv 3) pa_nil))))
 (pss_cons (ps_if (PW.pt (pw_and (pt_cmpR (op_eqDK (K := K) hr.units) (pv 2) (pe_lst pa_nil) (nomark _)) (pw_and1 (pt_cmpR (op_eqDK (K := K) hr.units) (pv 3) (pe_lst pa_nil) (nomark _)))))
  (pss_one (ps_ret (pe_cmpR (op_eqDK (K := K) hr.units) (pv 4) (pe_lst pa_nil) (nomark _))))
  pss_nil)
 (pss_cons (ps_if (PW.pt (pw_or (pt_not (pt_val (pe_call G_law_is_list (hr.mono (by decide)) (by rfl) D_law_is_list.g D_law_is_list.F.kp D_law_is_list.b .nil pass0 (pa_cons (pv 4) pa_nil)))) (pw_or (pt_cmpR (op_eqDK (K := K) hr.units) (pv 4) (pe_lst pa_nil) (nomark _)) (pw_or1 (pt_cmpR (op_neDK (K := K) hr.units) (pv 4) (pe_call G_law_lowest (hr.mono (by decide)) (by rfl) D_law_lowest.g D_law_lowest.F.kp D_law_lowest.b .nil pass0 (pa_cons (pv 4) pa_nil)) (nomark _))))))
  (pss_one (ps_ret pe_bl))
  pss_nil)
 (pss_cons (ps_set (i := 5) sc_law_others_told.nd rfl (.inl rfl) (pe_call G_divided (hr.mono (by decide)) (by rfl) D_divided.g D_divided.F.kp D_divided.b .nil pass0 (pa_cons (pv 2) (pa_cons (pv 4) pa_nil))))
 (pss_cons (ps_set (i := 6) sc_law_others_told.nd rfl (.inl rfl) (pe_call G_divided (hr.mono (by decide)) (by rfl) D_divided.g D_divided.F.kp D_divided.b .nil pass0 (pa_cons (pv 3) (pa_cons (pv 4) pa_nil))))
 (pss_cons (ps_if (PW.pt (pw_or (pt_cmpR op_isN (pv 5) pe_non (nomark _)) (pw_or (pt_cmpR op_isN (pv 6) pe_non (nomark _)) (pw_or (pt_cmpR (op_neDK (K := K) hr.units) (pe_call G_law_times (hr.mono (by decide)) (by rfl) D_law_times.g D_law_times.F.kp D_law_times.b .nil pass0 (pa_cons (pv 5) (pa_cons (pv 4) pa_nil))) (pv 2) (nomark _)) (pw_or1 (pt_cmpR (op_neDK (K := K) hr.units) (pe_call G_law_times (hr.mono (by decide)) (by rfl) D_law_times.g D_law_times.F.kp D_law_times.b .nil pass0 (pa_cons (pv 6) (pa_cons (pv 4) pa_nil))) (pv 3) (nomark _)))))))
  (pss_one (ps_ret pe_bl))
  pss_nil)
 (pss_cons (ps_if (pt_cmpR op_ne (pe_callB (call_lenK (K := K)) (by rfl) B.len_ (by decide +kernel) (pa_cons (pe_call G_law_common (hr.mono (by decide)) (by rfl) D_law_common.g D_law_common.F.kp D_law_common.b .nil pass0 (pa_cons (pv 5) (pa_cons (pv 6) pa_nil))) pa_nil)) pe_int (nomark _))
  (pss_one (ps_ret pe_bl))
  pss_nil)
 (pss_cons (ps_set (i := 7) sc_law_others_told.nd rfl (.inl rfl) (pe_lst (pa_cons (pe_op op_add pe_int (pe_call G_law_mix (hr.mono (by decide)) (by rfl) D_law_mix.g D_law_mix.F.kp D_law_mix.b .nil pass0 (pa_cons (pv 0) (pa_cons pe_int (pa_cons pe_int pa_nil))))) (pa_cons (pe_op op_add pe_int (pe_call G_law_mix (hr.mono (by decide)) (by rfl) D_law_mix.g D_law_mix.F.kp D_law_mix.b .nil pass0 (pa_cons (pv 0) (pa_cons pe_int (pa_cons pe_int pa_nil))))) pa_nil))))
 (pss_cons (ps_set (i := 7) sc_law_others_told.nd rfl (.inl rfl) (pe_call G_law_lowest (hr.mono (by decide)) (by rfl) D_law_lowest.g D_law_lowest.F.kp D_law_lowest.b .nil pass0 (pa_cons (pv 7) pa_nil)))
 (pss_one (ps_ret (pe_and (pe_cmpR (op_eqDK (K := K) hr.units) (pe_call G_divided (hr.mono (by decide)) (by rfl) D_divided.g D_divided.F.kp D_divided.b .nil pass0 (pa_cons (pv 2) (pa_cons (pv 7) pa_nil))) (pe_call G_law_divided (hr.mono (by decide)) (by rfl) D_law_divided.g D_law_divided.F.kp D_law_divided.b .nil pass0 (pa_cons (pv 2) (pa_cons (pv 7) pa_nil))) (nomark _)) (pe_one (pe_cmpR (op_eqDK (K := K) hr.units) (pe_call G_gcd (hr.mono (by decide)) (by rfl) D_gcd.g D_gcd.F.kp D_gcd.b .nil pass0 (pa_cons (pv 3) (pa_cons (pv 2) pa_nil))) (pv 4) (nomark _)))))))))))))))))), ?_⟩
    refine ⟨.ref a, rfl, a, ds, 40, rfl, hA, hd, by omega, fun S tS lS bS H1 pS s1 n1 h1 => ?_⟩
    refine ⟨.ref pS, rfl, .ref a, rfl, a, ds, 50, rfl, s1.seq hA, hd, by omega, fun A' tA lA bA H2 pA s2 n2 h2 => ?_⟩
    have mulS : ∀ X Y : Pl, (∀ x ∈ X, x.natAbs ≤ 1000000) → (∀ x ∈ Y, x.natAbs ≤ 1000000) → ∀ x ∈ X, ∀ y ∈ Y, Fm x y := fun X Y hX hY x hx y hy =>
      mulG (a := 30) (b := 30) (small6 (hX x hx)) (small6 (hY y hy)) (by decide) (by decide) (by decide)
    refine ⟨pS, pA, S, A', rfl, lst_of (s2 _ _ h1), lst_of h2, by omega, by omega, mulS _ _ bS bA, fun H3 p1 s3 m1 g1 => ?_⟩
    have w3 := (s1.trans s2).trans s3
    refine ⟨.ref pS, rfl, .ref a, rfl, a, ds, 60, rfl, w3.seq hA, hd, by omega, fun B' tB lB bB H4 pB s4 n4 h4 => ?_⟩
    refine ⟨pS, pB, S, B', rfl, lst_of (s4 _ _ (s3 _ _ (s2 _ _ h1))), lst_of h4, by omega, by omega, mulS _ _ bS bB, fun H5 p2 s5 m2 g2 => ?_⟩
    have F := M S A' B' tS tA tB lS lA lB bS bA bB
    have g1 := s5 _ _ (s4 _ _ g1)
    have w5 := (w3.trans s4).trans s5
    generalize hO : mulP S A' = one at *
    generalize hT : mulP S B' = two at *
    obtain ⟨g, n, m, run, rur, gz, gn⟩ := F.g
    refine ⟨.ref p1, rfl, .ref p2, rfl, p1, p2, one, two, g, n, rfl, lst_of g1, lst_of g2, F.p1, F.p2, run, fun H6 p3 s6 m3 g3 => ?_⟩
    have g1 := s6 _ _ g1
    have g2 := s6 _ _ g2
    have w6 := w5.trans s6
    clear s1 s2 s3 s4 s5 s6 w3 w5 n1 n2 n4 m1 m2 m3 h1 h2 h4
    -- if one == [] and two == []
    refine ⟨.ref p1, rfl, Nat.zero_le _, fun e0 he0 => ?_⟩
    have u0 := same_new (o := .lst []) he0
    have x1 := w6.trans u0
    have k1 := u0 _ _ g1
    have k2 := u0 _ _ g2
    have k3 := u0 _ _ g3
    refine ⟨dI one, dI [], dp_il (lst_of k1), dp_il (xs := []) (lst_of upd_same), sh_dI _, sh_dI _, _, rfl, ?_⟩
    rw [eqv_dI]
    revert x1 k1 k2 k3
    generalize upd H6 e0 (.lst []) = H7
    intro x1 k1 k2 k3
    clear u0 he0 w6 g1 g2 g3
    refine ite2 (fun ha => ?one) (fun ha => ?two)
    case' one =>
      have e1 : one = [] := of_decide_eq_true ha
      refine ⟨.ref p2, rfl, Nat.zero_le _, fun e0 he0 => ?_⟩
      have u0 := same_new (o := .lst []) he0
      have x1 := x1.trans u0
      have k1 := u0 _ _ k1
      have k2 := u0 _ _ k2
      have k3 := u0 _ _ k3
      refine ⟨dI two, dI [], dp_il (lst_of k2), dp_il (xs := []) (lst_of upd_same), sh_dI _, sh_dI _, _, rfl, ?_⟩
      rw [eqv_dI]
      revert x1 k1 k2 k3
      generalize upd H7 e0 (.lst []) = H7
      intro x1 k1 k2 k3
      refine ite2 (fun hb => ?fin) (fun hb => ?three)
    case fin =>
      have e2 : two = [] := of_decide_eq_true hb
      refine ⟨.ref p3, rfl, Nat.zero_le _, fun e0 he0 => ?_⟩
      have u0 := same_new (o := .lst []) he0
      refine ⟨dI g, dI [], dp_il (lst_of (u0 _ _ k3)), dp_il (xs := []) (lst_of upd_same), sh_dI _, sh_dI _, ?_⟩
      rw [eqv_dI, gz e1 e2, decide_eq_true rfl]
      exact q _ (x1.trans u0)
    case' three => have hz : ¬ (one = [] ∧ two = []) := fun z => hb (decide_eq_true z.2)
    case' two => have hz : ¬ (one = [] ∧ two = []) := fun z => ha (decide_eq_true z.1)
    all_goals
      obtain ⟨gne, gpr, glo, q1, q2, hh, dv1, dv2, l1, l2, fm1, fm2, e1, e2, lo1, lo2, lg, hl⟩ := gn hz
      have gp : primP g = g := gpr
      -- if not is_list(told) or told == [] or told != lowest(told)
      refine ⟨.ref p3, rfl, p3, g, rfl, k3, fun A1 s1 => ⟨true, rfl, ?_⟩⟩
      refine iteF ?_
      have x1 := x1.trans s1
      have k1 := s1 _ _ k1
      have k2 := s1 _ _ k2
      have k3 := s1 _ _ k3
      refine ⟨.ref p3, rfl, Nat.zero_le _, fun e0 he0 => ?_⟩
      have u0 := same_new (o := .lst []) he0
      have x1 := x1.trans u0
      have k1 := u0 _ _ k1
      have k2 := u0 _ _ k2
      have k3 := u0 _ _ k3
      refine ⟨dI g, dI [], dp_il (lst_of k3), dp_il (xs := []) (lst_of upd_same), sh_dI _, sh_dI _, _, rfl, ?_⟩
      rw [eqv_dI, decide_eq_false gne]
      refine iteF ?_
      refine ⟨.ref p3, rfl, .ref p3, rfl, p3, g, rfl, lst_of k3, glo.l, glo.s, glo.c, fun x hx => dvok_div (glo.d x hx), fun A2 r s2 nr hr' => ?_⟩
      have x1 := x1.trans s2
      have k1 := s2 _ _ k1
      have k2 := s2 _ _ k2
      have k3 := s2 _ _ k3
      rw [gp] at hr'
      refine ⟨dI g, dI g, dp_il (lst_of k3), dp_il (lst_of hr'), sh_dI _, sh_dI _, _, rfl, ?_⟩
      rw [eqv_dI, decide_eq_true rfl]
      refine iteF ?_
      -- first, second
      refine ⟨.ref p1, rfl, .ref p3, rfl, p1, p3, one, g, some q1, rfl, lst_of k1, lst_of k3, dv1, fun A3 pf s3 nf hf => ?_⟩
      have x1 := x1.trans s3
      have k1 := s3 _ _ k1
      have k2 := s3 _ _ k2
      have k3 := s3 _ _ k3
      refine ⟨.ref p2, rfl, .ref p3, rfl, p2, p3, two, g, some q2, rfl, lst_of k2, lst_of k3, dv2, fun A4 ps s4 ns hs => ?_⟩
      have x1 := x1.trans s4
      have k1 := s4 _ _ k1
      have k2 := s4 _ _ k2
      have k3 := s4 _ _ k3
      have hf := s4 _ _ hf
      have gl : g.length ≤ 1000 := glo.l
      refine ⟨.ref pf, rfl, rfl, _, rfl, ?_⟩
      refine iteF ?_
      refine ⟨.ref ps, rfl, rfl, _, rfl, ?_⟩
      refine iteF ?_
      refine ⟨.ref pf, rfl, .ref p3, rfl, pf, p3, q1, g, rfl, lst_of hf, lst_of k3, by omega, by omega, fm1, fun A5 r5 s5 n5 h5 => ?_⟩
      have x1 := x1.trans s5
      have k1 := s5 _ _ k1
      have k2 := s5 _ _ k2
      have k3 := s5 _ _ k3
      have hf := s5 _ _ hf
      have hs := s5 _ _ hs
      rw [e1] at h5
      refine ⟨.ref p1, rfl, dI one, dI one, dp_il (lst_of h5), dp_il (lst_of k1), sh_dI _, sh_dI _, _, rfl, ?_⟩
      rw [eqv_dI, decide_eq_true rfl]
      refine iteF ?_
      refine ⟨.ref ps, rfl, .ref p3, rfl, ps, p3, q2, g, rfl, lst_of hs, lst_of k3, by omega, by omega, fm2, fun A6 r6 s6 n6 h6 => ?_⟩
      have x1 := x1.trans s6
      have k1 := s6 _ _ k1
      have k2 := s6 _ _ k2
      have k3 := s6 _ _ k3
      have hf := s6 _ _ hf
      have hs := s6 _ _ hs
      rw [e2] at h6
      refine ⟨.ref p2, rfl, dI two, dI two, dp_il (lst_of h6), dp_il (lst_of k2), sh_dI _, sh_dI _, _, rfl, ?_⟩
      rw [eqv_dI, decide_eq_true rfl]
      refine iteF ?_
      -- len(common(first, second)) != 1
      refine ⟨.ref pf, rfl, .ref ps, rfl, pf, ps, q1, q2, hh, rfl, lst_of hf, lst_of hs, lo1, lo2, lg, fun A7 r7 s7 n7 h7 => ?_⟩
      have x1 := x1.trans s7
      have k1 := s7 _ _ k1
      have k2 := s7 _ _ k2
      have k3 := s7 _ _ k3
      refine ⟨r7, _, rfl, .inl (lst_of h7), rfl, _, rfl, ?_⟩
      rw [il_len, hl]
      refine iteF ?_
      -- part
      refine ⟨.ref a, rfl, a, ds, 70, 5, rfl, x1.seq hA, hd, by omega, by omega, by omega, fun u A8 u0' u1' s8 => ?_⟩
      have x1 := x1.trans s8
      have k1 := s8 _ _ k1
      have k2 := s8 _ _ k2
      have k3 := s8 _ _ k3
      refine ⟨_, _, rfl, rfl, .ref a, rfl, a, ds, 71, 3, rfl, x1.seq hA, hd, by omega, by omega, by omega, fun v A9 v0' v1' s9 => ?_⟩
      have x1 := x1.trans s9
      have k1 := s9 _ _ k1
      have k2 := s9 _ _ k2
      have k3 := s9 _ _ k3
      refine ⟨_, _, rfl, rfl, sz_small (by show 2 ≤ 100000; decide), fun L hL => ?_⟩
      have uL := same_new (o := .lst [.int (1 + u), .int (1 + v)]) hL
      obtain ⟨plo, o, pdv⟩ := F.dv (1 + u) (1 + v) (by omega) (by omega) (by omega) (by omega)
      refine ⟨.ref L, rfl, L, [1 + u, 1 + v], rfl, lst_of upd_same, plo.l, plo.s, plo.c, fun x hx => dvok_div (plo.d x hx), fun B1 pp t1 np hp => ?_⟩
      have x1 := (x1.trans uL).trans t1
      have k1 := t1 _ _ (uL _ _ k1)
      have k2 := t1 _ _ (uL _ _ k2)
      have k3 := t1 _ _ (uL _ _ k3)
      -- divided(one, part) == law_divided(one, part) and gcd(two, one) == told
      have last : ∀ B3 : Hp, Same B1 B3 → (∃ c : Bool, V.bl true = .bl c ∧ if c = true then (tCall (spGcd K) [] E0 (tCons (tVar 3) (tCons (tVar 2) tNil))) [some (.ref a), some (.ref pS), some (.ref p1), some (.ref p2), some (.ref p3), some (.ref pf), some (.ref ps), some (.ref pp)] B3 (fun x H1 => tVar 4 [some (.ref a), some (.ref pS), some (.ref p1), some (.ref p2), some (.ref p3), some (.ref pf), some (.ref ps), some (.ref pp)] H1 fun y H2 => rEqD K x y H2 Q) else Q (.bl false) B3) := by
        intro B3 t3
        refine ⟨true, rfl, ?_⟩
        refine iteT ?_
        refine ⟨.ref p2, rfl, .ref p1, rfl, p2, p1, two, one, g, m, rfl, lst_of (t3 _ _ k2), lst_of (t3 _ _ k1), F.p2, F.p1, rur, fun B4 r4 t4 n4 h4 => ?_⟩
        refine ⟨.ref p3, rfl, dI g, dI g, dp_il (lst_of h4), dp_il (lst_of (t4 _ _ (t3 _ _ k3))), sh_dI _, sh_dI _, ?_⟩
        rw [eqv_dI, decide_eq_true rfl]
        exact q _ ((x1.trans t3).trans t4)
      refine ⟨.ref p1, rfl, .ref pp, rfl, p1, pp, one, _, o, rfl, lst_of k1, lst_of hp, pdv, ?_⟩
      cases o with
      | none =>
        intro B2 t2
        refine ⟨.ref p1, rfl, .ref pp, rfl, p1, pp, one, _, none, rfl, lst_of (t2 _ _ k1), lst_of (t2 _ _ hp), pdv, fun B3 t3 => ?_⟩
        refine ⟨.none, .none, .non, .non, by decide, by decide, ?_⟩
        exact last B3 (t2.trans t3)
      | some z =>
        intro B2 r2 t2 n2 h2
        refine ⟨.ref p1, rfl, .ref pp, rfl, p1, pp, one, _, some z, rfl, lst_of (t2 _ _ k1), lst_of (t2 _ _ hp), pdv, fun B3 r3 t3 n3 h3 => ?_⟩
        refine ⟨dI z, dI z, dp_il (lst_of (t3 _ _ h2)), dp_il (lst_of h3), sh_dI _, sh_dI _, ?_⟩
        rw [eqv_dI, decide_eq_true rfl]
        exact last B3 (t2.trans t3)
end
end K78

set_option Elab.async false
set_option linter.all false
set_option maxRecDepth 100000
set_option maxHeartbeats 8000000
namespace K78
open PySem PySem.Spec PyProof.Rows L2 PA
section
variable {P : Program} {w : World} {K : PySem.W.Frag} {mg : Str → Option Value} {base : Heap}
def spLaw (K : PySem.W.Frag) : Sp := fun vs H Q E => ∃ (a : Addr) (ns : List Int), vs = [.ref a] ∧ SqL K H a (IL ns) ∧ ns.length ≤ 63 ∧ ∀ H', Q (.bl true) H'
theorem divs_nil : Divs [] [1, 1] (some []) := .yes [] [] ⟨by decide, Nat.lt_of_lt_of_le (show (lastP [1, 1]).natAbs < 2 ^ 2 by decide) (Nat.pow_le_pow_right (by decide) (by decide))⟩ (by decide) (by decide) (.done _ _) (by decide)
theorem ok_law {f f1 f2 f3 f4 f5 f6 : Addr} {fd fd1 fd2 fd3 fd4 fd5 fd6 : FuncData} (B : Bl mg) (D : Df K mg "law" s_law ["script"] f fd)
    (D_law_draws : Df K mg "_law_draws" s_law_draws ["script"] f1 fd1) (G_law_draws : FnOk P w K mg base CX0 1 f1 fd1 ["script"] (spDraws K))
    (D_primitive : Df K mg "primitive" s_primitive ["one"] f2 fd2) (G_primitive : FnOk P w K mg base CX0 2 f2 fd2 ["one"] (spPrim K))
    (D_gcd : Df K mg "gcd" s_gcd ["one", "two"] f3 fd3) (G_gcd : FnOk P w K mg base CX0 4 f3 fd3 ["one", "two"] (spGcd K))
    (D_divided : Df K mg "divided" s_divided ["one", "two"] f4 fd4) (G_divided : FnOk P w K mg base CX0 1 f4 fd4 ["one", "two"] (spDiv K))
    (D_law_powers_told : Df K mg "_law_powers_told" s_law_powers_told ["draws"] f5 fd5) (G_law_powers_told : FnG P w K mg base 6 f5 fd5 ["draws"] (spPT K))
    (D_law_others_told : Df K mg "_law_others_told" s_law_others_told ["draws"] f6 fd6) (G_law_others_told : FnOk P w K mg base CX0 5 f6 fd6 ["draws"] (spPT K)) : FnG P w K mg base 7 f fd ["script"] (spLaw K) := by
  refine fnG_ok D.F sc_law (fun vs H Q E h => ?_) (fun cdv A outer s H vs Q E hr hgd h => ?_)
  · obtain ⟨a, ns, rfl, _⟩ := h
    rfl
  · obtain ⟨a, ns, rfl, hA, ln, q⟩ := h
    refine ⟨_, (pss_cons (ps_set (i := 1) sc_law.nd rfl (.inl rfl) (pe_call G_law_draws (hr.mono (by decide)) (by rfl) D_law_draws.g D_law_draws.F.kp D_law_draws.b .nil pass0 (pa_cons (pv 0) pa_nil)))
 (pss_cons (ps_if (PW.pt (pw_or (pt_cmpR (op_neDK (K := K) hr.units) (pe_call G_primitive (hr.mono (by decide)) (by rfl) D_primitive.g D_primitive.F.kp D_primitive.b .nil pass0 (pa_cons (pe_lst pa_nil) pa_nil)) (pe_lst pa_nil) (nomark _)) (pw_or (pt_cmpR (op_neDK (K := K) hr.units) (pe_call G_gcd (hr.mono (by decide)) (by rfl) D_gcd.g D_gcd.F.kp D_gcd.b .nil pass0 (pa_cons (pe_lst pa_nil) (pa_cons (pe_lst pa_nil) pa_nil))) (pe_lst pa_nil) (nomark _)) (pw_or1 (pt_cmpR (op_neDK (K := K) hr.units) (pe_call G_divided (hr.mono (by decide)) (by rfl) D_divided.g D_divided.F.kp D_divided.b .nil pass0 (pa_cons (pe_lst pa_nil) (pa_cons (pe_lst (pa_cons pe_int (pa_cons pe_int pa_nil))) pa_nil))) (pe_lst pa_nil) (nomark _))))))
  (pss_one (ps_ret pe_bl))
  pss_nil)
 (pss_one (ps_ret (pe_and (pe_callG G_law_powers_told (hr.mono (by decide)) hgd (by rfl) D_law_powers_told.g D_law_powers_told.F.kp D_law_powers_told.b (pa_cons (pv 1) pa_nil)) (pe_one (pe_call G_law_others_told (hr.mono (by decide)) (by rfl) D_law_others_told.g D_law_others_told.F.kp D_law_others_told.b .nil pass0 (pa_cons (pv 1) pa_nil)))))))), ?_⟩
    refine ⟨.ref a, rfl, a, ns, rfl, hA, ln, fun ds hd H1 p s1 n1 h1 => ?_⟩
    -- primitive([]) != []
    refine ⟨Nat.zero_le _, fun e0 he0 => ?_⟩
    have u0 := same_new (o := .lst []) he0
    refine ⟨e0, [], rfl, lst_of upd_same, primfits_nil, fun H2 r2 s2 n2 h2 => ?_⟩
    refine ⟨Nat.zero_le _, fun e1 he1 => ?_⟩
    have u1 := same_new (o := .lst []) he1
    refine ⟨dI (primP []), dI [], dp_il (lst_of (u1 _ _ h2)), dp_il (xs := []) (lst_of upd_same), sh_dI _, sh_dI _, _, rfl, ?_⟩
    rw [eqv_dI, decide_eq_true (show primP [] = [] from rfl)]
    refine iteF ?_
    have x1 := ((s1.trans u0).trans s2).trans u1
    have k1 := u1 _ _ (s2 _ _ (u0 _ _ h1))
    -- gcd([], []) != []
    refine ⟨Nat.zero_le _, fun e2 he2 => ?_⟩
    have u2 := same_new (o := .lst []) he2
    refine ⟨Nat.zero_le _, fun e3 he3 => ?_⟩
    have u3 := same_new (o := .lst []) he3
    refine ⟨e2, e3, [], [], [], 0, rfl, lst_of (u3 _ _ upd_same), lst_of upd_same, primfits_nil, primfits_nil, .stop _, fun H3 r3 s3 n3 h3 => ?_⟩
    refine ⟨Nat.zero_le _, fun e4 he4 => ?_⟩
    have u4 := same_new (o := .lst []) he4
    refine ⟨dI [], dI [], dp_il (xs := []) (lst_of (u4 _ _ h3)), dp_il (xs := []) (lst_of upd_same), sh_dI _, sh_dI _, _, rfl, ?_⟩
    rw [eqv_dI, decide_eq_true rfl]
    refine iteF ?_
    have x2 := (((x1.trans u2).trans u3).trans s3).trans u4
    have k2 := u4 _ _ (s3 _ _ (u3 _ _ (u2 _ _ k1)))
    -- divided([], [1, 1]) != []
    refine ⟨Nat.zero_le _, fun e5 he5 => ?_⟩
    have u5 := same_new (o := .lst []) he5
    refine ⟨sz_small (by show 2 ≤ 100000; decide), fun e6 he6 => ?_⟩
    have u6 := same_new (o := .lst [.int 1, .int 1]) he6
    refine ⟨e5, e6, [], [1, 1], some [], rfl, lst_of (u6 _ _ upd_same), lst_of upd_same, divs_nil, fun H4 r4 s4 n4 h4 => ?_⟩
    refine ⟨Nat.zero_le _, fun e7 he7 => ?_⟩
    have u7 := same_new (o := .lst []) he7
    refine ⟨dI [], dI [], dp_il (xs := []) (lst_of (u7 _ _ h4)), dp_il (xs := []) (lst_of upd_same), sh_dI _, sh_dI _, _, rfl, ?_⟩
    rw [eqv_dI, decide_eq_true rfl]
    refine iteF ?_
    have k3 := u7 _ _ (s4 _ _ (u6 _ _ (u5 _ _ k2)))
    refine ⟨.ref p, rfl, p, ds, rfl, lst_of k3, hd, fun H5 s5 => ⟨true, rfl, ?_⟩⟩
    refine iteT ?_
    exact ⟨.ref p, rfl, p, ds, rfl, lst_of (s5 _ _ k3), hd, fun H6 s6 => q H6⟩
end
end K78

set_option linter.all false
/-! Values of polynomials, lengths of products, contents, primitive parts, Gauss. Core Lean alone. -/
namespace PA
def ev : Pl → Int → Int
  | [], _ => 0
  | a :: p, x => a + x * ev p x
theorem ev_addL : ∀ (p q : Pl) (x : Int), ev (addL p q) x = ev p x + ev q x
  | [], q, x => by simp [addL, ev]
  | a :: p, [], x => by simp [addL, ev]
  | a :: p, b :: q, x => by
    have := ev_addL p q x
    simp only [addL, ev, this]
    grind
theorem ev_smul (n : Int) : ∀ (p : Pl) (x : Int), ev (p.map (n * ·)) x = n * ev p x
  | [], x => by simp [ev]
  | a :: p, x => by
    have := ev_smul n p x
    simp only [List.map_cons, ev, this]
    grind
theorem ev_trim : ∀ (p : Pl) (x : Int), ev (trim p) x = ev p x
  | [], x => rfl
  | a :: p, x => by
    have ih := ev_trim p x
    unfold trim
    split
    · rename_i h
      rw [h.1] at ih
      simp only [ev] at ih ⊢
      rw [← ih, h.2]
      simp
    · simp only [ev, ih]
theorem ev_mulL : ∀ (p q : Pl) (x : Int), ev (mulL p q) x = ev p x * ev q x
  | [], q, x => by simp [mulL, ev]
  | a :: p, q, x => by
    have := ev_mulL p q x
    simp only [mulL, ev_addL, ev_smul, ev, this]
    grind
theorem ev_mulP (p q : Pl) (x : Int) : ev (mulP p q) x = ev p x * ev q x := by
  rw [mulP, ev_trim, ev_mulL]
theorem ev_plusP (p q : Pl) (x : Int) : ev (plusP p q) x = ev p x + ev q x := by
  rw [plusP, ev_trim, ev_addL]
theorem ev_scaleP (p : Pl) (n x : Int) : ev (scaleP p n) x = n * ev p x := by
  unfold scaleP
  split
  · rename_i h
    simp [ev, h]
  · exact ev_smul n p x
theorem ev_zeros (p : Pl) (x : Int) : ∀ k : Nat, ev (List.replicate k 0 ++ p) x = x ^ k * ev p x
  | 0 => by simp
  | k + 1 => by
    have := ev_zeros p x k
    simp only [List.replicate_succ, List.cons_append, ev, this, Int.pow_succ]
    grind
theorem ev_raiseP (p : Pl) (k : Nat) (x : Int) : ev (raiseP p k) x = x ^ k * ev p x := by
  unfold raiseP
  split
  · rename_i h
    simp [ev, h]
  · exact ev_zeros p x k
theorem ev_stepRaw (left two : Pl) (x : Int) : ev (stepRaw left two) x = lastP two * ev left x - lastP left * x ^ (left.length - two.length) * ev two x := by
  unfold stepRaw
  rw [ev_plusP, ev_scaleP, ev_raiseP, ev_scaleP]
  grind
/-! ### values tell the numbers -/
theorem small_dvd {a x y : Int} (h : a + x * y = 0) (hx : a.natAbs < x.natAbs) : a = 0 := by
  by_cases hy : y = 0
  · subst hy
    simpa using h
  · exfalso
    have e : a = -(x * y) := by omega
    have h1 : a.natAbs = x.natAbs * y.natAbs := by rw [e, Int.natAbs_neg, Int.natAbs_mul]
    have h2 : 1 ≤ y.natAbs := by omega
    have := Nat.mul_le_mul_left x.natAbs h2
    omega
theorem ev_zero_coeffs : ∀ (p : Pl) (N : Int), (∀ x, N ≤ x → ev p x = 0) → ∀ t, p.getD t 0 = 0
  | [], _, _, t => rfl
  | a :: p, N, h, t => by
    have ha : a = 0 := by
      have h1 := h (N.natAbs + a.natAbs + 1 : Int) (by omega)
      exact small_dvd h1 (by omega)
    subst ha
    have hp : ∀ x, (N.natAbs + 1 : Int) ≤ x → ev p x = 0 := fun x hx => by
      have h1 := h x (by omega)
      simp only [ev, Int.zero_add] at h1
      rcases Int.mul_eq_zero.mp h1 with h2 | h2
      · omega
      · exact h2
    cases t with
    | zero => rfl
    | succ t => simpa using ev_zero_coeffs p _ hp t
theorem coeff_ext {p q : Pl} (N : Int) (h : ∀ x, N ≤ x → ev p x = ev q x) (t : Nat) : p.getD t 0 = q.getD t 0 := by
  have := ev_zero_coeffs (addL p (q.map (-1 * ·))) N (fun x hx => by rw [ev_addL, ev_smul, h x hx]; omega) t
  rw [addL_get, getD_map_mul] at this
  omega
def Tr (p : Pl) : Prop := trim p = p
theorem ev_ext {p q : Pl} (hp : Tr p) (hq : Tr q) (N : Int) (h : ∀ x, N ≤ x → ev p x = ev q x) : p = q := by
  have := trim_ext (coeff_ext N h)
  rwa [hp, hq] at this
theorem ev_eq {p q : Pl} (hp : Tr p) (hq : Tr q) (h : ∀ x, ev p x = ev q x) : p = q := ev_ext hp hq 0 fun x _ => h x
theorem tr_trim (p : Pl) : Tr (trim p) := trim_trim p
theorem tr_nil : Tr [] := rfl
theorem tr_mulP (p q : Pl) : Tr (mulP p q) := tr_trim _
theorem tr_stepRaw (p q : Pl) : Tr (stepRaw p q) := tr_trim _
theorem tr_of_last {p : Pl} (h : p = [] ∨ lastP p ≠ 0) : Tr p := by
  rcases h with h | h
  · subst h
    rfl
  · have := trim_of p p.length (Nat.le_refl _) (fun j h1 h2 => absurd h2 (by omega)) (.inr h)
    rwa [List.take_length] at this
theorem last_ne {p : Pl} (h : Tr p) (ne : p ≠ []) : lastP p ≠ 0 := by
  intro z
  have hl : 0 < p.length := List.length_pos_iff.mpr ne
  obtain ⟨a, ha⟩ : ∃ k, p.length = k + 1 := ⟨p.length - 1, by omega⟩
  have key : ∀ (p : Pl) (k : Nat), p.length = k + 1 → p.getD k 0 = 0 → (trim p).length ≤ k := by
    intro p
    induction p with
    | nil => intro k h; simp at h
    | cons a r ih =>
      intro k h1 h2
      cases k with
      | zero =>
        have hr : r = [] := by simpa using h1
        subst hr
        have : a = 0 := by simpa using h2
        simp [trim, this]
      | succ k =>
        have := ih k (by simpa using h1) (by simpa using h2)
        unfold trim
        split
        · simp
        · simp; omega
  have := key p a ha (by unfold lastP at z; rwa [ha] at z)
  rw [h] at this
  omega
theorem len_le {p : Pl} (h : Tr p) (n : Nat) (hz : ∀ t, n ≤ t → p.getD t 0 = 0) : p.length ≤ n := by
  by_cases ne : p = []
  · subst ne
    exact Nat.zero_le _
  · by_cases hn : p.length ≤ n
    · exact hn
    · exact absurd (hz (p.length - 1) (by omega)) (last_ne h ne)
theorem far {p : Pl} {t : Nat} (h : p.length ≤ t) : p.getD t 0 = 0 := by
  rw [List.getD_eq_getElem?_getD, List.getElem?_eq_none h]
  rfl
/-! ### products -/
theorem mulL_far : ∀ (p q : Pl) (t : Nat), p.length + q.length ≤ t + 1 → (mulL p q).getD t 0 = 0
  | [], q, t, _ => rfl
  | a :: p, q, t, h => by
    simp only [List.length_cons] at h
    simp only [mulL, addL_get, getD_map_mul]
    rw [far (by omega)]
    cases t with
    | zero => simp
    | succ t =>
      have := mulL_far p q t (by omega)
      have e : (0 :: mulL p q).getD (t + 1) 0 = (mulL p q).getD t 0 := by simp
      rw [e, this]
      simp
theorem mulL_top : ∀ (p q : Pl), p ≠ [] → q ≠ [] → (mulL p q).getD (p.length + q.length - 2) 0 = lastP p * lastP q
  | [], q, h, _ => absurd rfl h
  | [a], q, _, hq => by
    have hl : 0 < q.length := List.length_pos_iff.mpr hq
    simp only [mulL, addL_get, getD_map_mul, List.length_cons, List.length_nil, lastP]
    rw [show 0 + 1 + q.length - 2 = q.length - 1 by omega]
    have : ([0] : Pl).getD (q.length - 1) 0 = 0 := by
      cases q.length - 1 <;> rfl
    rw [this]
    simp
  | a :: b :: p, q, _, hq => by
    have ih := mulL_top (b :: p) q (by simp) hq
    have hl : 0 < q.length := List.length_pos_iff.mpr hq
    have e1 : lastP (a :: b :: p) = lastP (b :: p) := by
      simp [lastP]
    rw [e1, ← ih]
    have e2 : (a :: b :: p).length + q.length - 2 = ((b :: p).length + q.length - 2) + 1 := by
      simp only [List.length_cons]
      omega
    rw [e2]
    show (addL (q.map (a * ·)) (0 :: mulL (b :: p) q)).getD _ 0 = _
    rw [addL_get, getD_map_mul, far (by simp only [List.length_cons]; omega)]
    simp
theorem mulP_nil (p : Pl) : mulP p [] = [] := ev_eq (tr_mulP _ _) tr_nil fun x => by rw [ev_mulP]; simp [ev]
theorem nil_mulP (p : Pl) : mulP [] p = [] := rfl
theorem mulP_ne {p q : Pl} (hp : Tr p) (hq : Tr q) (np : p ≠ []) (nq : q ≠ []) : mulP p q ≠ [] := by
  intro h
  have h1 := mulL_top p q np nq
  have h2 : (mulL p q).getD (p.length + q.length - 2) 0 = 0 := by
    rw [← trim_get]
    show (mulP p q).getD _ 0 = 0
    rw [h]
    rfl
  rw [h2] at h1
  rcases Int.mul_eq_zero.mp h1.symm with h | h
  · exact last_ne hp np h
  · exact last_ne hq nq h
theorem mulP_len {p q : Pl} (hp : Tr p) (hq : Tr q) (np : p ≠ []) (nq : q ≠ []) : (mulP p q).length + 1 = p.length + q.length := by
  have h1 : 0 < p.length := List.length_pos_iff.mpr np
  have h2 : 0 < q.length := List.length_pos_iff.mpr nq
  have le : (mulP p q).length ≤ p.length + q.length - 1 := len_le (tr_mulP _ _) _ fun t ht => by
    show (trim (mulL p q)).getD t 0 = 0
    rw [trim_get]
    exact mulL_far p q t (by omega)
  have ge : p.length + q.length - 2 < (mulP p q).length := by
    by_cases h : p.length + q.length - 2 < (mulP p q).length
    · exact h
    · exfalso
      have h3 := mulL_top p q np nq
      have h4 : (mulL p q).getD (p.length + q.length - 2) 0 = 0 := by
        rw [← trim_get]
        exact far (by show (mulP p q).length ≤ _; omega)
      rw [h4] at h3
      rcases Int.mul_eq_zero.mp h3.symm with h | h
      · exact last_ne hp np h
      · exact last_ne hq nq h
  omega
theorem mulP_last {p q : Pl} (hp : Tr p) (hq : Tr q) (np : p ≠ []) (nq : q ≠ []) : lastP (mulP p q) = lastP p * lastP q := by
  have h := mulP_len hp hq np nq
  rw [← mulL_top p q np nq]
  show (trim (mulL p q)).getD ((mulP p q).length - 1) 0 = _
  rw [trim_get, show (mulP p q).length - 1 = p.length + q.length - 2 by omega]
theorem mulP_comm (p q : Pl) : mulP p q = mulP q p := ev_eq (tr_mulP _ _) (tr_mulP _ _) fun x => by rw [ev_mulP, ev_mulP, Int.mul_comm]
theorem mulP_assoc (p q r : Pl) : mulP (mulP p q) r = mulP p (mulP q r) := ev_eq (tr_mulP _ _) (tr_mulP _ _) fun x => by
  simp only [ev_mulP]
  grind
/-- what is not nought is not 0 from some place on -/
theorem ev_ne {p : Pl} (hp : Tr p) (np : p ≠ []) : ∀ N : Int, ∃ x, N ≤ x ∧ ev p x ≠ 0 := by
  intro N
  by_cases h : ∃ x, N ≤ x ∧ ev p x ≠ 0
  · exact h
  · exfalso
    apply np
    refine ev_ext hp tr_nil N fun x hx => ?_
    by_cases hz : ev p x = 0
    · rw [hz]; rfl
    · exact absurd ⟨x, hx, hz⟩ h
/-- cancelling -/
theorem ev_cancel {h : Pl} (hh : Tr h) (nh : h ≠ []) {p q : Pl} (e : ∀ x, ev h x * ev p x = ev h x * ev q x) (x : Int) : ev p x = ev q x := by
  -- the difference times h is nought
  have hd : ∀ x, ev h x * ev (trim (addL p (q.map (-1 * ·)))) x = 0 := fun x => by
    rw [ev_trim, ev_addL, ev_smul]
    have := e x
    grind
  by_cases nd : trim (addL p (q.map (-1 * ·))) = []
  · have := ev_trim (addL p (q.map (-1 * ·))) x
    rw [nd, ev_addL, ev_smul] at this
    simp only [ev] at this
    omega
  · exfalso
    apply mulP_ne hh (tr_trim _) nh nd
    exact ev_eq (tr_mulP _ _) tr_nil fun x => by rw [ev_mulP, hd]; rfl
theorem smul_tr {p : Pl} (hp : Tr p) {c : Int} (hc : c ≠ 0) : Tr (p.map (c * ·)) := by
  by_cases np : p = []
  · subst np
    rfl
  · refine tr_of_last (.inr ?_)
    have : lastP (p.map (c * ·)) = c * lastP p := by
      unfold lastP
      rw [getD_map_mul, List.length_map]
    rw [this]
    intro z
    rcases Int.mul_eq_zero.mp z with z | z
    · exact hc z
    · exact last_ne hp np z
theorem smul_last (p : Pl) (c : Int) : lastP (p.map (c * ·)) = c * lastP p := by
  unfold lastP
  rw [getD_map_mul, List.length_map]
end PA

set_option linter.all false
/-! Contents, primitive parts, Gauss, divisibility. -/
namespace PA
/-! ### the content -/
def gf (c : Int) (p : Pl) : Int := p.foldl (fun c n => ((Int.gcd c n : Nat) : Int)) c
theorem gf_dvd : ∀ (p : Pl) (c : Int), gf c p ∣ c ∧ ∀ x ∈ p, gf c p ∣ x
  | [], c => ⟨Int.dvd_refl c, fun _ h => nomatch h⟩
  | a :: p, c => by
    obtain ⟨h1, h2⟩ := gf_dvd p ((Int.gcd c a : Nat) : Int)
    have e : gf c (a :: p) = gf ((Int.gcd c a : Nat) : Int) p := rfl
    rw [e]
    refine ⟨Int.dvd_trans h1 (Int.gcd_dvd_left ..), fun x hx => ?_⟩
    rcases List.mem_cons.mp hx with h | h
    · subst h
      exact Int.dvd_trans h1 (Int.gcd_dvd_right ..)
    · exact h2 x h
theorem dvd_gf : ∀ (p : Pl) (c d : Int), d ∣ c → (∀ x ∈ p, d ∣ x) → d ∣ gf c p
  | [], c, d, h, _ => h
  | a :: p, c, d, h, hp => dvd_gf p _ d (Int.dvd_coe_gcd h (hp a (List.mem_cons_self ..))) fun x hx => hp x (List.mem_cons_of_mem _ hx)
theorem cont_dvd {p : Pl} {x : Int} (h : x ∈ p) : contP p ∣ x := (gf_dvd p 0).2 x h
theorem dvd_cont {p : Pl} {d : Int} (h : ∀ x ∈ p, d ∣ x) : d ∣ contP p := dvd_gf p 0 d (Int.dvd_zero d) h
theorem cont_nn (p : Pl) : 0 ≤ contP p := by
  have : ∀ (p : Pl) (c : Int), 0 ≤ c → 0 ≤ gf c p := by
    intro p
    induction p with
    | nil => exact fun c h => h
    | cons x r ih => exact fun c _ => ih _ (Int.natCast_nonneg _)
  exact this p 0 (Int.le_refl _)
theorem mem_getD {p : Pl} {x : Int} (h : x ∈ p) : ∃ t, t < p.length ∧ p.getD t 0 = x := by
  obtain ⟨t, ht, e⟩ := List.getElem_of_mem h
  exact ⟨t, ht, by rw [List.getD_eq_getElem?_getD, List.getElem?_eq_getElem ht, e]; rfl⟩
theorem getD_mem' {p : Pl} {t : Nat} (h : t < p.length) : p.getD t 0 ∈ p := by
  rw [List.getD_eq_getElem?_getD, List.getElem?_eq_getElem h]
  exact List.getElem_mem h
theorem cont_dvd_getD (p : Pl) (t : Nat) : contP p ∣ p.getD t 0 := by
  by_cases h : t < p.length
  · exact cont_dvd (getD_mem' h)
  · rw [far (by omega)]
    exact Int.dvd_zero _
theorem dvd_cont_getD {p : Pl} {d : Int} (h : ∀ t, d ∣ p.getD t 0) : d ∣ contP p := dvd_cont fun x hx => by
  obtain ⟨t, _, e⟩ := mem_getD hx
  rw [← e]
  exact h t
theorem dvd_anti {a b : Int} (ha : 0 ≤ a) (hb : 0 ≤ b) (h1 : a ∣ b) (h2 : b ∣ a) : a = b := Int.dvd_antisymm ha hb h1 h2
theorem cont_ne {p : Pl} (hp : Tr p) (np : p ≠ []) : contP p ≠ 0 := fun z => by
  have := cont_dvd_getD p (p.length - 1)
  rw [z] at this
  exact last_ne hp np (Int.zero_dvd.mp this)
theorem cont_smul (b : Int) (p : Pl) : contP (p.map (b * ·)) = (b.natAbs : Int) * contP p := by
  have key : ∀ (p : Pl) (c : Int), gf ((b.natAbs : Int) * c) (p.map (b * ·)) = (b.natAbs : Int) * gf c p := by
    intro p
    induction p with
    | nil => exact fun c => rfl
    | cons a r ih =>
      intro c
      show gf ((Int.gcd ((b.natAbs : Int) * c) (b * a) : Nat) : Int) (r.map (b * ·)) = (b.natAbs : Int) * gf ((Int.gcd c a : Nat) : Int) r
      rw [← ih]
      congr 1
      unfold Int.gcd
      rw [Int.natAbs_mul, Int.natAbs_mul, Int.natAbs_natCast, Nat.gcd_mul_left]
      simp
  have := key p 0
  rw [Int.mul_zero] at this
  exact this
/-! ### primitive polynomials -/
structure Prm (p : Pl) : Prop where
  tr : Tr p
  ne : p ≠ []
  c : contP p = 1
  l : 0 < lastP p
theorem sgc_ne {p : Pl} (hp : Tr p) (np : p ≠ []) : sgc p ≠ 0 := by
  have := cont_ne hp np
  unfold sgc
  split <;> omega
theorem sgc_abs (p : Pl) : (sgc p).natAbs = (contP p).natAbs := by
  unfold sgc
  split <;> omega
theorem sgc_dvd (p : Pl) (t : Nat) : sgc p ∣ p.getD t 0 := by
  unfold sgc
  split
  · exact Int.neg_dvd.mpr (cont_dvd_getD p t)
  · exact cont_dvd_getD p t
theorem prim_eq {p : Pl} (hp : Tr p) (np : p ≠ []) : p = (primP p).map (sgc p * ·) := by
  have hc := cont_ne hp np
  have hs := sgc_ne hp np
  have e : primP p = p.map (fun n => n.fdiv (sgc p)) := by
    unfold primP
    rw [if_neg hc]
  rw [e, List.map_map]
  refine ext_getD (by rw [List.length_map]) fun t => ?_
  by_cases ht : t < p.length
  · rw [List.getD_eq_getElem?_getD, List.getD_eq_getElem?_getD, List.getElem?_map, List.getElem?_eq_getElem ht]
    show p[t] = sgc p * (p[t]).fdiv (sgc p)
    have := sgc_dvd p t
    rw [List.getD_eq_getElem?_getD, List.getElem?_eq_getElem ht] at this
    exact (Int.mul_fdiv_cancel' this).symm
  · rw [far (by omega), far (by rw [List.length_map]; omega)]
theorem prim_prm {p : Pl} (hp : Tr p) (np : p ≠ []) : Prm (primP p) := by
  have hs := sgc_ne hp np
  have e := prim_eq hp np
  have ne : primP p ≠ [] := fun z => by
    rw [z] at e
    exact np e
  have el : lastP p = sgc p * lastP (primP p) := by
    have := smul_last (primP p) (sgc p)
    rw [← e] at this
    exact this
  have lz := last_ne hp np
  have tr : Tr (primP p) := tr_of_last (.inr fun z => lz (by rw [el, z, Int.mul_zero]))
  have ec := cont_smul (sgc p) (primP p)
  rw [← e] at ec
  have hc := cont_ne hp np
  have hn := cont_nn p
  have c1 : contP (primP p) = 1 := by
    have h1 : ((sgc p).natAbs : Int) = contP p := by
      rw [sgc_abs]
      omega
    rw [h1] at ec
    have h2 : contP p * 1 = contP p * contP (primP p) := by rw [Int.mul_one]; exact ec
    exact (Int.eq_of_mul_eq_mul_left hc h2).symm
  refine ⟨tr, ne, c1, ?_⟩
  have l0 : lastP (primP p) ≠ 0 := last_ne tr ne
  by_cases hl : lastP p < 0
  · have hsg : sgc p = -contP p := by unfold sgc; rw [if_pos hl]
    rw [hsg] at el
    by_cases hpos : 0 < lastP (primP p)
    · exact hpos
    · exfalso
      have : 0 ≤ contP p * (-lastP (primP p)) := Int.mul_nonneg hn (by omega)
      have e3 : contP p * (-lastP (primP p)) = -contP p * lastP (primP p) := by grind
      omega
  · have hsg : sgc p = contP p := by unfold sgc; rw [if_neg hl]
    rw [hsg] at el
    by_cases hpos : 0 < lastP (primP p)
    · exact hpos
    · exfalso
      have : 0 ≤ contP p * (-lastP (primP p)) := Int.mul_nonneg hn (by omega)
      have e3 : contP p * (-lastP (primP p)) = -(contP p * lastP (primP p)) := by grind
      omega
theorem prim_ev {p : Pl} (hp : Tr p) (np : p ≠ []) (x : Int) : ev p x = sgc p * ev (primP p) x := by
  have := ev_smul (sgc p) (primP p) x
  rw [← prim_eq hp np] at this
  exact this
theorem prim_nil : primP [] = [] := rfl
/-- two primitive polynomials with multiples alike are alike -/
theorem prm_unique {p q : Pl} (hp : Prm p) (hq : Prm q) {a b : Int} (ha : a ≠ 0) (hb : b ≠ 0) (h : ∀ x, a * ev p x = b * ev q x) : p = q ∧ a = b := by
  have e : p.map (a * ·) = q.map (b * ·) := ev_eq (smul_tr hp.tr ha) (smul_tr hq.tr hb) fun x => by rw [ev_smul, ev_smul, h]
  have ec := congrArg contP e
  rw [cont_smul, cont_smul, hp.c, hq.c] at ec
  have el := congrArg lastP e
  rw [smul_last, smul_last] at el
  have hab : a = b := by
    have h1 := hp.l
    have h2 := hq.l
    rcases Int.lt_or_gt_of_ne ha with h3 | h3
    · rcases Int.lt_or_gt_of_ne hb with h4 | h4
      · omega
      · have h5 := Int.mul_pos h4 h2
        have h6 := Int.mul_pos (show 0 < -a by omega) h1
        have h7 : -a * lastP p = -(a * lastP p) := by grind
        omega
    · rcases Int.lt_or_gt_of_ne hb with h4 | h4
      · have h5 := Int.mul_pos h3 h1
        have h6 := Int.mul_pos (show 0 < -b by omega) h2
        have h7 : -b * lastP q = -(b * lastP q) := by grind
        omega
      · omega
  refine ⟨?_, hab⟩
  subst hab
  refine ev_eq hp.tr hq.tr fun x => ?_
  exact Int.eq_of_mul_eq_mul_left ha (h x)
theorem prim_of {p q : Pl} (hp : Tr p) (hq : Prm q) {c : Int} (hc : c ≠ 0) (h : ∀ x, ev p x = c * ev q x) : primP p = q := by
  have np : p ≠ [] := fun z => by
    subst z
    obtain ⟨x, _, hx⟩ := ev_ne hq.tr hq.ne 0
    have := h x
    rcases Int.mul_eq_zero.mp this.symm with z | z
    · exact hc z
    · exact hx z
  exact (prm_unique (prim_prm hp np) hq (sgc_ne hp np) hc fun x => by rw [← prim_ev hp np, h]).1
theorem prim_self {p : Pl} (hp : Prm p) : primP p = p := prim_of hp.tr hp (c := 1) (by decide) fun x => by rw [Int.one_mul]
/-! ### Gauss -/
def Pr (p : Nat) : Prop := 2 ≤ p ∧ ∀ a b : Int, (p : Int) ∣ a * b → (p : Int) ∣ a ∨ (p : Int) ∣ b
theorem exists_pr : ∀ n : Nat, 2 ≤ n → ∃ p, Pr p ∧ p ∣ n := by
  intro n
  induction n using Nat.strongRecOn with
  | _ n ih =>
    intro h2
    by_cases hd : ∃ d, 2 ≤ d ∧ d < n ∧ d ∣ n
    · obtain ⟨d, h3, h4, h5⟩ := hd
      obtain ⟨p, hp, hpd⟩ := ih d h4 h3
      exact ⟨p, hp, Nat.dvd_trans hpd h5⟩
    · refine ⟨n, ⟨h2, fun a b hab => ?_⟩, Nat.dvd_refl n⟩
      have hg : Nat.gcd n a.natAbs ∣ n := Nat.gcd_dvd_left ..
      have hpos : 0 < Nat.gcd n a.natAbs := Nat.gcd_pos_of_pos_left _ (by omega)
      have hle : Nat.gcd n a.natAbs ≤ n := Nat.le_of_dvd (by omega) hg
      rcases Nat.lt_or_ge (Nat.gcd n a.natAbs) n with hlt | hge
      · have h1 : Nat.gcd n a.natAbs = 1 := by
          by_cases h1 : Nat.gcd n a.natAbs = 1
          · exact h1
          · exact absurd ⟨_, by omega, hlt, hg⟩ hd
        right
        have hab' : n ∣ a.natAbs * b.natAbs := by
          have := Int.natAbs_dvd_natAbs.mpr hab
          rwa [Int.natAbs_natCast, Int.natAbs_mul] at this
        have : n ∣ b.natAbs := Nat.Coprime.dvd_of_dvd_mul_left h1 hab'
        exact Int.ofNat_dvd_left.mpr this
      · left
        have e : Nat.gcd n a.natAbs = n := by omega
        have : n ∣ a.natAbs := by
          rw [← e]
          exact Nat.gcd_dvd_right ..
        exact Int.ofNat_dvd_left.mpr this
theorem mulL_comm_get (a b : Pl) (t : Nat) : (mulL a b).getD t 0 = (mulL b a).getD t 0 := coeff_ext 0 (fun x _ => by rw [ev_mulL, ev_mulL, Int.mul_comm]) t
theorem mulL_head (x y : Int) (a b : Pl) : (mulL (x :: a) (y :: b)).getD 0 0 = x * y := by
  simp [mulL, addL]
theorem mulL_tail (x : Int) (a b : Pl) (t : Nat) : (mulL (x :: a) b).getD (t + 1) 0 = x * b.getD (t + 1) 0 + (mulL a b).getD t 0 := by
  show (addL (b.map (x * ·)) (0 :: mulL a b)).getD (t + 1) 0 = _
  rw [addL_get, getD_map_mul]
  simp
theorem gauss_pr {p : Nat} (hp : Pr p) : ∀ (n : Nat) (a b : Pl), a.length + b.length ≤ n → (∀ t, (p : Int) ∣ (mulL a b).getD t 0) → (∀ t, (p : Int) ∣ a.getD t 0) ∨ (∀ t, (p : Int) ∣ b.getD t 0) := by
  intro n
  induction n with
  | zero =>
    intro a b h _
    have : a = [] := List.eq_nil_of_length_eq_zero (by omega)
    subst this
    exact .inl fun t => Int.dvd_zero _
  | succ n ih =>
    intro a b h hd
    cases a with
    | nil => exact .inl fun t => Int.dvd_zero _
    | cons x a =>
      cases b with
      | nil => exact .inr fun t => Int.dvd_zero _
      | cons y b =>
        simp only [List.length_cons] at h
        have h0 := hd 0
        rw [mulL_head] at h0
        rcases hp.2 x y h0 with hx | hy
        · have h1 : ∀ t, (p : Int) ∣ (mulL a (y :: b)).getD t 0 := fun t => by
            have h2 := hd (t + 1)
            rw [mulL_tail] at h2
            exact (Int.dvd_add_right (Int.dvd_mul_of_dvd_left hx)).mp h2
          rcases ih a (y :: b) (by simp only [List.length_cons]; omega) h1 with h3 | h3
          · left
            intro t
            cases t with
            | zero => simpa using hx
            | succ t => simpa using h3 t
          · exact .inr h3
        · have h1 : ∀ t, (p : Int) ∣ (mulL b (x :: a)).getD t 0 := fun t => by
            have h2 := hd (t + 1)
            rw [mulL_comm_get, mulL_tail] at h2
            exact (Int.dvd_add_right (Int.dvd_mul_of_dvd_left hy)).mp h2
          rcases ih b (x :: a) (by simp only [List.length_cons]; omega) h1 with h3 | h3
          · right
            intro t
            cases t with
            | zero => simpa using hy
            | succ t => simpa using h3 t
          · exact .inl h3
theorem prm_mul {p q : Pl} (hp : Prm p) (hq : Prm q) : Prm (mulP p q) := by
  have ne := mulP_ne hp.tr hq.tr hp.ne hq.ne
  refine ⟨tr_mulP _ _, ne, ?_, ?_⟩
  · have h0 := cont_ne (tr_mulP p q) ne
    have hn := cont_nn (mulP p q)
    by_cases h1 : contP (mulP p q) = 1
    · exact h1
    · exfalso
      obtain ⟨r, hr, hd⟩ := exists_pr (contP (mulP p q)).natAbs (by omega)
      have hd2 : ∀ t, (r : Int) ∣ (mulL p q).getD t 0 := fun t => by
        rw [← trim_get]
        refine Int.dvd_trans ?_ (cont_dvd_getD (mulP p q) t)
        exact Int.ofNat_dvd_left.mpr hd
      rcases gauss_pr hr _ p q (Nat.le_refl _) hd2 with h2 | h2
      · have := dvd_cont_getD h2
        rw [hp.c] at this
        have := Int.natAbs_dvd_natAbs.mpr this
        have h3 : r ∣ 1 := this
        have := Nat.le_of_dvd (by decide) h3
        have := hr.1
        omega
      · have := dvd_cont_getD h2
        rw [hq.c] at this
        have := Int.natAbs_dvd_natAbs.mpr this
        have h3 : r ∣ 1 := this
        have := Nat.le_of_dvd (by decide) h3
        have := hr.1
        omega
  · rw [mulP_last hp.tr hq.tr hp.ne hq.ne]
    exact Int.mul_pos hp.l hq.l
theorem prm_one : Prm [1] := ⟨rfl, by decide, by decide, by decide⟩
theorem prim_mul {p q : Pl} (hp : Tr p) (hq : Tr q) (np : p ≠ []) (nq : q ≠ []) : primP (mulP p q) = mulP (primP p) (primP q) :=
  prim_of (tr_mulP _ _) (prm_mul (prim_prm hp np) (prim_prm hq nq)) (c := sgc p * sgc q) (fun z => by
    rcases Int.mul_eq_zero.mp z with z | z
    · exact sgc_ne hp np z
    · exact sgc_ne hq nq z) fun x => by
    rw [ev_mulP, ev_mulP, prim_ev hp np, prim_ev hq nq]
    grind
/-! ### divisibility -/
def Dv (h p : Pl) : Prop := ∃ q, Tr q ∧ ∀ x, ev p x = ev q x * ev h x
theorem dv_of {h p q : Pl} (hh : Prm h) (hp : Tr p) {a : Int} (ha : a ≠ 0) (e : ∀ x, a * ev p x = ev q x * ev h x) : Dv h p := by
  by_cases np : p = []
  · subst np
    exact ⟨[], tr_nil, fun x => by simp [ev]⟩
  · have e2 : ∀ x, a * ev p x = ev (trim q) x * ev h x := fun x => by rw [ev_trim, e]
    have nq : trim q ≠ [] := fun z => by
      obtain ⟨x, _, hx⟩ := ev_ne hp np 0
      have := e2 x
      rw [z] at this
      simp only [ev, Int.zero_mul] at this
      rcases Int.mul_eq_zero.mp this with z | z
      · exact ha z
      · exact hx z
    have pq := prm_mul (prim_prm (tr_trim q) nq) hh
    have pp := prim_prm hp np
    have u := prm_unique pp pq (a := a * sgc p) (b := sgc (trim q)) (fun z => by
      rcases Int.mul_eq_zero.mp z with z | z
      · exact ha z
      · exact sgc_ne hp np z) (sgc_ne (tr_trim q) nq) fun x => by
      rw [ev_mulP]
      have h1 := e2 x
      rw [prim_ev hp np, prim_ev (tr_trim q) nq] at h1
      grind
    refine ⟨(primP (trim q)).map (sgc p * ·), smul_tr (prim_prm (tr_trim q) nq).tr (sgc_ne hp np), fun x => ?_⟩
    rw [ev_smul, prim_ev hp np, u.1, ev_mulP]
    grind
theorem dv_refl (h : Pl) : Dv h h := ⟨[1], rfl, fun x => by simp [ev]⟩
end PA

set_option linter.all false
/-! Small solutions of few equations in many numbers (by counting), and their use for polynomials. -/
namespace PA
def sm (f : Nat → Int) : Nat → Int
  | 0 => 0
  | n + 1 => sm f n + f n
def smN (f : Nat → Nat) : Nat → Nat
  | 0 => 0
  | n + 1 => smN f n + f n
theorem sm_congr {f g : Nat → Int} : ∀ {n : Nat}, (∀ i, i < n → f i = g i) → sm f n = sm g n
  | 0, _ => rfl
  | n + 1, h => by
    show sm f n + f n = sm g n + g n
    rw [sm_congr fun i hi => h i (by omega), h n (by omega)]
theorem sm_sub (f g : Nat → Int) : ∀ n, sm (fun i => f i - g i) n = sm f n - sm g n
  | 0 => rfl
  | n + 1 => by
    show sm (fun i => f i - g i) n + (f n - g n) = (sm f n + f n) - (sm g n + g n)
    rw [sm_sub]
    omega
theorem sm_add (f g : Nat → Int) : ∀ n, sm (fun i => f i + g i) n = sm f n + sm g n
  | 0 => rfl
  | n + 1 => by
    show sm (fun i => f i + g i) n + (f n + g n) = (sm f n + f n) + (sm g n + g n)
    rw [sm_add]
    omega
theorem sm_split (f : Nat → Int) (m : Nat) : ∀ n, sm f (m + n) = sm f m + sm (fun i => f (m + i)) n
  | 0 => by simp [sm]
  | n + 1 => by
    show sm f (m + n) + f (m + n) = sm f m + (sm (fun i => f (m + i)) n + f (m + n))
    rw [sm_split f m n]
    omega
theorem smN_split (f : Nat → Nat) (m : Nat) : ∀ n, smN f (m + n) = smN f m + smN (fun i => f (m + i)) n
  | 0 => by simp [smN]
  | n + 1 => by
    show smN f (m + n) + f (m + n) = smN f m + (smN (fun i => f (m + i)) n + f (m + n))
    rw [smN_split f m n]
    omega
theorem smN_congr {f g : Nat → Nat} : ∀ {n : Nat}, (∀ i, i < n → f i = g i) → smN f n = smN g n
  | 0, _ => rfl
  | n + 1, h => by
    show smN f n + f n = smN g n + g n
    rw [smN_congr fun i hi => h i (by omega), h n (by omega)]
theorem sm_rng {f : Nat → Int} {g : Nat → Nat} {X : Nat} : ∀ {n : Nat}, (∀ i, i < n → 0 ≤ f i ∧ f i ≤ (X * g i : Nat)) → 0 ≤ sm f n ∧ sm f n ≤ ((X * smN g n : Nat) : Int)
  | 0, _ => by simp [sm, smN]
  | n + 1, h => by
    have h1 := sm_rng (n := n) fun i hi => h i (by omega)
    have h2 := h n (by omega)
    have e : X * smN g (n + 1) = X * smN g n + X * g n := by
      show X * (smN g n + g n) = _
      rw [Nat.mul_add]
    rw [e]
    show 0 ≤ sm f n + f n ∧ sm f n + f n ≤ _
    omega
theorem sm_abs {f : Nat → Int} {g : Nat → Nat} {X : Nat} : ∀ {n : Nat}, (∀ i, i < n → (f i).natAbs ≤ X * g i) → (sm f n).natAbs ≤ X * smN g n
  | 0, _ => by simp [sm, smN]
  | n + 1, h => by
    have h1 := sm_abs (n := n) fun i hi => h i (by omega)
    have h2 := h n (by omega)
    have e : X * smN g (n + 1) = X * smN g n + X * g n := by
      show X * (smN g n + g n) = _
      rw [Nat.mul_add]
    rw [e]
    show (sm f n + f n).natAbs ≤ _
    omega
/-! ### drawers -/
theorem drawer : ∀ (M K : Nat) (L : List Nat) (f : Nat → Nat), (∀ x ∈ L, f x < M) → M * K < L.length → ∃ v, K < (L.filter fun x => decide (f x = v)).length
  | 0, K, L, f, h, hl => by
    cases L with
    | nil => simp at hl
    | cons x r => exact absurd (h x (List.mem_cons_self ..)) (by omega)
  | M + 1, K, L, f, h, hl => by
    by_cases hk : K < (L.filter fun x => decide (f x = M)).length
    · exact ⟨M, hk⟩
    · have hs : (L.filter fun x => decide (f x = M)).length + (L.filter fun x => !decide (f x = M)).length = L.length := by
        have : ∀ L : List Nat, (L.filter fun x => decide (f x = M)).length + (L.filter fun x => !decide (f x = M)).length = L.length := by
          intro L
          induction L with
          | nil => rfl
          | cons x r ih =>
            by_cases hx : f x = M
            · simp [hx]
              omega
            · simp [hx]
              omega
        exact this L
      have e : (M + 1) * K = M * K + K := by rw [Nat.add_mul, Nat.one_mul]
      obtain ⟨v, hv⟩ := drawer M K (L.filter fun x => !decide (f x = M)) f (fun x hx => by
        have h1 := List.mem_filter.mp hx
        have h2 := h x h1.1
        have h3 : f x ≠ M := by simpa using h1.2
        omega) (by omega)
      refine ⟨v, Nat.lt_of_lt_of_le hv ?_⟩
      exact ((List.filter_sublist (l := L) (p := fun x => !decide (f x = M))).filter _).length_le
theorem drawers (M : Nat) (cl : Nat → Nat → Nat) : ∀ (c : Nat) (L : List Nat), L.Nodup → (∀ j, j < c → ∀ k ∈ L, cl j k < M) → M ^ c < L.length → ∃ k1 k2, k1 ∈ L ∧ k2 ∈ L ∧ k1 ≠ k2 ∧ ∀ j, j < c → cl j k1 = cl j k2
  | 0, L, nd, _, hl => by
    match L, nd, hl with
    | x :: y :: r, nd, _ =>
      refine ⟨x, y, by simp, by simp, ?_, fun j hj => by omega⟩
      intro e
      subst e
      simp at nd
    | [], _, hl => simp at hl
    | [x], _, hl => simp at hl
  | c + 1, L, nd, h, hl => by
    obtain ⟨v, hv⟩ := drawer M (M ^ c) L (cl c) (fun x hx => h c (by omega) x hx) (by rw [Nat.mul_comm, ← Nat.pow_succ]; exact hl)
    obtain ⟨k1, k2, m1, m2, ne, e⟩ := drawers M cl c (L.filter fun x => decide (cl c x = v)) (nd.filter _) (fun j hj k hk => h j (by omega) k (List.mem_filter.mp hk).1) hv
    have f1 := List.mem_filter.mp m1
    have f2 := List.mem_filter.mp m2
    refine ⟨k1, k2, f1.1, f2.1, ne, fun j hj => ?_⟩
    by_cases h1 : j = c
    · subst h1
      have a1 : cl j k1 = v := by simpa using f1.2
      have a2 : cl j k2 = v := by simpa using f2.2
      rw [a1, a2]
    · exact e j (by omega)
theorem digits_eq (b : Nat) (hb : 0 < b) : ∀ (N k1 k2 : Nat), k1 < b ^ N → k2 < b ^ N → (∀ i, i < N → k1 / b ^ i % b = k2 / b ^ i % b) → k1 = k2
  | 0, k1, k2, h1, h2, _ => by
    rw [Nat.pow_zero] at h1 h2
    omega
  | N + 1, k1, k2, h1, h2, h => by
    have h0 := h 0 (by omega)
    rw [Nat.pow_zero, Nat.div_one, Nat.div_one] at h0
    have hd : k1 / b = k2 / b := digits_eq b hb N _ _ (by
      rw [Nat.div_lt_iff_lt_mul hb, ← Nat.pow_succ]; exact h1) (by
      rw [Nat.div_lt_iff_lt_mul hb, ← Nat.pow_succ]; exact h2) fun i hi => by
      have := h (i + 1) (by omega)
      rw [Nat.pow_succ, Nat.mul_comm, ← Nat.div_div_eq_div_mul, ← Nat.div_div_eq_div_mul] at this
      exact this
    rw [← Nat.div_add_mod k1 b, ← Nat.div_add_mod k2 b, h0, hd]
/-- one equation less than unknowns has a small solution other than 0 -/
theorem siegel (N B : Nat) (hB : 1 ≤ B) (hN : 1 ≤ N) (a : Nat → Nat → Int) (hrow : ∀ j, j < N - 1 → smN (fun i => (a j i).natAbs) N ≤ B) :
    ∃ x : Nat → Int, (∃ i, i < N ∧ x i ≠ 0) ∧ (∀ i, i < N → (x i).natAbs ≤ B ^ (N - 1)) ∧ ∀ j, j < N - 1 → sm (fun i => a j i * x i) N = 0 := by
  generalize hX : B ^ (N - 1) = X
  have dl : ∀ k i, k / (X + 1) ^ i % (X + 1) < X + 1 := fun k i => Nat.mod_lt _ (by omega)
  let vl : Nat → Nat → Int := fun j k => sm (fun i => a j i * ((k / (X + 1) ^ i % (X + 1) : Nat) : Int) + (X : Int) * (if a j i < 0 then -(a j i) else 0)) N
  have vr : ∀ j, j < N - 1 → ∀ k, 0 ≤ vl j k ∧ vl j k ≤ ((X * B : Nat) : Int) := by
    intro j hj k
    have h1 := sm_rng (f := fun i => a j i * ((k / (X + 1) ^ i % (X + 1) : Nat) : Int) + (X : Int) * (if a j i < 0 then -(a j i) else 0)) (g := fun i => (a j i).natAbs) (X := X) (n := N) (fun i _ => by
      have hd := dl k i
      generalize k / (X + 1) ^ i % (X + 1) = d at hd
      show 0 ≤ a j i * (d : Int) + (X : Int) * (if a j i < 0 then -(a j i) else 0) ∧ a j i * (d : Int) + (X : Int) * (if a j i < 0 then -(a j i) else 0) ≤ ((X * (a j i).natAbs : Nat) : Int)
      rw [Int.natCast_mul]
      generalize a j i = z
      by_cases hz : z < 0
      · rw [if_pos hz]
        have e1 : ((z.natAbs : Nat) : Int) = -z := by omega
        rw [e1]
        have h2 : 0 ≤ (-z) * ((X : Int) - d) := Int.mul_nonneg (by omega) (by omega)
        have h3 : 0 ≤ (-z) * (d : Int) := Int.mul_nonneg (by omega) (by omega)
        constructor
        · grind
        · grind
      · rw [if_neg hz]
        have e1 : ((z.natAbs : Nat) : Int) = z := by omega
        rw [e1]
        have h2 : 0 ≤ z * ((X : Int) - d) := Int.mul_nonneg (by omega) (by omega)
        have h3 : 0 ≤ z * (d : Int) := Int.mul_nonneg (by omega) (by omega)
        constructor
        · grind
        · grind)
    refine ⟨h1.1, Int.le_trans h1.2 ?_⟩
    exact Int.ofNat_le.mpr (Nat.mul_le_mul_left _ (hrow j hj))
  obtain ⟨k1, k2, m1, m2, ne, e⟩ := drawers ((X + 1) * B) (fun j k => (vl j k).toNat) (N - 1) (List.range ((X + 1) ^ N)) List.nodup_range (fun j hj k _ => by
      have := (vr j hj k).2
      show (vl j k).toNat < (X + 1) * B
      have e1 : (X + 1) * B = X * B + B := by rw [Nat.add_mul, Nat.one_mul]
      omega) (by
    rw [List.length_range, Nat.mul_pow, hX]
    have e1 : (X + 1) ^ N = (X + 1) ^ (N - 1) * (X + 1) := by
      rw [← Nat.pow_succ]
      congr 1
      omega
    rw [e1]
    exact Nat.mul_lt_mul_of_pos_left (by omega) (Nat.pow_pos (by omega)))
  rw [List.mem_range] at m1 m2
  refine ⟨fun i => ((k1 / (X + 1) ^ i % (X + 1) : Nat) : Int) - ((k2 / (X + 1) ^ i % (X + 1) : Nat) : Int), ?_, fun i _ => ?_, fun j hj => ?_⟩
  · by_cases h : ∃ i, i < N ∧ ((k1 / (X + 1) ^ i % (X + 1) : Nat) : Int) - ((k2 / (X + 1) ^ i % (X + 1) : Nat) : Int) ≠ 0
    · exact h
    · exfalso
      apply ne
      refine digits_eq (X + 1) (by omega) N k1 k2 m1 m2 fun i hi => ?_
      by_cases h2 : ((k1 / (X + 1) ^ i % (X + 1) : Nat) : Int) - ((k2 / (X + 1) ^ i % (X + 1) : Nat) : Int) = 0
      · omega
      · exact absurd ⟨i, hi, h2⟩ h
  · have h1 := dl k1 i
    have h2 := dl k2 i
    show (((k1 / (X + 1) ^ i % (X + 1) : Nat) : Int) - ((k2 / (X + 1) ^ i % (X + 1) : Nat) : Int)).natAbs ≤ X
    omega
  · have h1 := e j hj
    have v1 := vr j hj k1
    have v2 := vr j hj k2
    have h3 : vl j k1 = vl j k2 := by
      have h1 : (vl j k1).toNat = (vl j k2).toNat := h1
      omega
    have h4 : sm (fun i => a j i * (((k1 / (X + 1) ^ i % (X + 1) : Nat) : Int) - ((k2 / (X + 1) ^ i % (X + 1) : Nat) : Int))) N = vl j k1 - vl j k2 := by
      show _ = sm _ N - sm _ N
      rw [← sm_sub]
      refine sm_congr fun i _ => ?_
      grind
    rw [h4, h3]
    omega
end PA

set_option linter.all false
/-! Sizes of polynomials; small combinations of two polynomials with a low degree. -/
namespace PA
def n1 : Pl → Nat
  | [] => 0
  | a :: p => a.natAbs + n1 p
theorem coef_le : ∀ (p : Pl) (t : Nat), (p.getD t 0).natAbs ≤ n1 p
  | [], t => by simp [n1]
  | a :: p, 0 => by simp [n1]
  | a :: p, t + 1 => by
    have := coef_le p t
    simp only [n1, List.getD_cons_succ]
    omega
theorem n1_addL : ∀ p q : Pl, n1 (addL p q) ≤ n1 p + n1 q
  | [], q => by simp [addL, n1]
  | a :: p, [] => by simp [addL, n1]
  | a :: p, b :: q => by
    have := n1_addL p q
    simp only [addL, n1]
    omega
theorem n1_smul (c : Int) : ∀ p : Pl, n1 (p.map (c * ·)) = c.natAbs * n1 p
  | [] => by simp [n1]
  | a :: p => by
    have := n1_smul c p
    simp only [List.map_cons, n1, this, Int.natAbs_mul, Nat.mul_add]
theorem n1_mulL : ∀ p q : Pl, n1 (mulL p q) ≤ n1 p * n1 q
  | [], q => by simp [mulL, n1]
  | a :: p, q => by
    have h1 := n1_mulL p q
    have h2 := n1_addL (q.map (a * ·)) (0 :: mulL p q)
    rw [n1_smul] at h2
    simp only [n1] at h2
    simp only [mulL, n1, Nat.add_mul]
    omega
theorem n1_trim : ∀ p : Pl, n1 (trim p) ≤ n1 p
  | [] => Nat.le_refl _
  | a :: p => by
    have := n1_trim p
    unfold trim
    split
    · exact Nat.zero_le _
    · simp only [n1]
      omega
theorem n1_mulP (p q : Pl) : n1 (mulP p q) ≤ n1 p * n1 q := Nat.le_trans (n1_trim _) (n1_mulL p q)
theorem n1_le {M : Nat} : ∀ p : Pl, (∀ t, (p.getD t 0).natAbs ≤ M) → n1 p ≤ p.length * M
  | [], _ => by simp [n1]
  | a :: p, h => by
    have h0 := h 0
    have := n1_le p fun t => by simpa using h (t + 1)
    simp only [n1, List.length_cons, Nat.add_mul, Nat.one_mul]
    simp only [List.getD_cons_zero] at h0
    omega
theorem mem_le {p : Pl} {M : Nat} (h : ∀ t, (p.getD t 0).natAbs ≤ M) : ∀ x ∈ p, x.natAbs ≤ M := fun x hx => by
  obtain ⟨t, _, e⟩ := mem_getD hx
  rw [← e]
  exact h t
theorem smN_add (f g : Nat → Nat) : ∀ n, smN (fun i => f i + g i) n = smN f n + smN g n
  | 0 => rfl
  | n + 1 => by
    show smN (fun i => f i + g i) n + (f n + g n) = (smN f n + f n) + (smN g n + g n)
    rw [smN_add]
    omega
theorem smN_one (c v : Nat) : ∀ n, smN (fun i => if i = c then v else 0) n ≤ v
  | 0 => Nat.zero_le _
  | n + 1 => by
    show smN (fun i => if i = c then v else 0) n + (if n = c then v else 0) ≤ v
    by_cases h : n = c
    · subst h
      have : smN (fun i => if i = n then v else 0) n = 0 := by
        have z : ∀ m, m ≤ n → smN (fun i => if i = n then v else 0) m = 0 := by
          intro m
          induction m with
          | zero => exact fun _ => rfl
          | succ m ih =>
            intro hm
            show smN _ m + (if m = n then v else 0) = 0
            rw [ih (by omega), if_neg (by omega)]
        exact z n (Nat.le_refl _)
      rw [this, if_pos rfl]
      omega
    · rw [if_neg h]
      exact smN_one c v n
theorem smN_zero {f : Nat → Nat} : ∀ {n : Nat}, (∀ i, i < n → f i = 0) → smN f n = 0
  | 0, _ => rfl
  | n + 1, h => by
    show smN f n + f n = 0
    rw [smN_zero fun i hi => h i (by omega), h n (by omega)]
theorem conv_n1 : ∀ (p : Pl) (c n : Nat), smN (fun i => (if i ≤ c then p.getD (c - i) 0 else 0).natAbs) n ≤ n1 p
  | [], c, n => by
    rw [smN_zero]
    · exact Nat.zero_le _
    · intro i _
      split <;> simp
  | a :: p, c, n => by
    have e : smN (fun i => (if i ≤ c then (a :: p).getD (c - i) 0 else 0).natAbs) n = smN (fun i => (if i + 1 ≤ c then p.getD (c - 1 - i) 0 else 0).natAbs + (if i = c then a.natAbs else 0)) n := by
      refine smN_congr fun i _ => ?_
      by_cases h1 : i = c
      · subst h1
        rw [if_pos (Nat.le_refl _), if_neg (by omega), if_pos rfl, Nat.sub_self]
        simp
      · by_cases h2 : i ≤ c
        · rw [if_pos h2, if_pos (by omega), if_neg h1]
          obtain ⟨d, hd⟩ : ∃ d, c - i = d + 1 := ⟨c - i - 1, by omega⟩
          rw [hd, show c - 1 - i = d by omega]
          simp
        · rw [if_neg h2, if_neg (by omega), if_neg h1]
          rfl
    rw [e, smN_add]
    have h1 := smN_one c a.natAbs n
    cases c with
    | zero =>
      rw [smN_zero (f := fun i => (if i + 1 ≤ 0 then p.getD (0 - 1 - i) 0 else 0).natAbs)]
      · simp only [n1]
        omega
      · intro i _
        rw [if_neg (by omega)]
        rfl
    | succ c =>
      have h2 := conv_n1 p c n
      have e2 : smN (fun i => (if i + 1 ≤ c + 1 then p.getD (c + 1 - 1 - i) 0 else 0).natAbs) n = smN (fun i => (if i ≤ c then p.getD (c - i) 0 else 0).natAbs) n := by
        refine smN_congr fun i _ => ?_
        by_cases h : i ≤ c
        · rw [if_pos h, if_pos (by omega), show c + 1 - 1 - i = c - i by omega]
        · rw [if_neg h, if_neg (by omega)]
      rw [e2]
      simp only [n1]
      omega
theorem mulL_conv (p q : Pl) (t : Nat) : ∀ n, n ≤ p.length → (mulL (p.take n) q).getD t 0 = sm (fun i => if i ≤ t then p.getD i 0 * q.getD (t - i) 0 else 0) n
  | 0, _ => rfl
  | n + 1, h => by
    rw [mulL_row p q n t (by omega), mulL_conv p q t n (by omega)]
    show _ = sm _ n + _
    congr 1
    show (if n ≤ t ∧ t < n + q.length then p.getD n 0 * q.getD (t - n) 0 else 0) = (if n ≤ t then p.getD n 0 * q.getD (t - n) 0 else 0)
    by_cases h1 : n ≤ t
    · rw [if_pos h1]
      by_cases h2 : t < n + q.length
      · rw [if_pos ⟨h1, h2⟩]
      · rw [if_neg (fun z => h2 z.2), far (p := q) (by omega), Int.mul_zero]
    · rw [if_neg h1, if_neg (fun z => h1 z.1)]
theorem mulL_coef (p q : Pl) (t : Nat) : (mulL p q).getD t 0 = sm (fun i => if i ≤ t then p.getD i 0 * q.getD (t - i) 0 else 0) p.length := by
  have := mulL_conv p q t p.length (Nat.le_refl _)
  rwa [List.take_length] at this
/-- a small combination of f and g without the numbers from d on -/
theorem siegel_poly (f g : Pl) (d : Nat) (hf : d + 1 ≤ f.length) (hg : d + 1 ≤ g.length) (hB : 1 ≤ n1 f + n1 g) :
    ∃ U V : Pl, U.length = g.length - d ∧ V.length = f.length - d ∧ ((∃ t, U.getD t 0 ≠ 0) ∨ (∃ t, V.getD t 0 ≠ 0)) ∧
      (∀ t, (U.getD t 0).natAbs ≤ (n1 f + n1 g) ^ (f.length + g.length - 2 * d - 1)) ∧ (∀ t, (V.getD t 0).natAbs ≤ (n1 f + n1 g) ^ (f.length + g.length - 2 * d - 1)) ∧
      (∀ t, d ≤ t → (addL (mulL U f) (mulL V g)).getD t 0 = 0) ∧ ∀ t, ((addL (mulL U f) (mulL V g)).getD t 0).natAbs ≤ (n1 f + n1 g) ^ (f.length + g.length - 2 * d) := by
  obtain ⟨x, ⟨i0, hi0, hx0⟩, hx, he⟩ := siegel ((g.length - d) + (f.length - d)) (n1 f + n1 g) hB (by omega)
    (fun j i => if i < g.length - d then (if i ≤ d + j then f.getD (d + j - i) 0 else 0) else (if i - (g.length - d) ≤ d + j then g.getD (d + j - (i - (g.length - d))) 0 else 0)) (fun j _ => by
      rw [smN_split]
      have h1 := conv_n1 f (d + j) (g.length - d)
      have h2 := conv_n1 g (d + j) (f.length - d)
      refine Nat.add_le_add (Nat.le_trans (Nat.le_of_eq (smN_congr fun i hi => ?_)) h1) (Nat.le_trans (Nat.le_of_eq (smN_congr fun i hi => ?_)) h2)
      · rw [if_pos hi]
      · rw [if_neg (by omega), show g.length - d + i - (g.length - d) = i by omega])
  have eN : (g.length - d) + (f.length - d) - 1 = f.length + g.length - 2 * d - 1 := by omega
  rw [eN] at hx he
  let U : Pl := (List.range (g.length - d)).map x
  let V : Pl := (List.range (f.length - d)).map fun i => x (g.length - d + i)
  have lU : U.length = g.length - d := by simp [U]
  have lV : V.length = f.length - d := by simp [V]
  have gU : ∀ i, i < g.length - d → U.getD i 0 = x i := fun i hi => by
    simp only [U]
    rw [List.getD_eq_getElem?_getD, List.getElem?_map, List.getElem?_range hi]
    rfl
  have gV : ∀ i, i < f.length - d → V.getD i 0 = x (g.length - d + i) := fun i hi => by
    simp only [V]
    rw [List.getD_eq_getElem?_getD, List.getElem?_map, List.getElem?_range hi]
    rfl
  have bU : ∀ t, (U.getD t 0).natAbs ≤ (n1 f + n1 g) ^ (f.length + g.length - 2 * d - 1) := fun t => by
    by_cases h : t < g.length - d
    · rw [gU t h]
      exact hx t (by omega)
    · rw [far (by omega)]
      exact Nat.zero_le _
  have bV : ∀ t, (V.getD t 0).natAbs ≤ (n1 f + n1 g) ^ (f.length + g.length - 2 * d - 1) := fun t => by
    by_cases h : t < f.length - d
    · rw [gV t h]
      exact hx _ (by omega)
    · rw [far (by omega)]
      exact Nat.zero_le _
  refine ⟨U, V, lU, lV, ?_, bU, bV, fun t ht => ?_, fun t => ?_⟩
  · by_cases h : i0 < g.length - d
    · exact .inl ⟨i0, by rw [gU i0 h]; exact hx0⟩
    · refine .inr ⟨i0 - (g.length - d), ?_⟩
      rw [gV _ (by omega), show g.length - d + (i0 - (g.length - d)) = i0 by omega]
      exact hx0
  · rw [addL_get]
    by_cases hj : t - d < f.length + g.length - 2 * d - 1
    · have h1 := he (t - d) hj
      rw [sm_split] at h1
      rw [mulL_coef, mulL_coef, lU, lV]
      refine Eq.trans ?_ h1
      congr 1
      · refine sm_congr fun i hi => ?_
        rw [if_pos hi, show d + (t - d) = t by omega, gU i hi]
        by_cases h2 : i ≤ t
        · rw [if_pos h2, if_pos h2, Int.mul_comm]
        · rw [if_neg h2, if_neg h2, Int.zero_mul]
      · refine sm_congr fun i hi => ?_
        rw [if_neg (show ¬ (g.length - d + i < g.length - d) by omega), show d + (t - d) = t by omega, gV i hi, show g.length - d + i - (g.length - d) = i by omega]
        by_cases h2 : i ≤ t
        · rw [if_pos h2, if_pos h2, Int.mul_comm]
        · rw [if_neg h2, if_neg h2, Int.zero_mul]
    · rw [mulL_far U f t (by omega), mulL_far V g t (by omega)]
      rfl
  · rw [addL_get, mulL_coef, mulL_coef]
    have h1 := sm_abs (f := fun i => if i ≤ t then U.getD i 0 * f.getD (t - i) 0 else 0) (g := fun i => (if i ≤ t then f.getD (t - i) 0 else 0).natAbs) (X := (n1 f + n1 g) ^ (f.length + g.length - 2 * d - 1)) (n := U.length) (fun i _ => by
      by_cases h2 : i ≤ t
      · rw [if_pos h2, if_pos h2, Int.natAbs_mul]
        exact Nat.mul_le_mul_right _ (bU i)
      · rw [if_neg h2]
        exact Nat.zero_le _)
    have h3 := sm_abs (f := fun i => if i ≤ t then V.getD i 0 * g.getD (t - i) 0 else 0) (g := fun i => (if i ≤ t then g.getD (t - i) 0 else 0).natAbs) (X := (n1 f + n1 g) ^ (f.length + g.length - 2 * d - 1)) (n := V.length) (fun i _ => by
      by_cases h2 : i ≤ t
      · rw [if_pos h2, if_pos h2, Int.natAbs_mul]
        exact Nat.mul_le_mul_right _ (bV i)
      · rw [if_neg h2]
        exact Nat.zero_le _)
    have h4 := conv_n1 f t U.length
    have h5 := conv_n1 g t V.length
    have h6 := Nat.mul_le_mul_left ((n1 f + n1 g) ^ (f.length + g.length - 2 * d - 1)) h4
    have h7 := Nat.mul_le_mul_left ((n1 f + n1 g) ^ (f.length + g.length - 2 * d - 1)) h5
    have e : (n1 f + n1 g) ^ (f.length + g.length - 2 * d) = (n1 f + n1 g) ^ (f.length + g.length - 2 * d - 1) * n1 f + (n1 f + n1 g) ^ (f.length + g.length - 2 * d - 1) * n1 g := by
      rw [← Nat.mul_add, ← Nat.pow_succ]
      congr 1
      omega
    rw [e]
    omega
end PA

set_option linter.all false
/-! Common factors by division with rests: the rows of cofactors, the sizes, the runs. -/
namespace PA
structure Inv0 (f g u v U1 V1 U2 V2 : Pl) (c1 c2 D : Int) : Prop where
  t1 : Tr V1
  t2 : Tr V2
  n1 : c1 ≠ 0
  n2 : c2 ≠ 0
  nd : D ≠ 0
  e1 : ∀ x, c1 * ev u x = ev U1 x * ev f x + ev V1 x * ev g x
  e2 : ∀ x, c2 * ev v x = ev U2 x * ev f x + ev V2 x * ev g x
  ed : ∀ x, ev U1 x * ev V2 x - ev U2 x * ev V1 x = D
  ne : V2 ≠ []
  l2 : V2.length + u.length = f.length + 1
  l1 : V1 = [] ∨ V1.length + v.length ≤ f.length
def Inv (f g u v : Pl) : Prop := ∃ U1 V1 U2 V2 c1 c2 D, Inv0 f g u v U1 V1 U2 V2 c1 c2 D
theorem inv_start (f g : Pl) : Inv f g f g := ⟨[1], [], [], [1], 1, 1, 1, by
  refine ⟨rfl, rfl, by decide, by decide, by decide, fun x => ?_, fun x => ?_, fun x => ?_, by decide, ?_, .inl rfl⟩
  · simp [ev]
  · simp [ev]
  · simp [ev]
  · show 1 + f.length = f.length + 1
    omega⟩
def Rm (u v r q : Pl) (a b : Int) : Prop := a ≠ 0 ∧ b ≠ 0 ∧ Tr q ∧ ∀ x, a * ev u x = ev q x * ev v x + b * ev r x
theorem inv_step {f g u v r q : Pl} {a b : Int} (h : Inv f g u v) (hm : Rm u v r q a b) (hl : q.length + v.length = u.length + 1) (hv : v.length ≤ u.length) (hr : r.length < v.length) : Inv f g v r := by
  obtain ⟨U1, V1, U2, V2, c1, c2, D, h⟩ := h
  obtain ⟨ha, hb, tq, hm⟩ := hm
  have nq : q ≠ [] := fun z => by
    subst z
    simp only [List.length_nil] at hl
    omega
  let V3 := trim (addL (V1.map (a * c2 * ·)) ((mulP q V2).map (-c1 * ·)))
  have lq := mulP_len tq h.t2 nq h.ne
  have lz := last_ne (tr_mulP q V2) (mulP_ne tq h.t2 nq h.ne)
  have hl2 := h.l2
  have far1 : ∀ t, (mulP q V2).length ≤ t + 1 → V1.getD t 0 = 0 := fun t ht => by
    rcases h.l1 with z | z
    · rw [z]
      rfl
    · exact far (by omega)
  have l3 : V3.length = (mulP q V2).length := by
    refine Nat.le_antisymm (len_le (tr_trim _) _ fun t ht => ?_) ?_
    · rw [trim_get, addL_get, getD_map_mul, getD_map_mul, far1 t (by omega), far ht]
      simp
    · by_cases hh : (mulP q V2).length ≤ V3.length
      · exact hh
      · exfalso
        have z : V3.getD ((mulP q V2).length - 1) 0 = 0 := far (by omega)
        simp only [V3] at z
        rw [trim_get, addL_get, getD_map_mul, getD_map_mul, far1 _ (by omega)] at z
        have z2 : -c1 * lastP (mulP q V2) = 0 := by
          rw [Int.mul_zero, Int.zero_add] at z
          exact z
        rcases Int.mul_eq_zero.mp z2 with z | z
        · exact h.n1 (by omega)
        · exact lz z
  refine ⟨U2, V2, addL (U1.map (a * c2 * ·)) ((mulP q U2).map (-c1 * ·)), V3, c2, c1 * c2 * b, -(a * c2 * D), ?_⟩
  have eV : ∀ x, ev V3 x = a * c2 * ev V1 x + -c1 * (ev q x * ev V2 x) := fun x => by
    simp only [V3]
    rw [ev_trim, ev_addL, ev_smul, ev_smul, ev_mulP]
  have eU : ∀ x, ev (addL (U1.map (a * c2 * ·)) ((mulP q U2).map (-c1 * ·))) x = a * c2 * ev U1 x + -c1 * (ev q x * ev U2 x) := fun x => by
    rw [ev_addL, ev_smul, ev_smul, ev_mulP]
  refine ⟨h.t2, tr_trim _, h.n2, ?_, ?_, h.e2, fun x => ?_, fun x => ?_, ?_, ?_, .inr ?_⟩
  · intro z
    rcases Int.mul_eq_zero.mp z with z | z
    · rcases Int.mul_eq_zero.mp z with z | z
      · exact h.n1 z
      · exact h.n2 z
    · exact hb z
  · intro z
    have z : a * c2 * D = 0 := by omega
    rcases Int.mul_eq_zero.mp z with z | z
    · rcases Int.mul_eq_zero.mp z with z | z
      · exact ha z
      · exact h.n2 z
    · exact h.nd z
  · rw [eV, eU]
    have h1 := h.e1 x
    have h2 := h.e2 x
    have h3 := hm x
    grind
  · rw [eV, eU]
    have h1 := h.ed x
    grind
  · intro z
    have : V3.length = 0 := by rw [z]; rfl
    have := List.length_pos_iff.mpr h.ne
    have := List.length_pos_iff.mpr nq
    omega
  · omega
  · have := h.l2
    omega
/-- the common factor at the end -/
theorem inv_end {f g u : Pl} (h : Inv f g u []) (hu : Prm u) (hf : Tr f) (hg : Tr g) : (∃ U V c, c ≠ 0 ∧ ∀ x, c * ev u x = ev U x * ev f x + ev V x * ev g x) ∧ Dv u f ∧ Dv u g := by
  obtain ⟨U1, V1, U2, V2, c1, c2, D, h⟩ := h
  refine ⟨⟨U1, V1, c1, h.n1, h.e1⟩, dv_of hu hf (q := V2.map (c1 * ·)) h.nd fun x => ?_, dv_of hu hg (q := U2.map (-c1 * ·)) h.nd fun x => ?_⟩
  · rw [ev_smul]
    have h1 := h.e1 x
    have h2 := h.e2 x
    have h3 := h.ed x
    simp only [ev] at h2
    grind
  · rw [ev_smul]
    have h1 := h.e1 x
    have h2 := h.e2 x
    have h3 := h.ed x
    simp only [ev] at h2
    grind
theorem ev_all_zero {p : Pl} (h : ∀ t, p.getD t 0 = 0) (x : Int) : ev p x = 0 := by
  rw [← ev_trim, trim_zero h]
  rfl
theorem inv_bound {f g u v : Pl} (h : Inv f g u v) (hf : Prm f) (hg : Prm g) (hv : Prm v) (hvu : v.length < u.length) (huf : u.length ≤ f.length) (hug : u.length ≤ g.length) (hB : 1 ≤ n1 f + n1 g) (t : Nat) :
    (v.getD t 0).natAbs ≤ (n1 f + n1 g) ^ (f.length + g.length + 2 - 2 * u.length) := by
  obtain ⟨U1, V1, U2, V2, c1, c2, D, h⟩ := h
  obtain ⟨U, V, lU, lV, hne, -, -, hz, hb⟩ := siegel_poly f g (u.length - 1) (by omega) (by omega) hB
  have eW : ∀ x, ev (trim (addL (mulL U f) (mulL V g))) x = ev U x * ev f x + ev V x * ev g x := fun x => by
    rw [ev_trim, ev_addL, ev_mulL, ev_mulL]
  have lW : (trim (addL (mulL U f) (mulL V g))).length ≤ u.length - 1 := len_le (tr_trim _) _ fun t ht => by
    rw [trim_get]
    exact hz t ht
  have bW : ∀ t, ((trim (addL (mulL U f) (mulL V g))).getD t 0).natAbs ≤ (n1 f + n1 g) ^ (f.length + g.length + 2 - 2 * u.length) := fun t => by
    rw [trim_get, show f.length + g.length + 2 - 2 * u.length = f.length + g.length - 2 * (u.length - 1) by omega]
    exact hb t
  have tW : Tr (trim (addL (mulL U f) (mulL V g))) := tr_trim _
  generalize trim (addL (mulL U f) (mulL V g)) = W at eW lW bW tW
  have hl2 := h.l2
  -- the same direction
  have hP : ∀ x, ev U x * ev V2 x = ev V x * ev U2 x := by
    have eP : ∀ x, ev (trim (addL (mulL U V2) ((mulL V U2).map (-1 * ·)))) x = ev U x * ev V2 x - ev V x * ev U2 x := fun x => by
      rw [ev_trim, ev_addL, ev_smul, ev_mulL, ev_mulL]
      omega
    have tP : Tr (trim (addL (mulL U V2) ((mulL V U2).map (-1 * ·)))) := tr_trim _
    generalize trim (addL (mulL U V2) ((mulL V U2).map (-1 * ·))) = P at eP tP
    by_cases nP : P = []
    · intro x
      have := eP x
      rw [nP] at this
      simp only [ev] at this
      omega
    · exfalso
      have l1 := mulP_len hf.tr tP hf.ne nP
      have e3 : mulP f P = trim (addL (mulL V2 W) ((mulL V v).map (-c2 * ·))) := ev_eq (tr_mulP _ _) (tr_trim _) fun x => by
        rw [ev_mulP, ev_trim, ev_addL, ev_smul, ev_mulL, ev_mulL, eP, eW]
        have h2 := h.e2 x
        grind
      have l3 : (trim (addL (mulL V2 W) ((mulL V v).map (-c2 * ·)))).length ≤ f.length - 1 := len_le (tr_trim _) _ fun t ht => by
        rw [trim_get, addL_get, getD_map_mul, mulL_far V2 W t (by omega), mulL_far V v t (by omega)]
        simp
      rw [← e3] at l3
      have := List.length_pos_iff.mpr nP
      have := List.length_pos_iff.mpr hf.ne
      omega
  -- V is not nought
  have nV : trim V ≠ [] := fun z => by
    have zV : ∀ t, V.getD t 0 = 0 := fun t => by
      rw [← trim_get, z]
      rfl
    have zU : ∀ x, ev V2 x * ev U x = ev V2 x * ev [] x := fun x => by
      have := hP x
      rw [ev_all_zero zV] at this
      simp only [ev]
      grind
    have zU2 := ev_cancel h.t2 h.ne zU
    have zU3 : ∀ t, U.getD t 0 = 0 := ev_zero_coeffs U 0 fun x _ => by
      rw [zU2 x]
      rfl
    rcases hne with ⟨t, ht⟩ | ⟨t, ht⟩
    · exact ht (zU3 t)
    · exact ht (zV t)
  have eT : ∀ x, ev (trim (addL (mulL U1 V) ((mulL U V1).map (-1 * ·)))) x = ev U1 x * ev V x - ev U x * ev V1 x := fun x => by
    rw [ev_trim, ev_addL, ev_smul, ev_mulL, ev_mulL]
    omega
  have tT : Tr (trim (addL (mulL U1 V) ((mulL U V1).map (-1 * ·)))) := tr_trim _
  generalize trim (addL (mulL U1 V) ((mulL U V1).map (-1 * ·))) = T at eT tT
  have hT : mulP V2 T = (trim V).map (D * ·) := ev_eq (tr_mulP _ _) (smul_tr (tr_trim _) h.nd) fun x => by
    rw [ev_mulP, ev_smul, ev_trim, eT]
    have h1 := hP x
    have h2 := h.ed x
    grind
  have nT : T ≠ [] := fun z => by
    rw [z, mulP_nil] at hT
    have := congrArg List.length hT
    rw [List.length_map] at this
    exact nV (List.eq_nil_of_length_eq_zero this.symm)
  have lT : T.length = 1 := by
    have h1 := mulP_len h.t2 tT h.ne nT
    rw [hT, List.length_map] at h1
    have h2 : (trim V).length ≤ V.length := trim_len V
    have := List.length_pos_iff.mpr nT
    omega
  obtain ⟨τ, rfl⟩ : ∃ τ, T = [τ] := by
    match T, lT with
    | [τ], _ => exact ⟨τ, rfl⟩
  have nτ : τ ≠ 0 := fun z => by
    have := last_ne tT nT
    rw [z] at this
    exact this rfl
  have hW : ∀ x, D * ev W x = τ * c2 * ev v x := fun x => by
    have key : ∀ x, ev V2 x * ev (W.map (D * ·)) x = ev V2 x * ev (v.map (τ * c2 * ·)) x := fun x => by
      rw [ev_smul, ev_smul]
      have h1 := hP x
      have h2 := h.e2 x
      have h3 := eW x
      have h4 : ev (mulP V2 [τ]) x = ev ((trim V).map (D * ·)) x := by rw [hT]
      rw [ev_mulP, ev_smul, ev_trim] at h4
      simp only [ev] at h4
      grind
    have := ev_cancel h.t2 h.ne key x
    rwa [ev_smul, ev_smul] at this
  have nW : W ≠ [] := fun z => by
    obtain ⟨x, _, hx⟩ := ev_ne hv.tr hv.ne 0
    have := hW x
    rw [z] at this
    simp only [ev, Int.mul_zero] at this
    rcases Int.mul_eq_zero.mp this.symm with z | z
    · rcases Int.mul_eq_zero.mp z with z | z
      · exact nτ z
      · exact h.n2 z
    · exact hx z
  have u1 := (prm_unique (prim_prm tW nW) hv (a := D * sgc W) (b := τ * c2) (fun z => by
    rcases Int.mul_eq_zero.mp z with z | z
    · exact h.nd z
    · exact sgc_ne tW nW z) (fun z => by
    rcases Int.mul_eq_zero.mp z with z | z
    · exact nτ z
    · exact h.n2 z) fun x => by
    have h1 := hW x
    rw [prim_ev tW nW] at h1
    rw [Int.mul_assoc]
    exact h1).1
  refine Nat.le_trans ?_ (bW t)
  have e4 : W.getD t 0 = sgc W * v.getD t 0 := by
    have := prim_eq tW nW
    rw [u1] at this
    rw [this, getD_map_mul, ← this]
  rw [e4, Int.natAbs_mul]
  have h5 : 1 ≤ (sgc W).natAbs := by
    have := sgc_ne tW nW
    omega
  exact Nat.le_mul_of_pos_left _ h5
end PA

set_option linter.all false
/-! The runs exist. -/
namespace PA
theorem log2_lt {n k : Nat} (h : n < 2 ^ k) (hk : 0 < k) : n.log2 < k := by
  by_cases hn : n = 0
  · subst hn
    rw [Nat.log2_zero]
    exact hk
  · exact (Nat.log2_lt hn).mpr h
theorem fm_of {i j : Int} (hi : i.natAbs < 2 ^ 9000) (hj : j.natAbs < 2 ^ 9000) : Fm i j := by
  have h1 := log2_lt hi (by decide)
  have h2 := log2_lt hj (by decide)
  unfold Fm
  omega
theorem mulP_abs {H p : Pl} {X : Nat} (h : ∀ t, (p.getD t 0).natAbs ≤ X) (t : Nat) : ((mulP H p).getD t 0).natAbs ≤ n1 H * X := by
  have e : (mulP H p).getD t 0 = (mulL p H).getD t 0 := by
    rw [mulP_comm, mulP, trim_get]
  rw [e, mulL_coef]
  have h1 := sm_abs (f := fun i => if i ≤ t then p.getD i 0 * H.getD (t - i) 0 else 0) (g := fun i => (if i ≤ t then H.getD (t - i) 0 else 0).natAbs) (X := X) (n := p.length) (fun i _ => by
    by_cases h2 : i ≤ t
    · rw [if_pos h2, if_pos h2, Int.natAbs_mul]
      exact Nat.mul_le_mul_right _ (h i)
    · rw [if_neg h2]
      exact Nat.zero_le _)
  have h2 := conv_n1 H t p.length
  have h3 := Nat.mul_le_mul_left X h2
  rw [Nat.mul_comm (n1 H)]
  omega
theorem stepRaw_abs {l v : Pl} {X Y : Nat} (hl : ∀ t, (l.getD t 0).natAbs ≤ X) (hv : ∀ t, (v.getD t 0).natAbs ≤ Y) (t : Nat) : ((stepRaw l v).getD t 0).natAbs ≤ 2 * (X * Y) := by
  rw [stepRaw_get]
  have h1 : (lastP v * l.getD t 0).natAbs ≤ X * Y := by
    rw [Int.natAbs_mul, Nat.mul_comm X]
    exact Nat.mul_le_mul (hv _) (hl t)
  have h2 : ∀ s, (-lastP l * v.getD s 0).natAbs ≤ X * Y := fun s => by
    rw [Int.natAbs_mul, Int.natAbs_neg]
    exact Nat.mul_le_mul (hl _) (hv s)
  split
  · have := h2 (t - (l.length - v.length))
    omega
  · omega
theorem cont_le {p : Pl} (hp : Tr p) {M : Nat} (h : ∀ t, (p.getD t 0).natAbs ≤ M) : (contP p).natAbs ≤ M := by
  by_cases np : p = []
  · subst np
    exact Nat.zero_le _
  · have h1 := cont_dvd_getD p (p.length - 1)
    have h2 := last_ne hp np
    have h3 := h (p.length - 1)
    have h4 := Int.natAbs_dvd_natAbs.mpr h1
    have h5 : 0 < (p.getD (p.length - 1) 0).natAbs := by
      unfold lastP at h2
      omega
    have := Nat.le_of_dvd h5 h4
    omega
theorem prim_abs {p : Pl} (hp : Tr p) {M : Nat} (h : ∀ t, (p.getD t 0).natAbs ≤ M) (t : Nat) : ((primP p).getD t 0).natAbs ≤ M := by
  by_cases np : p = []
  · subst np
    exact Nat.zero_le _
  · have h1 := h t
    rw [prim_eq hp np, getD_map_mul, Int.natAbs_mul] at h1
    have h2 := sgc_ne hp np
    have h3 : 1 ≤ (sgc p).natAbs := by omega
    exact Nat.le_trans (Nat.le_mul_of_pos_left _ h3) h1
theorem stepRaw_len {l v : Pl} (hl : l ≠ []) (hvl : v.length ≤ l.length) (hv : v ≠ []) : (stepRaw l v).length + 1 ≤ l.length := by
  have h0 := List.length_pos_iff.mpr hl
  have h1 := List.length_pos_iff.mpr hv
  have : (stepRaw l v).length ≤ l.length - 1 := len_le (tr_stepRaw _ _) _ fun t ht => by
    rw [stepRaw_get, if_pos (by omega)]
    by_cases h : t = l.length - 1
    · subst h
      rw [show l.length - 1 - (l.length - v.length) = v.length - 1 by omega]
      show lastP v * lastP l + -lastP l * lastP v = 0
      grind
    · rw [far (by omega), far (p := v) (by omega)]
      simp
  omega
def Pz (p : Pl) : Prop := p = [] ∨ Prm p
theorem Pz.tr {p : Pl} (h : Pz p) : Tr p := by
  rcases h with h | h
  · subst h
    rfl
  · exact h.tr
theorem pz_prim {p : Pl} (h : Tr p) : Pz (primP p) := by
  by_cases np : p = []
  · subst np
    exact .inl rfl
  · exact .inr (prim_prm h np)
theorem prim_ev0 {p : Pl} (hp : Tr p) : ∃ s : Int, s ≠ 0 ∧ ∀ x, ev p x = s * ev (primP p) x := by
  by_cases np : p = []
  · subst np
    exact ⟨1, by decide, fun x => by simp [primP, contP, ev]⟩
  · exact ⟨sgc p, sgc_ne hp np, prim_ev hp np⟩
theorem mulP_len' {H p : Pl} (hH : Prm H) (hp : Pz p) : p = [] ∧ (mulP H p).length = 0 ∨ p ≠ [] ∧ (mulP H p).length + 1 = H.length + p.length := by
  rcases hp with h | h
  · subst h
    exact .inl ⟨rfl, by rw [mulP_nil]; rfl⟩
  · exact .inr ⟨h.ne, mulP_len hH.tr h.tr hH.ne h.ne⟩
theorem stepP_mul {H l v : Pl} (hH : Prm H) (hl : Prm l) (hv : Prm v) : stepP (mulP H l) (mulP H v) = mulP H (stepP l v) := by
  have l1 := mulP_len hH.tr hl.tr hH.ne hl.ne
  have l2 := mulP_len hH.tr hv.tr hH.ne hv.ne
  have h1 := List.length_pos_iff.mpr hH.ne
  have e : ∀ x, ev (stepRaw (mulP H l) (mulP H v)) x = lastP H * (ev H x * ev (stepRaw l v) x) := fun x => by
    rw [ev_stepRaw, ev_stepRaw, mulP_last hH.tr hl.tr hH.ne hl.ne, mulP_last hH.tr hv.tr hH.ne hv.ne, ev_mulP, ev_mulP, show (mulP H l).length - (mulP H v).length = l.length - v.length by omega]
    grind
  unfold stepP
  by_cases nr : stepRaw l v = []
  · have : stepRaw (mulP H l) (mulP H v) = [] := ev_eq (tr_stepRaw _ _) tr_nil fun x => by
      rw [e, nr]
      simp [ev]
    rw [this, nr, prim_nil, mulP_nil]
  · refine prim_of (tr_stepRaw _ _) (prm_mul hH (prim_prm (tr_stepRaw _ _) nr)) (c := lastP H * sgc (stepRaw l v)) (fun z => ?_) fun x => ?_
    · rcases Int.mul_eq_zero.mp z with z | z
      · have := hH.l
        omega
      · exact sgc_ne (tr_stepRaw _ _) nr z
    · rw [e, ev_mulP, prim_ev (tr_stepRaw l v) nr]
      grind
theorem rem_ex {H v : Pl} {Y : Nat} (hH : Prm H) (hv : Prm v) (hY : ∀ t, (v.getD t 0).natAbs ≤ Y) (lH : H.length ≤ 100) (lv : v.length ≤ 100) :
    ∀ (k : Nat) (l : Pl) (X : Nat), Pz l → l.length ≤ 100 → l.length + 1 ≤ v.length + k → (∀ t, (l.getD t 0).natAbs ≤ X) → 2 * (n1 H * X * (n1 H * Y)) * (2 * Y) ^ (k - 1) < 2 ^ 9000 →
      ∃ (n : Nat) (r q : Pl) (a b : Int), RemRun (mulP H v) n (mulP H l) (mulP H r) ∧ Pz r ∧ r.length < v.length ∧ Rm l v r q a b ∧ q.length ≤ l.length + 1 - v.length ∧ (v.length ≤ l.length → q.length + v.length = l.length + 1)
  | k, l, X, hl, ll, hk, hX, hN => by
    have lHv := mulP_len hH.tr hv.tr hH.ne hv.ne
    have lHl := mulP_len' hH hl
    have pv := List.length_pos_iff.mpr hv.ne
    have pH := List.length_pos_iff.mpr hH.ne
    by_cases hlt : l.length < v.length
    · refine ⟨0, l, [], 1, 1, .stop _ ?_, hl, hlt, ⟨by decide, by decide, tr_nil, fun x => by simp [ev]⟩, Nat.zero_le _, fun h => by omega⟩
      rcases lHl with h | h <;> omega
    · have nl : l ≠ [] := fun z => by
        subst z
        simp only [List.length_nil] at hlt
        omega
      have pl : Prm l := hl.resolve_left nl
      have ls := stepRaw_len nl (by omega) hv.ne
      have tl : Tr (stepRaw l v) := tr_stepRaw l v
      obtain ⟨s, hs, es⟩ := prim_ev0 tl
      have lp : (primP (stepRaw l v)).length ≤ (stepRaw l v).length := by
        unfold primP
        split
        · exact Nat.zero_le _
        · rw [List.length_map]
          exact Nat.le_refl _
      obtain ⟨k, rfl⟩ : ∃ j, k = j + 1 := ⟨k - 1, by omega⟩
      have hY1 : 1 ≤ Y := by
        have := hY (v.length - 1)
        have := last_ne hv.tr hv.ne
        unfold lastP at this
        omega
      have hP : 1 ≤ (2 * Y) ^ k := Nat.pow_pos (by omega)
      have hM : 2 * (n1 H * X * (n1 H * Y)) < 2 ^ 9000 := by
        refine Nat.lt_of_le_of_lt ?_ hN
        exact Nat.le_mul_of_pos_right _ hP
      have hn1 : 1 ≤ n1 H := by
        have := coef_le H (H.length - 1)
        have h2 := hH.l
        unfold lastP at h2
        omega
      have hX1 : 1 ≤ X := by
        have := hX (l.length - 1)
        have := last_ne pl.tr nl
        unfold lastP at this
        omega
      have a1 : n1 H * X ≤ n1 H * X * (n1 H * Y) := Nat.le_mul_of_pos_right _ (Nat.mul_pos hn1 hY1)
      have a2 : n1 H * Y ≤ n1 H * X * (n1 H * Y) := Nat.le_mul_of_pos_left _ (Nat.mul_pos hn1 hX1)
      have bl : ∀ t, ((mulP H l).getD t 0).natAbs ≤ n1 H * X := mulP_abs hX
      have bv : ∀ t, ((mulP H v).getD t 0).natAbs ≤ n1 H * Y := mulP_abs hY
      have fits : StepFits (mulP H l) (mulP H v) := by
        refine ⟨fun x hx => ?_, fun x hx => ?_, ?_, ?_, by omega⟩
        · obtain ⟨t, _, e⟩ := mem_getD hx
          have h1 := bl t
          have h2 := bv ((mulP H v).length - 1)
          rw [e] at h1
          exact fm_of (Nat.lt_of_le_of_lt (Nat.le_trans h2 a2) (by omega)) (Nat.lt_of_le_of_lt (Nat.le_trans h1 a1) (by omega))
        · obtain ⟨t, _, e⟩ := mem_getD hx
          have h1 := bv t
          have h2 := bl ((mulP H l).length - 1)
          rw [e] at h1
          refine fm_of ?_ (Nat.lt_of_le_of_lt (Nat.le_trans h1 a2) (by omega))
          rw [Int.natAbs_neg]
          exact Nat.lt_of_le_of_lt (Nat.le_trans h2 a1) (by omega)
        · exact Nat.lt_of_le_of_lt (cont_le (tr_stepRaw _ _) (stepRaw_abs bl bv)) hM
        · rcases lHl with h | h <;> omega
      have hN' : 2 * (n1 H * (2 * (X * Y)) * (n1 H * Y)) * (2 * Y) ^ (k - 1) < 2 ^ 9000 ∨ k = 0 := by
        by_cases hk0 : k = 0
        · exact .inr hk0
        · left
          refine Nat.lt_of_le_of_lt (Nat.le_of_eq ?_) hN
          obtain ⟨j, rfl⟩ : ∃ j, k = j + 1 := ⟨k - 1, by omega⟩
          rw [show j + 1 - 1 = j by omega, show j + 1 + 1 - 1 = j + 1 by omega, Nat.pow_succ]
          generalize (2 * Y) ^ j = P
          generalize n1 H = h
          ac_rfl
      have fin : ∀ (n : Nat) (r q : Pl) (a b : Int), RemRun (mulP H v) n (mulP H (primP (stepRaw l v))) (mulP H r) → Pz r → r.length < v.length → Rm (primP (stepRaw l v)) v r q a b → q.length ≤ (primP (stepRaw l v)).length + 1 - v.length → ∃ (n : Nat) (r q : Pl) (a b : Int), RemRun (mulP H v) n (mulP H l) (mulP H r) ∧ Pz r ∧ r.length < v.length ∧ Rm l v r q a b ∧ q.length ≤ l.length + 1 - v.length ∧ (v.length ≤ l.length → q.length + v.length = l.length + 1) := by
        intro n r q a b hr pr lr hm lq
        obtain ⟨ha, hb, tq, hm⟩ := hm
        have g1 : ∀ t, (trim (addL (raiseP [a * lastP l] (l.length - v.length)) (q.map (s * ·)))).getD t 0 = (if l.length - v.length ≤ t then ([a * lastP l] : Pl).getD (t - (l.length - v.length)) 0 else 0) + s * q.getD t 0 := fun t => by
          rw [trim_get, addL_get, raise_get, getD_map_mul]
        have lnz := last_ne pl.tr nl
        have lQ : (trim (addL (raiseP [a * lastP l] (l.length - v.length)) (q.map (s * ·)))).length = l.length - v.length + 1 := by
          refine Nat.le_antisymm (len_le (tr_trim _) _ fun t ht => ?_) ?_
          · rw [g1, if_pos (by omega), far (p := q) (by omega), far (p := [a * lastP l]) (by simp only [List.length_cons, List.length_nil]; omega)]
            simp
          · by_cases hh : l.length - v.length + 1 ≤ (trim (addL (raiseP [a * lastP l] (l.length - v.length)) (q.map (s * ·)))).length
            · exact hh
            · exfalso
              have z := g1 (l.length - v.length)
              rw [far (by omega), if_pos (by omega), far (p := q) (by omega), Nat.sub_self] at z
              simp only [List.getD_cons_zero, Int.mul_zero, Int.add_zero] at z
              rcases Int.mul_eq_zero.mp z.symm with z | z
              · exact ha z
              · exact lnz z
        refine ⟨n + 1, r, trim (addL (raiseP [a * lastP l] (l.length - v.length)) (q.map (s * ·))), a * lastP v, s * b, .step n _ _ ?_ fits ?_, pr, lr, ⟨?_, ?_, tr_trim _, fun x => ?_⟩, by omega, fun _ => by omega⟩
        · rcases lHl with h | h
          · exact absurd h.1 nl
          · omega
        · rw [stepP_mul hH pl hv]
          exact hr
        · intro z
          rcases Int.mul_eq_zero.mp z with z | z
          · exact ha z
          · exact last_ne hv.tr hv.ne z
        · intro z
          rcases Int.mul_eq_zero.mp z with z | z
          · exact hs z
          · exact hb z
        · rw [ev_trim, ev_addL, ev_raiseP, ev_smul]
          have h1 := ev_stepRaw l v x
          have h2 := es x
          have h3 := hm x
          simp only [ev]
          generalize x ^ (l.length - v.length) = X at *
          grind
      rcases hN' with hN' | hk0
      · obtain ⟨n, r, q, a, b, h1, h2, h3, h4, h5, _⟩ := rem_ex hH hv hY lH lv k (primP (stepRaw l v)) (2 * (X * Y)) (pz_prim tl) (by omega) (by omega) (prim_abs tl (stepRaw_abs hX hY)) hN'
        exact fin n r q a b h1 h2 h3 h4 h5
      · have hsl : (primP (stepRaw l v)).length < v.length := by omega
        refine fin 0 (primP (stepRaw l v)) [] 1 1 (.stop _ ?_) (pz_prim tl) hsl ⟨by decide, by decide, tr_nil, fun x => by simp [ev]⟩ (Nat.zero_le _)
        rcases mulP_len' hH (pz_prim tl) with h | h <;> omega
termination_by k => k
end PA

set_option linter.all false
/-! The common factor of H f and H g. -/
namespace PA
theorem num_ok : ∀ S L : Nat, S < 42 → 2 * L ≤ S → 1 + (32 + 33 * (S - 2 * L + 1) + (32 + 33 * (S + 2 - 2 * L))) + (1 + 33 * (S + 2 - 2 * L)) * (L - 1 + 1 - 1) < 9000 := by
  intro S L h1 h2
  have hb : 1 + (32 + 33 * (S - 2 * L + 1) + (32 + 33 * (S + 2 - 2 * L))) + (1 + 33 * (S + 2 - 2 * L)) * (L - 1 + 1 - 1) ≤ 1 + (32 + 33 * (41 - 2 * L + 1) + (32 + 33 * (41 + 2 - 2 * L))) + (1 + 33 * (41 + 2 - 2 * L)) * (L - 1 + 1 - 1) := by
    have : (1 + 33 * (S + 2 - 2 * L)) * (L - 1 + 1 - 1) ≤ (1 + 33 * (41 + 2 - 2 * L)) * (L - 1 + 1 - 1) := Nat.mul_le_mul_right _ (by omega)
    omega
  refine Nat.lt_of_le_of_lt hb ?_
  have key : ∀ L, L < 21 → 1 + (32 + 33 * (41 - 2 * L + 1) + (32 + 33 * (41 + 2 - 2 * L))) + (1 + 33 * (41 + 2 - 2 * L)) * (L - 1 + 1 - 1) < 9000 := by decide
  exact key L (by omega)
theorem pow_bits {B N : Nat} (h : B ≤ 2 ^ 33) : B ^ N ≤ 2 ^ (33 * N) := by
  rw [Nat.pow_mul]
  exact Nat.pow_le_pow_left h N
theorem fit_bits {h X Y k a b : Nat} (hh : h ≤ 2 ^ 32) (hX : X ≤ 2 ^ a) (hY : Y ≤ 2 ^ b) (hn : 1 + (32 + a + (32 + b)) + (1 + b) * k < 9000) : 2 * (h * X * (h * Y)) * (2 * Y) ^ k < 2 ^ 9000 := by
  have h1 : h * X ≤ 2 ^ (32 + a) := by
    rw [Nat.pow_add]
    exact Nat.mul_le_mul hh hX
  have h2 : h * Y ≤ 2 ^ (32 + b) := by
    rw [Nat.pow_add]
    exact Nat.mul_le_mul hh hY
  have h3 : 2 * (h * X * (h * Y)) ≤ 2 ^ (1 + (32 + a + (32 + b))) := by
    rw [Nat.pow_add 2 1, Nat.pow_add 2 (32 + a)]
    exact Nat.mul_le_mul (Nat.le_refl _) (Nat.mul_le_mul h1 h2)
  have h4 : (2 * Y) ^ k ≤ 2 ^ ((1 + b) * k) := by
    rw [Nat.pow_mul]
    refine Nat.pow_le_pow_left ?_ k
    rw [Nat.pow_add]
    exact Nat.mul_le_mul (Nat.le_refl _) hY
  refine Nat.lt_of_le_of_lt (Nat.mul_le_mul h3 h4) ?_
  rw [← Nat.pow_add]
  exact Nat.pow_lt_pow_right (by decide) hn
structure GcdOf (H f g : Pl) (n : Nat) (h : Pl) : Prop where
  p : Prm h
  r : GcdRun n (mulP H f) (mulP H g) (mulP H h)
  b : ∃ U V c, c ≠ 0 ∧ ∀ x, c * ev h x = ev U x * ev f x + ev V x * ev g x
  d1 : Dv h f
  d2 : Dv h g
  s : ∀ t, (h.getD t 0).natAbs ≤ 2 ^ 1400
theorem prim_fits {p : Pl} (h : Prm p) (l : p.length ≤ 1000) : PrimFits p := ⟨by rw [h.c]; exact Nat.one_lt_two_pow (show (9000 : Nat) ≠ 0 by decide), l⟩
theorem gcd_ex {H f g : Pl} (hH : Prm H) (hf : Prm f) (hg : Prm g) (bH : n1 H ≤ 2 ^ 32) (bB : n1 f + n1 g ≤ 2 ^ 33) (lS : f.length + g.length ≤ 41) (lH : H.length ≤ 100) :
    ∀ (m : Nat) (u v : Pl), v.length ≤ m → Inv f g u v → Prm u → Pz v → v.length < u.length → u.length ≤ f.length → u.length ≤ g.length → (∀ t, (u.getD t 0).natAbs ≤ 2 ^ (33 * (f.length + g.length - 2 * u.length + 1))) →
      ∃ n h, Prm h ∧ GcdRun n (mulP H u) (mulP H v) (mulP H h) ∧ (∃ U V c, c ≠ 0 ∧ ∀ x, c * ev h x = ev U x * ev f x + ev V x * ev g x) ∧ Dv h f ∧ Dv h g ∧ ∀ t, (h.getD t 0).natAbs ≤ 2 ^ 1400 := by
  intro m
  induction m with
  | zero =>
    intro u v lv hi hu hv _ _ _ bu
    have : v = [] := List.eq_nil_of_length_eq_zero (by omega)
    subst this
    obtain ⟨h1, h2, h3⟩ := inv_end hi hu hf.tr hg.tr
    refine ⟨0, u, hu, ?_, h1, h2, h3, fun t => Nat.le_trans (bu t) (Nat.pow_le_pow_right (by decide) (by omega))⟩
    rw [mulP_nil]
    exact .stop _
  | succ m ih =>
    intro u v lv hi hu hv luv luf lug bu
    rcases hv with hv | hv
    · subst hv
      exact ih u [] (Nat.zero_le _) hi hu (.inl rfl) luv luf lug bu
    · have hB1 : 1 ≤ n1 f + n1 g := by
        have := coef_le f (f.length - 1)
        have h2 := hf.l
        unfold lastP at h2
        omega
      have bv : ∀ t, (v.getD t 0).natAbs ≤ 2 ^ (33 * (f.length + g.length + 2 - 2 * u.length)) := fun t => Nat.le_trans (inv_bound hi hf hg hv luv luf lug hB1 t) (pow_bits bB)
      have pv := List.length_pos_iff.mpr hv.ne
      have num := num_ok (f.length + g.length) u.length (by omega) (by omega)
      obtain ⟨n, r, q, a, b, h1, h2, h3, h4, h5, h6⟩ := rem_ex hH hv bv lH (by omega) u.length u _ (.inr hu) (by omega) (by omega) bu (fit_bits bH (Nat.le_refl _) (Nat.le_refl _) (by
        rw [show u.length - 1 + 1 - 1 = u.length - 1 by omega] at num
        exact num))
      have hi2 := inv_step hi h4 (h6 (by omega)) (by omega) h3
      have bv2 : ∀ t, (v.getD t 0).natAbs ≤ 2 ^ (33 * (f.length + g.length - 2 * v.length + 1)) := fun t => Nat.le_trans (bv t) (Nat.pow_le_pow_right (by decide) (by omega))
      obtain ⟨n2, h, g1, g2, g3⟩ := ih v r (by omega) hi2 hv h2 h3 (by omega) (by omega) bv2
      refine ⟨n2 + 1, h, g1, .step n2 n _ _ (mulP H r) _ (mulP_ne hH.tr hv.tr hH.ne hv.ne) (prim_fits (prm_mul hH hu) ?_) ?_ g2, g3⟩
      · have := mulP_len hH.tr hu.tr hH.ne hu.ne
        omega
      · rw [prim_self (prm_mul hH hu)]
        exact h1
theorem coef_bits {p : Pl} {b : Nat} (h : n1 p ≤ 2 ^ b) (t : Nat) : (p.getD t 0).natAbs ≤ 2 ^ b := Nat.le_trans (coef_le p t) h
theorem gcd_run1 {H f g : Pl} (hH : Prm H) (hf : Prm f) (hg : Prm g) (bH : n1 H ≤ 2 ^ 32) (bB : n1 f + n1 g ≤ 2 ^ 33) (lS : f.length + g.length ≤ 41) (lH : H.length ≤ 100) (hl : g.length ≤ f.length) : ∃ n h, GcdOf H f g n h := by
  have pg := List.length_pos_iff.mpr hg.ne
  obtain ⟨n, r, q, a, b, h1, h2, h3, h4, h5, h6⟩ := rem_ex hH hg (Y := 2 ^ 33) (coef_bits (by omega)) lH (by omega) 41 f (2 ^ 33) (.inr hf) (by omega) (by omega) (coef_bits (by omega)) (fit_bits bH (Nat.le_refl _) (Nat.le_refl _) (by decide))
  have hi := inv_step (inv_start f g) h4 (h6 hl) hl h3
  obtain ⟨n2, h, g1, g2, g3, g4, g5, g6⟩ := gcd_ex hH hf hg bH bB lS lH r.length g r (Nat.le_refl _) hi hg h2 h3 hl (Nat.le_refl _) (fun t => Nat.le_trans (coef_bits (b := 33) (by omega) t) (Nat.pow_le_pow_right (by decide) (by omega)))
  refine ⟨n2 + 1, h, g1, .step n2 n _ _ (mulP H r) _ (mulP_ne hH.tr hg.tr hH.ne hg.ne) (prim_fits (prm_mul hH hf) ?_) ?_ g2, g3, g4, g5, g6⟩
  · have := mulP_len hH.tr hf.tr hH.ne hf.ne
    omega
  · rw [prim_self (prm_mul hH hf)]
    exact h1
theorem gcd_run {H f g : Pl} (hH : Prm H) (hf : Prm f) (hg : Prm g) (bH : n1 H ≤ 2 ^ 32) (bB : n1 f + n1 g ≤ 2 ^ 33) (lS : f.length + g.length ≤ 41) (lH : H.length ≤ 100) : ∃ n h, GcdOf H f g n h := by
  by_cases hl : g.length ≤ f.length
  · exact gcd_run1 hH hf hg bH bB lS lH hl
  · obtain ⟨n, h, g1, g2, ⟨U, V, c, hc, g3⟩, g4, g5, g6⟩ := gcd_run1 hH hg hf bH (by omega) (by omega) lH (by omega)
    have lf := mulP_len hH.tr hf.tr hH.ne hf.ne
    have lg := mulP_len hH.tr hg.tr hH.ne hg.ne
    refine ⟨n + 1, h, g1, .step n 0 _ _ (mulP H f) _ (mulP_ne hH.tr hg.tr hH.ne hg.ne) (prim_fits (prm_mul hH hf) (by omega)) ?_ g2, ⟨V, U, c, hc, fun x => by rw [g3]; omega⟩, g5, g4, g6⟩
    rw [prim_self (prm_mul hH hf)]
    exact .stop _ (by omega)
end PA

set_option linter.all false
/-! Division without rest. -/
namespace PA
theorem ev_congr {p q : Pl} (h : ∀ t, p.getD t 0 = q.getD t 0) (x : Int) : ev p x = ev q x := by
  rw [← ev_trim p, ← ev_trim q, trim_ext h]
theorem getD_set (p : Pl) (i t : Nat) (v : Int) : (p.set i v).getD t 0 = if i = t ∧ t < p.length then v else p.getD t 0 := by
  rw [List.getD_eq_getElem?_getD, List.getElem?_set]
  by_cases h : i = t
  · subst h
    by_cases h2 : i < p.length
    · rw [if_pos rfl, if_pos h2, if_pos ⟨rfl, h2⟩]
      rfl
    · rw [if_pos rfl, if_neg h2, if_neg (fun z => h2 z.2), far (by omega)]
      rfl
  · rw [if_neg h, if_neg (fun z => h z.1), List.getD_eq_getElem?_getD]
theorem getD_rep (n t : Nat) : (List.replicate n (0 : Int)).getD t 0 = 0 := by
  rw [List.getD_eq_getElem?_getD, List.getElem?_replicate]
  split <;> rfl
theorem ev_subAt (left two : Pl) (n : Nat) (c : Int) (h : n + two.length ≤ left.length) (x : Int) : ev (subAt left two n c) x = ev left x - c * (x ^ n * ev two x) := by
  have : ev (subAt left two n c) x = ev (addL left ((raiseP two n).map (-c * ·))) x := ev_congr (fun t => by
    rw [subAt_get, addL_get, getD_map_mul, raise_get]
    by_cases h1 : n ≤ t
    · by_cases h2 : t < n + two.length
      · rw [if_pos ⟨h1, h2, by omega⟩, if_pos h1]
        grind
      · rw [if_neg (fun z => h2 z.2.1), if_pos h1, far (p := two) (by omega)]
        simp
    · rw [if_neg (fun z => h1 z.1), if_neg h1]
      simp) x
  rw [this, ev_addL, ev_smul, ev_raiseP]
  grind
theorem ev_set (out : Pl) (n : Nat) (c : Int) (h : n < out.length) (x : Int) : ev (out.set n c) x = ev out x + (c - out.getD n 0) * x ^ n := by
  have : ev (out.set n c) x = ev (addL out (raiseP [c - out.getD n 0] n)) x := ev_congr (fun t => by
    rw [getD_set, addL_get, raise_get]
    by_cases h1 : n = t
    · subst h1
      rw [if_pos ⟨rfl, h⟩, if_pos (Nat.le_refl _), Nat.sub_self]
      simp only [List.getD_cons_zero]
      omega
    · rw [if_neg (fun z => h1 z.1)]
      by_cases h2 : n ≤ t
      · rw [if_pos h2, far (p := [c - out.getD n 0]) (by simp only [List.length_cons, List.length_nil]; omega)]
        omega
      · rw [if_neg h2]
        omega) x
  rw [this, ev_addL, ev_raiseP]
  simp only [ev]
  grind
/-- the runs exist, and what they tell is so -/
theorem div_ex {two : Pl} {T : Nat} (h2 : lastP two ≠ 0) (hT : ∀ t, (two.getD t 0).natAbs ≤ T) (hT9 : T < 2 ^ 9000) : ∀ (n : Nat) (left out : Pl) (M : Nat), n + two.length ≤ left.length + 1 → n ≤ out.length → (∀ t, t < n → out.getD t 0 = 0) → (∀ t, (left.getD t 0).natAbs ≤ M) → M * (1 + T) ^ n < 2 ^ 9000 →
    ∃ res, DivRun two n left out res ∧ ∀ l o, res = some (l, o) → ∀ x, ev left x = ev l x + (ev o x - ev out x) * ev two x
  | 0, left, out, M, _, _, _, _, _ => ⟨_, .done left out, fun l o e x => by
      cases e
      grind⟩
  | n + 1, left, out, M, hl, ho, hz, hM, hB => by
    generalize hc : (left.getD (n + two.length - 1) 0).fdiv (lastP two) = c
    by_cases hd : (left.getD (n + two.length - 1) 0).fmod (lastP two) = 0
    · have pt : 0 < two.length := by
        by_cases h : two = []
        · subst h
          exact absurd rfl h2
        · exact List.length_pos_iff.mpr h
      have ec : left.getD (n + two.length - 1) 0 = lastP two * c := by
        rw [← hc]
        exact (Int.mul_fdiv_cancel' (Int.dvd_of_fmod_eq_zero hd)).symm
      have hcM : c.natAbs ≤ M := by
        have h1 := hM (n + two.length - 1)
        rw [ec, Int.natAbs_mul] at h1
        exact Nat.le_trans (Nat.le_mul_of_pos_left _ (by omega)) h1
      have hP : 1 ≤ (1 + T) ^ (n + 1) := Nat.pow_pos (by omega)
      have hM9 : M < 2 ^ 9000 := Nat.lt_of_le_of_lt (Nat.le_mul_of_pos_right _ hP) hB
      obtain ⟨res, h3, h4⟩ := div_ex h2 hT hT9 n (subAt left two n c) (out.set n c) (M * (1 + T)) (by rw [subAt_len]; omega) (by rw [List.length_set]; omega) (fun t ht => by
        rw [getD_set, if_neg (by omega)]
        exact hz t (by omega)) (fun t => by
        rw [subAt_get]
        have h5 := hM t
        split
        · have h6 : (c * two.getD (t - n) 0).natAbs ≤ M * T := by
            rw [Int.natAbs_mul]
            exact Nat.mul_le_mul hcM (hT _)
          rw [Nat.mul_add, Nat.mul_one]
          omega
        · exact Nat.le_trans h5 (Nat.le_mul_of_pos_right _ (by omega))) (by
        rw [Nat.mul_assoc, Nat.mul_comm (1 + T), ← Nat.pow_succ]
        exact hB)
      refine ⟨res, .step n left out res hd (fun x hx => ?_) (by rw [hc]; exact h3), fun l o e x => ?_⟩
      · obtain ⟨t, _, e⟩ := mem_getD hx
        have := hT t
        rw [e] at this
        rw [hc]
        exact fm_of (by omega) (by omega)
      · have h5 := h4 l o e x
        rw [ev_subAt _ _ _ _ (by omega), ev_set _ _ _ (by omega), hz n (by omega)] at h5
        grind
    · exact ⟨none, .none n left out hd, fun l o e => by cases e⟩
theorem zeros_ev {l : Pl} (h : ∀ x ∈ l, x = 0) (x : Int) : ev l x = 0 := ev_all_zero (fun t => by
  by_cases ht : t < l.length
  · exact h _ (getD_mem' ht)
  · exact far (by omega)) x
theorem divs_ex {one two : Pl} {M T : Nat} (h2 : lastP two ≠ 0) (hT : ∀ t, (two.getD t 0).natAbs ≤ T) (hM : ∀ t, (one.getD t 0).natAbs ≤ M) (hT9 : T < 2 ^ 9000) (l1 : one.length ≤ 1000) (l2 : two.length ≤ 1000) (hB : M * (1 + T) ^ (one.length + 1 - two.length) < 2 ^ 9000) :
    ∃ o, Divs one two o ∧ ∀ q, o = some q → ∀ x, ev one x = ev q x * ev two x := by
  have pt : 0 < two.length := by
    by_cases h : two = []
    · subst h
      exact absurd rfl h2
    · exact List.length_pos_iff.mpr h
  have lf : LeadFits two := ⟨h2, Nat.lt_of_le_of_lt (hT _) hT9⟩
  by_cases hlt : one.length + 1 < two.length
  · have e0 : one.length + 1 - two.length = 0 := by omega
    by_cases hz : ∀ x ∈ one, x = 0
    · refine ⟨some [], .yes one [] lf l1 l2 (by rw [e0]; exact .done _ _) hz, fun q e x => ?_⟩
      cases e
      rw [zeros_ev hz]
      simp [ev]
    · have : ∃ x ∈ one, x ≠ 0 := by
        by_cases h : ∃ x ∈ one, x ≠ 0
        · exact h
        · exfalso
          apply hz
          intro x hx
          by_cases h0 : x = 0
          · exact h0
          · exact absurd ⟨x, hx, h0⟩ h
      exact ⟨none, .rest one [] lf l1 l2 (by rw [e0]; exact .done _ _) this, fun q e => by cases e⟩
  · obtain ⟨res, h3, h4⟩ := div_ex h2 hT hT9 (one.length + 1 - two.length) one (List.replicate (one.length + 1 - two.length) 0) M (by omega) (by rw [List.length_replicate]; exact Nat.le_refl _) (fun t _ => getD_rep _ _) hM hB
    match res, h3, h4 with
    | none, h3, _ => exact ⟨none, .no lf l1 l2 h3, fun q e => by cases e⟩
    | some (l, o), h3, h4 =>
      by_cases hz : ∀ x ∈ l, x = 0
      · refine ⟨some o, .yes l o lf l1 l2 h3 hz, fun q e x => ?_⟩
        cases e
        have := h4 l o rfl x
        rw [zeros_ev hz, ev_all_zero (p := List.replicate _ 0) (fun t => getD_rep _ _)] at this
        rw [this]
        grind
      · have : ∃ x ∈ l, x ≠ 0 := by
          by_cases h : ∃ x ∈ l, x ≠ 0
          · exact h
          · exfalso
            apply hz
            intro x hx
            by_cases h0 : x = 0
            · exact h0
            · exact absurd ⟨x, hx, h0⟩ h
        exact ⟨none, .rest l o lf l1 l2 h3 this, fun q e => by cases e⟩
theorem mulL_take (q two : Pl) (n t : Nat) (h : n < q.length) : (mulL (q.take (n + 1)) two).getD t 0 = (mulL (q.take n) two).getD t 0 + if n ≤ t ∧ t < n + two.length then q.getD n 0 * two.getD (t - n) 0 else 0 := mulL_row q two n t h
/-- the run where the quotient is known -/
theorem div_run {q two : Pl} (h2 : lastP two ≠ 0) (hf : ∀ x ∈ q, ∀ y ∈ two, Fm x y) : ∀ (n : Nat) (left : Pl), n ≤ q.length → n + two.length ≤ left.length + 1 → (∀ t, left.getD t 0 = (mulL (q.take n) two).getD t 0) →
    ∃ l, DivRun two n left (List.replicate n 0 ++ q.drop n) (some (l, q)) ∧ ∀ x ∈ l, x = 0
  | 0, left, _, _, hl => ⟨left, .done left _, fun x hx => by
      obtain ⟨t, _, e⟩ := mem_getD hx
      rw [← e, hl]
      rfl⟩
  | n + 1, left, hn, hle, hl => by
    have pt : 0 < two.length := by
      by_cases h : two = []
      · subst h
        exact absurd rfl h2
      · exact List.length_pos_iff.mpr h
    have et : left.getD (n + two.length - 1) 0 = q.getD n 0 * lastP two := by
      rw [hl, mulL_take _ _ _ _ (by omega), mulL_far _ _ _ (by rw [List.length_take]; omega), if_pos ⟨by omega, by omega⟩, show n + two.length - 1 - n = two.length - 1 by omega]
      show 0 + q.getD n 0 * lastP two = _
      rw [Int.zero_add]
    have ed : (left.getD (n + two.length - 1) 0).fdiv (lastP two) = q.getD n 0 := by
      rw [et]
      exact Int.mul_fdiv_cancel _ h2
    have em : (left.getD (n + two.length - 1) 0).fmod (lastP two) = 0 := by
      rw [et]
      exact Int.mul_fmod_left ..
    obtain ⟨l, h3, h4⟩ := div_run h2 hf n (subAt left two n (q.getD n 0)) (by omega) (by rw [subAt_len]; omega) (fun t => by
      rw [subAt_get, hl t, mulL_take _ _ _ _ (by omega)]
      by_cases h : n ≤ t ∧ t < n + two.length
      · rw [if_pos ⟨h.1, h.2, by omega⟩, if_pos h]
        omega
      · rw [if_neg (fun z => h ⟨z.1, z.2.1⟩), if_neg h]
        omega)
    refine ⟨l, .step n left _ _ em (fun x hx => ?_) ?_, h4⟩
    · rw [ed]
      exact hf _ (getD_mem' (by omega)) x hx
    · rw [ed]
      have e : (List.replicate (n + 1) (0 : Int) ++ q.drop (n + 1)).set n (q.getD n 0) = List.replicate n 0 ++ q.drop n := by
        refine ext_getD (by simp; omega) fun t => ?_
        rw [getD_set]
        have ga : ∀ (m t : Nat), (List.replicate m (0 : Int) ++ q.drop m).getD t 0 = if m ≤ t then q.getD t 0 else 0 := fun m t => by
          rw [List.getD_eq_getElem?_getD]
          by_cases h : m ≤ t
          · rw [List.getElem?_append_right (by simpa using h), List.length_replicate, if_pos h, List.getElem?_drop, show m + (t - m) = t by omega, List.getD_eq_getElem?_getD]
          · rw [List.getElem?_append_left (by simp; omega), if_neg h, List.getElem?_replicate]
            split <;> rfl
        rw [ga, ga]
        by_cases h : n = t
        · subst h
          rw [if_pos ⟨rfl, by simp; omega⟩, if_pos (Nat.le_refl _)]
        · rw [if_neg (fun z => h z.1)]
          by_cases h5 : n ≤ t
          · rw [if_pos h5, if_pos (by omega)]
          · rw [if_neg h5, if_neg (by omega)]
      rw [e]
      exact h3
theorem divs_yes {one two q : Pl} (ho : Tr one) (ht : Tr two) (hq : Tr q) (nt : two ≠ []) (e : ∀ x, ev one x = ev q x * ev two x) (l1 : one.length ≤ 1000) (l2 : two.length ≤ 1000) (sm : (lastP two).natAbs < 2 ^ 9000) (hf : ∀ x ∈ q, ∀ y ∈ two, Fm x y) : Divs one two (some q) := by
  have em : one = mulP q two := ev_eq ho (tr_mulP _ _) fun x => by rw [e, ev_mulP]
  have pt := List.length_pos_iff.mpr nt
  have lf : LeadFits two := ⟨last_ne ht nt, sm⟩
  have lq : one.length + 1 - two.length = q.length := by
    by_cases nq : q = []
    · subst nq
      rw [em]
      show ([] : Pl).length + 1 - two.length = 0
      simp only [List.length_nil]
      omega
    · have := mulP_len hq ht nq nt
      rw [em]
      omega
  have hle : q.length + two.length ≤ one.length + 1 ∨ q = [] := by
    by_cases nq : q = []
    · exact .inr nq
    · have := mulP_len hq ht nq nt
      rw [em]
      omega
  rcases hle with hle | hle
  · obtain ⟨l, h3, h4⟩ := div_run lf.ne hf q.length one (Nat.le_refl _) hle (fun t => by rw [em, mulP, trim_get, List.take_length])
    refine .yes l q lf l1 l2 ?_ h4
    rw [lq]
    rw [List.drop_length, List.append_nil] at h3
    exact h3
  · subst hle
    rw [nil_mulP] at em
    subst em
    refine .yes [] [] lf l1 l2 ?_ (fun x h => nomatch h)
    rw [lq]
    exact .done _ _
end PA

set_option linter.all false
/-! Products of the menu's factors; factors without a common part. -/
namespace PA
def mt (t : Nat) : Pl := menu.getD t []
def dg (t : Nat) : Nat := [1, 1, 1, 1, 2, 2, 2, 3].getD t 0
def nb (t : Nat) : Nat := [1, 2, 3, 5, 2, 3, 3, 3].getD t 0
theorem mt_prm : ∀ t, t < 8 → Prm (mt t) := by
  have h : ∀ t, t < 8 → trim (mt t) = mt t ∧ mt t ≠ [] ∧ contP (mt t) = 1 ∧ 0 < lastP (mt t) := by decide
  intro t ht
  obtain ⟨h1, h2, h3, h4⟩ := h t ht
  exact ⟨h1, h2, h3, h4⟩
theorem mt_len : ∀ t, t < 8 → (mt t).length = dg t + 1 := by decide
theorem mt_n1 : ∀ t, t < 8 → n1 (mt t) = nb t := by decide
theorem nb_pos : ∀ t, t < 8 → 1 ≤ nb t := by decide
def pe (es : List Nat) : Nat → Int → Int
  | 0, _ => 1
  | n + 1, x => pe es n x * ev (mt n) x ^ es.getD n 0
theorem ev_powP (p f : Pl) (x : Int) : ∀ k, ev (powP p f k) x = ev p x * ev f x ^ k
  | 0 => by simp [powP]
  | k + 1 => by
    rw [powP, ev_mulP, ev_powP p f x k, Int.pow_succ]
    grind
theorem ev_built (c : Int) (es : List Nat) (x : Int) : ∀ n, ev (builtP c es n) x = c * pe es n x
  | 0 => by simp [builtP, pe, ev]
  | n + 1 => by
    rw [builtP, ev_powP, ev_built c es x n]
    show c * pe es n x * ev (mt n) x ^ es.getD n 0 = c * (pe es n x * ev (mt n) x ^ es.getD n 0)
    rw [Int.mul_assoc]
theorem pe_add {a b es : List Nat} (x : Int) : ∀ n, (∀ t, t < n → es.getD t 0 = a.getD t 0 + b.getD t 0) → pe es n x = pe a n x * pe b n x
  | 0, _ => by simp [pe]
  | n + 1, h => by
    show pe es n x * ev (mt n) x ^ es.getD n 0 = (pe a n x * ev (mt n) x ^ a.getD n 0) * (pe b n x * ev (mt n) x ^ b.getD n 0)
    rw [pe_add x n fun t ht => h t (by omega), h n (by omega), Int.pow_add]
    grind
theorem tr_powP {p f : Pl} (hp : Tr p) : ∀ k, Tr (powP p f k)
  | 0 => hp
  | k + 1 => tr_mulP _ _
theorem ne_powP {p f : Pl} (hp : Tr p) (np : p ≠ []) (hf : Tr f) (nf : f ≠ []) : ∀ k, powP p f k ≠ []
  | 0 => np
  | k + 1 => mulP_ne (tr_powP hp k) hf (ne_powP hp np hf nf k) nf
theorem prm_powP {p f : Pl} (hp : Prm p) (hf : Prm f) : ∀ k, Prm (powP p f k)
  | 0 => hp
  | k + 1 => prm_mul (prm_powP hp hf k) hf
theorem len_powP {p f : Pl} (hp : Tr p) (np : p ≠ []) (hf : Tr f) (nf : f ≠ []) {d : Nat} (hd : f.length = d + 1) : ∀ k, (powP p f k).length = p.length + k * d
  | 0 => by simp [powP]
  | k + 1 => by
    have h1 := mulP_len (tr_powP (f := f) hp k) hf (ne_powP hp np hf nf k) nf
    rw [len_powP hp np hf nf hd k] at h1
    show (mulP (powP p f k) f).length = _
    rw [Nat.add_mul, Nat.one_mul]
    omega
theorem n1_powP (p f : Pl) : ∀ k, n1 (powP p f k) ≤ n1 p * n1 f ^ k
  | 0 => by simp [powP]
  | k + 1 => by
    have h1 := n1_mulP (powP p f k) f
    have h2 := Nat.mul_le_mul_right (n1 f) (n1_powP p f k)
    rw [Nat.pow_succ, ← Nat.mul_assoc]
    exact Nat.le_trans h1 h2
theorem tr_built {c : Int} (hc : c ≠ 0) (es : List Nat) : ∀ n, n ≤ 8 → Tr (builtP c es n) ∧ builtP c es n ≠ []
  | 0, _ => ⟨tr_of_last (.inr hc), by simp [builtP]⟩
  | n + 1, h => by
    obtain ⟨h1, h2⟩ := tr_built hc es n (by omega)
    have hm := mt_prm n (by omega)
    exact ⟨tr_powP h1 _, ne_powP h1 h2 hm.tr hm.ne _⟩
theorem prm_built (es : List Nat) : ∀ n, n ≤ 8 → Prm (builtP 1 es n)
  | 0, _ => prm_one
  | n + 1, h => prm_powP (prm_built es n (by omega)) (mt_prm n (by omega)) _
def sd (es : List Nat) : Nat → Nat
  | 0 => 0
  | n + 1 => sd es n + es.getD n 0 * dg n
theorem len_built {c : Int} (hc : c ≠ 0) (es : List Nat) : ∀ n, n ≤ 8 → (builtP c es n).length = 1 + sd es n
  | 0, _ => rfl
  | n + 1, h => by
    obtain ⟨h1, h2⟩ := tr_built hc es n (by omega)
    have hm := mt_prm n (by omega)
    have := len_powP h1 h2 hm.tr hm.ne (mt_len n (by omega)) (es.getD n 0)
    rw [len_built hc es n (by omega)] at this
    show (powP (builtP c es n) (mt n) (es.getD n 0)).length = 1 + (sd es n + es.getD n 0 * dg n)
    omega
def wb : Nat → Nat
  | 0 => 1
  | n + 1 => wb n * nb n ^ 3
theorem n1_built (c : Int) (es : List Nat) : ∀ n, n ≤ 8 → (∀ t, es.getD t 0 ≤ 3) → n1 (builtP c es n) ≤ c.natAbs * wb n
  | 0, _, _ => by simp [builtP, n1, wb]
  | n + 1, h, he => by
    have h1 := n1_built c es n (by omega) he
    have h2 := n1_powP (builtP c es n) (mt n) (es.getD n 0)
    rw [mt_n1 n (by omega)] at h2
    have h3 : nb n ^ es.getD n 0 ≤ nb n ^ 3 := Nat.pow_le_pow_right (nb_pos n (by omega)) (he n)
    have h4 := Nat.mul_le_mul h1 h3
    show n1 (powP (builtP c es n) (mt n) (es.getD n 0)) ≤ c.natAbs * (wb n * nb n ^ 3)
    rw [← Nat.mul_assoc]
    omega
theorem sd_le (es : List Nat) (he : ∀ t, es.getD t 0 ≤ 3) : sd es 8 ≤ 39 := by
  have h := fun t => he t
  have h0 := h 0
  have h1 := h 1
  have h2 := h 2
  have h3 := h 3
  have h4 := h 4
  have h5 := h 5
  have h6 := h 6
  have h7 := h 7
  simp only [sd, dg, List.getD_cons_zero, List.getD_cons_succ]
  omega
theorem sd_le_n (es : List Nat) (he : ∀ t, es.getD t 0 ≤ 3) : ∀ n, n ≤ 8 → sd es n ≤ 9 * n
  | 0, _ => Nat.le_refl _
  | n + 1, h => by
    have h1 := sd_le_n es he n (by omega)
    have h2 : ∀ t, t < 8 → dg t ≤ 3 := by decide
    have h3 := Nat.mul_le_mul (he n) (h2 n (by omega))
    show sd es n + es.getD n 0 * dg n ≤ 9 * (n + 1)
    omega
theorem wb_le : ∀ n, n ≤ 8 → wb n ≤ 2 ^ 32 := by
  have : ∀ n, n < 9 → wb n ≤ 2 ^ 32 := by decide
  exact fun n h => this n (by omega)
theorem pow_lt {n a b : Nat} (h : n < 2 ^ a) (hab : a ≤ b) : n < 2 ^ b := Nat.lt_of_lt_of_le h (Nat.pow_le_pow_right (by decide) hab)
theorem mem_n1 {p : Pl} {x : Int} (h : x ∈ p) : x.natAbs ≤ n1 p := by
  obtain ⟨t, _, e⟩ := mem_getD h
  rw [← e]
  exact coef_le p t
theorem getD_le {es : List Nat} {b : Nat} (h : ∀ e ∈ es, e ≤ b) (t : Nat) : es.getD t 0 ≤ b := by
  rw [List.getD_eq_getElem?_getD]
  by_cases ht : t < es.length
  · rw [List.getElem?_eq_getElem ht]
    exact h _ (List.getElem_mem ht)
  · rw [List.getElem?_eq_none (by omega)]
    exact Nat.zero_le _
theorem fits_built {c : Int} (hc : c ≠ 0) (hcb : c.natAbs ≤ 1000000000000000) {es : List Nat} (hl : es.length = 8) (he : ∀ t, es.getD t 0 ≤ 3) : BFits c es := by
  refine ⟨hl, fun e hm => ?_, fun t j ht hj => ?_⟩
  · obtain ⟨i, hi, e2⟩ := List.getElem_of_mem hm
    have := he i
    rw [List.getD_eq_getElem?_getD, List.getElem?_eq_getElem hi, e2] at this
    have : e ≤ 3 := this
    omega
  · have hm := mt_prm t ht
    obtain ⟨h1, h2⟩ := tr_built hc es t (by omega)
    have h3 := len_powP h1 h2 hm.tr hm.ne (mt_len t ht) j
    rw [len_built hc es t (by omega)] at h3
    have h4 := sd_le_n es he t (by omega)
    have h5 : ∀ t, t < 8 → dg t ≤ 3 := by decide
    have h6 := Nat.mul_le_mul (show j ≤ 3 by have := he t; omega) (h5 t ht)
    refine ⟨by show (powP (builtP c es t) (mt t) j).length ≤ 1000; omega, fun x hx => ?_⟩
    have h7 := mem_n1 hx
    have h8 := n1_powP (builtP c es t) (mt t) j
    have h9 := n1_built c es t (by omega) he
    rw [mt_n1 t ht] at h8
    have h10 : ∀ t, t < 8 → nb t ^ 3 ≤ 125 := by decide
    have h11 : nb t ^ j ≤ nb t ^ 3 := Nat.pow_le_pow_right (nb_pos t ht) (by have := he t; omega)
    have h12 := Nat.mul_le_mul h9 (Nat.le_trans h11 (h10 t ht))
    have h13 := Nat.mul_le_mul (Nat.mul_le_mul hcb (wb_le t (by omega))) (Nat.le_refl 125)
    have h7' : x.natAbs ≤ n1 (powP (builtP c es t) (mt t) j) := h7
    refine pow_lt (a := 120) ?_ (by decide)
    exact Nat.lt_of_le_of_lt (Nat.le_trans h7' (Nat.le_trans h8 (Nat.le_trans h12 h13))) (by decide)
/-! ### no common part -/
def Cop (f g : Pl) : Prop := ∃ (U V : Pl) (c : Int), c ≠ 0 ∧ ∀ x, ev U x * ev f x + ev V x * ev g x = c
theorem cop_symm {f g : Pl} : Cop f g → Cop g f
  | ⟨U, V, c, hc, h⟩ => ⟨V, U, c, hc, fun x => by rw [← h x]; omega⟩
theorem cop_congr {f g g' : Pl} (e : ∀ x, ev g x = ev g' x) : Cop f g → Cop f g'
  | ⟨U, V, c, hc, h⟩ => ⟨U, V, c, hc, fun x => by rw [← e]; exact h x⟩
theorem cop_one (f : Pl) {c : Int} (hc : c ≠ 0) : Cop f [c] := ⟨[], [1], c, hc, fun x => by simp [ev]⟩
theorem cop_mul {f g1 g2 : Pl} : Cop f g1 → Cop f g2 → Cop f (mulP g1 g2)
  | ⟨U1, V1, c1, h1, e1⟩, ⟨U2, V2, c2, h2, e2⟩ => ⟨addL (mulL (mulL U1 U2) f) (addL (mulL U1 (mulL V2 g2)) (mulL (mulL V1 g1) U2)), mulL V1 V2, c1 * c2, fun z => by
      rcases Int.mul_eq_zero.mp z with z | z
      · exact h1 z
      · exact h2 z, fun x => by
      have a := e1 x
      have b := e2 x
      simp only [ev_addL, ev_mulL, ev_mulP]
      rw [← a, ← b]
      grind⟩
theorem cop_pow {f p g : Pl} (h1 : Cop f p) (h2 : Cop f g) : ∀ k, Cop f (powP p g k)
  | 0 => h1
  | k + 1 => cop_mul (cop_pow h1 h2 k) h2
theorem cop_built {f : Pl} {es : List Nat} : ∀ n, (∀ t, t < n → es.getD t 0 = 0 ∨ Cop f (mt t)) → Cop f (builtP 1 es n)
  | 0, _ => cop_one f (by decide)
  | n + 1, h => by
    have ih := cop_built (f := f) (es := es) n fun t ht => h t (by omega)
    rcases h n (by omega) with z | z
    · show Cop f (powP (builtP 1 es n) (mt n) (es.getD n 0))
      rw [z]
      exact ih
    · exact cop_pow ih z _
theorem cop_smul {f g : Pl} {s : Int} (hs : s ≠ 0) : Cop f g → Cop f (g.map (s * ·))
  | ⟨U, V, c, hc, h⟩ => ⟨U.map (s * ·), V, s * c, fun z => by
      rcases Int.mul_eq_zero.mp z with z | z
      · exact hs z
      · exact hc z, fun x => by
      rw [ev_smul, ev_smul, ← h x]
      grind⟩
theorem cop_unsmul {f g g' : Pl} {s : Int} (e : ∀ x, ev g x = s * ev g' x) : Cop f g → Cop f g'
  | ⟨U, V, c, hc, h⟩ => ⟨U, V.map (s * ·), c, hc, fun x => by
      rw [ev_smul, ← h x, e x]
      grind⟩
theorem cop_plus {f g k q : Pl} (e : ∀ x, ev k x = ev g x + ev q x * ev f x) : Cop f g → Cop f k
  | ⟨U, V, c, hc, h⟩ => ⟨addL U ((mulL V q).map (-1 * ·)), V, c, hc, fun x => by
      rw [ev_addL, ev_smul, ev_mulL, ← h x, e x]
      grind⟩
def copT : List (List (Pl × Pl × Int)) := [[([], [], 0), ([-1], [1], 1), ([1], [-1], 2), ([-2], [1], 3), ([0, -1], [1], 1), ([-1, -1], [1], 1), ([0, -1], [1], 2), ([0, 0, 1], [-1], 2)],
  [([], [], 0), ([], [], 0), ([1], [-1], 3), ([-2], [1], 1), ([1, -1], [1], 2), ([0, -1], [1], 1), ([1, -1], [1], 3), ([1, -1, 1], [-1], 3)],
  [([], [], 0), ([], [], 0), ([], [], 0), ([-2], [1], 7), ([-2, -1], [1], 5), ([-3, -1], [1], 7), ([-2, -1], [1], 6), ([-4, -2, -1], [1], 6)],
  [([], [], 0), ([], [], 0), ([], [], 0), ([], [], 0), ([3, -2], [4], 13), ([1, -2], [4], 7), ([3, -2], [4], 17), ([9, -6, 4], [-8], 43)],
  [([], [], 0), ([], [], 0), ([], [], 0), ([], [], 0), ([], [], 0), ([1, 1], [0, -1], 1), ([-1], [1], 1), ([1, 2, -1], [-2, 1], 5)],
  [([], [], 0), ([], [], 0), ([], [], 0), ([], [], 0), ([], [], 0), ([], [], 0), ([-1, -1], [2, 1], 3), ([-1, 1], [-1], 1)],
  [([], [], 0), ([], [], 0), ([], [], 0), ([], [], 0), ([], [], 0), ([], [], 0), ([], [], 0), ([2, 1, -1], [-1, 1], 6)],
  [([], [], 0), ([], [], 0), ([], [], 0), ([], [], 0), ([], [], 0), ([], [], 0), ([], [], 0), ([], [], 0)]]
def copD : List (Pl × Pl × Int) := [([], [1], 1), ([], [1], 1), ([], [1], 1), ([], [1], 2), ([2], [0, -1], 2), ([4], [-1, -2], 3), ([2], [0, -1], 4), ([-3], [0, 1], 6)]
theorem copT_ok : ∀ s, s < 8 → ∀ t, t < 8 → s < t → trim (addL (mulL ((copT.getD s []).getD t ([], [], 0)).1 (mt s)) (mulL ((copT.getD s []).getD t ([], [], 0)).2.1 (mt t))) = [((copT.getD s []).getD t ([], [], 0)).2.2] ∧ ((copT.getD s []).getD t ([], [], 0)).2.2 ≠ 0 := by decide +kernel
theorem cop_lt {s t : Nat} (ht : t < 8) (h : s < t) : Cop (mt s) (mt t) := by
  obtain ⟨h1, h2⟩ := copT_ok s (by omega) t ht h
  refine ⟨((copT.getD s []).getD t ([], [], 0)).1, ((copT.getD s []).getD t ([], [], 0)).2.1, _, h2, fun x => ?_⟩
  have := ev_trim (addL (mulL ((copT.getD s []).getD t ([], [], 0)).1 (mt s)) (mulL ((copT.getD s []).getD t ([], [], 0)).2.1 (mt t))) x
  rw [h1, ev_addL, ev_mulL, ev_mulL] at this
  rw [← this]
  simp [ev]
theorem cop_mt {s t : Nat} (hs : s < 8) (ht : t < 8) (h : s ≠ t) : Cop (mt s) (mt t) := by
  rcases Nat.lt_or_gt_of_ne h with h | h
  · exact cop_lt ht h
  · exact cop_symm (cop_lt hs h)
theorem cop_builts {a b : List Nat} (h : ∀ t, t < 8 → a.getD t 0 = 0 ∨ b.getD t 0 = 0) : Cop (builtP 1 a 8) (builtP 1 b 8) := by
  refine cop_symm (cop_built 8 fun t ht => ?_)
  rcases h t ht with z | z
  · exact .inl z
  · refine .inr (cop_symm (cop_built 8 fun s hs => ?_))
    by_cases e : s = t
    · subst e
      exact .inl z
    · exact .inr (cop_mt ht hs (fun e2 => e e2.symm))
theorem const_len {h K : Pl} (hh : Tr h) {c : Int} (hc : c ≠ 0) (e : ∀ x, ev K x * ev h x = c) : h.length = 1 := by
  have e2 : mulP (trim K) h = [c] := ev_eq (tr_mulP _ _) (tr_of_last (.inr hc)) fun x => by
    rw [ev_mulP, ev_trim, e]
    simp [ev]
  have nh : h ≠ [] := fun z => by
    rw [z, mulP_nil] at e2
    cases e2
  have nK : trim K ≠ [] := fun z => by
    rw [z] at e2
    cases e2
  have := mulP_len (tr_trim K) hh nK nh
  rw [e2] at this
  have h1 := List.length_pos_iff.mpr nh
  have h2 := List.length_pos_iff.mpr nK
  simp only [List.length_cons, List.length_nil] at this
  omega
theorem prm_len1 {h : Pl} (hh : Prm h) (l : h.length = 1) : h = [1] := by
  match h, l, hh with
  | [a], _, hh =>
    have h1 : 0 < a := hh.l
    have h2 := hh.c
    simp only [contP, List.foldl, Int.gcd, Int.natAbs_zero, Nat.gcd_zero_left] at h2
    have : a = 1 := by omega
    rw [this]
theorem cop_dv {f g h : Pl} (hh : Prm h) : Cop f g → Dv h f → Dv h g → h = [1]
  | ⟨U, V, c, hc, e⟩, ⟨q1, _, e1⟩, ⟨q2, _, e2⟩ => prm_len1 hh (const_len hh.tr (K := addL (mulL U q1) (mulL V q2)) hc fun x => by
      rw [ev_addL, ev_mulL, ev_mulL, ← e x, e1, e2]
      grind)
end PA

set_option linter.all false
/-! The menu's products: division, turns, common factors. -/
namespace PA
def V3 (es : List Nat) : Prop := es.length = 8 ∧ ∀ t, es.getD t 0 ≤ 3
theorem rg8 (f : Nat → Nat) (t : Nat) : ((List.range 8).map f).getD t 0 = if t < 8 then f t else 0 := by
  rw [List.getD_eq_getElem?_getD, List.getElem?_map]
  by_cases h : t < 8
  · rw [List.getElem?_range h, if_pos h]
    rfl
  · rw [List.getElem?_eq_none (by rw [List.length_range]; omega), if_neg h]
    rfl
theorem v3_map {f : Nat → Nat} (h : ∀ t, t < 8 → f t ≤ 3) : V3 ((List.range 8).map f) := ⟨by simp, fun t => by
  rw [rg8]
  split
  · rename_i ht
    exact h t ht
  · exact Nat.zero_le _⟩
theorem prim_built {c : Int} (hc : c ≠ 0) (es : List Nat) : primP (builtP c es 8) = builtP 1 es 8 :=
  prim_of (tr_built hc es 8 (Nat.le_refl _)).1 (prm_built es 8 (Nat.le_refl _)) hc fun x => by
    rw [ev_built, ev_built, Int.one_mul]
theorem built_split {es a b : List Nat} (c : Int) (h : ∀ t, t < 8 → es.getD t 0 = a.getD t 0 + b.getD t 0) (x : Int) : ev (builtP c es 8) x = ev (builtP c a 8) x * ev (builtP 1 b 8) x := by
  rw [ev_built, ev_built, ev_built, pe_add x 8 h]
  grind
theorem mul_built {es a b : List Nat} (h : ∀ t, t < 8 → es.getD t 0 = a.getD t 0 + b.getD t 0) : mulP (builtP 1 a 8) (builtP 1 b 8) = builtP 1 es 8 :=
  ev_eq (tr_mulP _ _) (prm_built es 8 (Nat.le_refl _)).tr fun x => by rw [ev_mulP, built_split 1 h]
theorem len_built8 {c : Int} (hc : c ≠ 0) {es : List Nat} (v : V3 es) : (builtP c es 8).length ≤ 40 := by
  rw [len_built hc es 8 (Nat.le_refl _)]
  have := sd_le es v.2
  omega
theorem n1_built8 {es : List Nat} (v : V3 es) : n1 (builtP 1 es 8) ≤ 2 ^ 32 := by
  have h1 := n1_built 1 es 8 (Nat.le_refl _) v.2
  have h2 := wb_le 8 (Nat.le_refl _)
  have : (1 : Int).natAbs * wb 8 = wb 8 := Nat.one_mul _
  omega
theorem n1_builtc {c : Int} (hcb : c.natAbs ≤ 1000000000000000) {es : List Nat} (v : V3 es) : n1 (builtP c es 8) ≤ 1000000000000000 * 2 ^ 32 :=
  Nat.le_trans (n1_built c es 8 (Nat.le_refl _) v.2) (Nat.mul_le_mul hcb (wb_le 8 (Nat.le_refl _)))
theorem big82 : 1000000000000000 * 2 ^ 32 < 2 ^ 82 := by decide
theorem fm_small {i j : Int} {a b : Nat} (hi : i.natAbs ≤ a) (hj : j.natAbs ≤ b) (ha : a < 2 ^ 150) (hb : b < 2 ^ 150) : Fm i j :=
  fm_of (pow_lt (Nat.lt_of_le_of_lt hi ha) (by decide)) (pow_lt (Nat.lt_of_le_of_lt hj hb) (by decide))
theorem built_small {c : Int} (hcb : c.natAbs ≤ 1000000000000000) {es : List Nat} (v : V3 es) : n1 (builtP c es 8) < 2 ^ 150 :=
  Nat.lt_of_le_of_lt (n1_builtc hcb v) (by decide)
theorem one_c : (1 : Int).natAbs ≤ 1000000000000000 := by decide
theorem sb_get (a b : List Nat) (t : Nat) (h : t < 8) : (sb a b).getD t 0 = a.getD t 0 - b.getD t 0 := by
  rw [sb, rg8, if_pos h]
theorem v3_sb {a b : List Nat} (v : V3 a) : V3 (sb a b) := v3_map fun t _ => by
  have := v.2 t
  omega
theorem divs_built {c : Int} (hc : c ≠ 0) (hcb : c.natAbs ≤ 1000000000000000) {es few : List Nat} (v : V3 es) (w : V3 few) (h : ∀ t, t < 8 → few.getD t 0 ≤ es.getD t 0) : Divs (builtP c es 8) (builtP 1 few 8) (some (builtP c (sb es few) 8)) := by
  have p1 := prm_built few 8 (Nat.le_refl _)
  have l1 := len_built8 hc v
  have l2 := len_built8 (c := 1) (by decide) w
  refine divs_yes (tr_built hc es 8 (Nat.le_refl _)).1 p1.tr (tr_built hc (sb es few) 8 (Nat.le_refl _)).1 p1.ne (built_split c fun t ht => ?_) (by omega) (by omega) ?_ fun x hx y hy => ?_
  · rw [sb_get _ _ _ ht]
    have := h t ht
    omega
  · exact pow_lt (Nat.lt_of_le_of_lt (coef_le _ _) (built_small one_c w)) (by decide)
  · exact fm_small (mem_n1 hx) (mem_n1 hy) (built_small hcb (v3_sb v)) (built_small one_c w)
def ut (t : Nat) : List Nat := (List.range 8).map fun s => if s = t then 1 else 0
theorem ut_mt : ∀ t, t < 8 → builtP 1 (ut t) 8 = mt t := by decide +kernel
theorem v3_ut (t : Nat) : V3 (ut t) := v3_map fun s _ => by split <;> decide
theorem not_dv {c : Int} (hc : c ≠ 0) {es few : List Nat} {t : Nat} (ht : t < 8) (h : es.getD t 0 < few.getD t 0) {q : Pl} (e : ∀ x, ev (builtP c es 8) x = ev q x * ev (builtP 1 few 8) x) : False := by
  let ez := (List.range 8).map fun s => if s = t then 0 else es.getD s 0
  let eu := (List.range 8).map fun s => if s = t then es.getD t 0 else 0
  let fr := (List.range 8).map fun s => if s = t then few.getD t 0 - es.getD t 0 - 1 else few.getD s 0
  let f1 := (List.range 8).map fun s => if s = t then few.getD t 0 - es.getD t 0 else few.getD s 0
  have s1 : ∀ x, ev (builtP c es 8) x = ev (builtP c ez 8) x * ev (builtP 1 eu 8) x := built_split c fun s hs => by
    rw [rg8, rg8, if_pos hs, if_pos hs]
    by_cases hst : s = t
    · subst hst
      rw [if_pos rfl, if_pos rfl]
      omega
    · rw [if_neg hst, if_neg hst]
      omega
  have s2 : ∀ x, ev (builtP 1 few 8) x = ev (builtP 1 f1 8) x * ev (builtP 1 eu 8) x := built_split 1 fun s hs => by
    rw [rg8, rg8, if_pos hs, if_pos hs]
    by_cases hst : s = t
    · subst hst
      rw [if_pos rfl, if_pos rfl]
      omega
    · rw [if_neg hst, if_neg hst]
      omega
  have s3 : ∀ x, ev (builtP 1 f1 8) x = ev (builtP 1 fr 8) x * ev (builtP 1 (ut t) 8) x := built_split 1 fun s hs => by
    rw [rg8, rg8, ut, rg8, if_pos hs, if_pos hs, if_pos hs]
    by_cases hst : s = t
    · subst hst
      rw [if_pos rfl, if_pos rfl, if_pos rfl]
      omega
    · rw [if_neg hst, if_neg hst, if_neg hst]
      omega
  have pu := prm_built eu 8 (Nat.le_refl _)
  have e2 : ∀ x, ev (builtP 1 eu 8) x * ev (builtP c ez 8) x = ev (builtP 1 eu 8) x * ev (mulL q (builtP 1 f1 8)) x := fun x => by
    have := e x
    rw [s1, s2] at this
    rw [ev_mulL, Int.mul_comm, this]
    grind
  have e3 : ∀ x, ev (builtP c ez 8) x = ev (mulL q (builtP 1 f1 8)) x := ev_cancel pu.tr pu.ne e2
  have hcop : Cop (mt t) (builtP 1 ez 8) := cop_built 8 fun s hs => by
    by_cases hst : s = t
    · left
      rw [rg8, if_pos hs, if_pos hst]
    · exact .inr (cop_mt ht hs (fun z => hst z.symm))
  obtain ⟨U, W, k, hk, hcop⟩ := hcop
  have := const_len (mt_prm t ht).tr (K := addL (U.map (c * ·)) (mulL W (mulL q (builtP 1 fr 8)))) (c := c * k) (fun z => by
    rcases Int.mul_eq_zero.mp z with z | z
    · exact hc z
    · exact hk z) fun x => by
    have h1 := hcop x
    have h2 := e3 x
    rw [ev_mulL, s3, ut_mt t ht, ev_built] at h2
    rw [ev_built, Int.one_mul] at h1
    rw [ev_addL, ev_smul, ev_mulL, ev_mulL]
    rw [← h1]
    grind
  rw [mt_len t ht] at this
  have h5 : ∀ t, t < 8 → 1 ≤ dg t := by decide
  have := h5 t ht
  omega
theorem divs_none {c : Int} (hc : c ≠ 0) (hcb : c.natAbs ≤ 1000000000000000) {es few : List Nat} (v : V3 es) (w : V3 few) {t : Nat} (ht : t < 8) (h : es.getD t 0 < few.getD t 0) : Divs (builtP c es 8) (builtP 1 few 8) none := by
  have p1 := prm_built few 8 (Nat.le_refl _)
  have l1 := len_built8 hc v
  have l2 := len_built8 (c := 1) (by decide) w
  obtain ⟨o, h1, h2⟩ := divs_ex (one := builtP c es 8) (two := builtP 1 few 8) (M := 2 ^ 82) (T := 2 ^ 32) (by have := p1.l; omega) (fun t => Nat.le_trans (coef_le _ _) (n1_built8 w)) (fun t => Nat.le_trans (coef_le _ _) (Nat.le_trans (n1_builtc hcb v) (Nat.le_of_lt big82))) (pow_lt (a := 33) (by decide) (by decide)) (by omega) (by omega) (by
    refine Nat.lt_of_le_of_lt (Nat.mul_le_mul (Nat.le_refl _) (Nat.pow_le_pow_left (show 1 + 2 ^ 32 ≤ 2 ^ 33 by decide) _)) ?_
    rw [← Nat.pow_mul, ← Nat.pow_add]
    exact Nat.pow_lt_pow_right (by decide) (by omega))
  cases o with
  | none => exact h1
  | some q => exact (not_dv hc ht h (h2 q rfl)).elim
theorem often_built {c : Int} (hc : c ≠ 0) (hcb : c.natAbs ≤ 1000000000000000) {few : List Nat} (w : V3 few) : ∀ (n : Nat) (es : List Nat), V3 es → (∀ t, t < 8 → n * few.getD t 0 ≤ es.getD t 0) → (∃ t, t < 8 ∧ es.getD t 0 < (n + 1) * few.getD t 0) → Often (builtP 1 few 8) n (builtP c es 8)
  | 0, es, v, _, ⟨t, ht, h2⟩ => .stop _ (divs_none hc hcb v w ht (by omega))
  | n + 1, es, v, h1, ⟨t, ht, h2⟩ => by
    refine .step n _ _ (divs_built hc hcb v w fun s hs => ?_) (often_built hc hcb w n (sb es few) (v3_sb v) (fun s hs => ?_) ⟨t, ht, ?_⟩)
    · have := h1 s hs
      rw [Nat.add_mul, Nat.one_mul] at this
      omega
    · have := h1 s hs
      rw [Nat.add_mul, Nat.one_mul] at this
      rw [sb_get _ _ _ hs]
      omega
    · rw [sb_get _ _ _ ht]
      have h3 := h1 t ht
      rw [Nat.add_mul, Nat.one_mul] at h2 h3
      rw [Nat.add_mul, Nat.one_mul] at h2 ⊢
      omega
theorem exists_min : ∀ l : List Nat, l ≠ [] → ∃ n, n ∈ l ∧ ∀ y ∈ l, n ≤ y
  | [a], _ => ⟨a, by simp, fun y hy => by
      have : y = a := by simpa using hy
      omega⟩
  | a :: b :: l, _ => by
    obtain ⟨n, h1, h2⟩ := exists_min (b :: l) (by simp)
    by_cases h : a ≤ n
    · refine ⟨a, List.mem_cons_self .., fun y hy => ?_⟩
      rcases List.mem_cons.mp hy with z | z
      · omega
      · have := h2 y z
        omega
    · refine ⟨n, List.mem_cons_of_mem _ h1, fun y hy => ?_⟩
      rcases List.mem_cons.mp hy with z | z
      · omega
      · exact h2 y z
theorem mem_cnt {a b : List Nat} {n : Nat} : n ∈ cnt a b ↔ ∃ t, t < 8 ∧ 0 < b.getD t 0 ∧ a.getD t 0 / b.getD t 0 = n := by
  unfold cnt
  rw [List.mem_map]
  constructor
  · rintro ⟨t, h1, h2⟩
    have h3 := List.mem_filter.mp h1
    exact ⟨t, List.mem_range.mp h3.1, by simpa using h3.2, h2⟩
  · rintro ⟨t, h1, h2, h3⟩
    exact ⟨t, List.mem_filter.mpr ⟨List.mem_range.mpr h1, by simpa using h2⟩, h3⟩
theorem of_built {c : Int} (hc : c ≠ 0) (hcb : c.natAbs ≤ 1000000000000000) {es few : List Nat} (v : V3 es) (w : V3 few) (ne : cnt es few ≠ []) : ∃ n, Often (builtP 1 few 8) n (builtP c es 8) ∧ n ∈ cnt es few ∧ ∀ y ∈ cnt es few, n ≤ y := by
  obtain ⟨n, h1, h2⟩ := exists_min _ ne
  refine ⟨n, often_built hc hcb w n es v (fun t ht => ?_) ?_, h1, h2⟩
  · by_cases h : 0 < few.getD t 0
    · have := h2 _ (mem_cnt.mpr ⟨t, ht, h, rfl⟩)
      exact (Nat.le_div_iff_mul_le h).mp this
    · rw [show few.getD t 0 = 0 by omega]
      omega
  · obtain ⟨t, h3, h4, h5⟩ := mem_cnt.mp h1
    refine ⟨t, h3, ?_⟩
    rw [← h5, Nat.mul_comm]
    have h6 := Nat.div_add_mod (es.getD t 0) (few.getD t 0)
    have h7 := Nat.mod_lt (es.getD t 0) h4
    rw [Nat.mul_add, Nat.mul_one]
    omega
theorem om_built {c : Int} (hc : c ≠ 0) (hcb : c.natAbs ≤ 1000000000000000) {es : List Nat} (v : V3 es) (t : Nat) (ht : t < 8) : Often (menu.getD t []) (es.getD t 0) (builtP c es 8) := by
  have e := ut_mt t ht
  have := often_built hc hcb (v3_ut t) (es.getD t 0) es v (fun s hs => by
    rw [ut, rg8, if_pos hs]
    by_cases h : s = t
    · subst h
      rw [if_pos rfl]
      omega
    · rw [if_neg h]
      omega) ⟨t, ht, by
    rw [ut, rg8, if_pos ht, if_pos rfl]
    omega⟩
  rw [e] at this
  exact this
theorem sd_add {a b e1 e2 : List Nat} : ∀ n, (∀ t, t < n → a.getD t 0 + b.getD t 0 ≤ 3) → sd a n + sd b n ≤ 3 * sd [1, 1, 1, 1, 1, 1, 1, 1] n ∨ 8 < n
  | 0, _ => .inl (Nat.le_refl _)
  | n + 1, h => by
    by_cases hn : n < 8
    · rcases sd_add (e1 := e1) (e2 := e2) n fun t ht => h t (by omega) with z | z
      · left
        have h1 := Nat.mul_le_mul_right (dg n) (h n (by omega))
        have h2 : ∀ n, n < 8 → [1, 1, 1, 1, 1, 1, 1, 1].getD n 0 = 1 := by decide
        show (sd a n + a.getD n 0 * dg n) + (sd b n + b.getD n 0 * dg n) ≤ 3 * (sd [1, 1, 1, 1, 1, 1, 1, 1] n + [1, 1, 1, 1, 1, 1, 1, 1].getD n 0 * dg n)
        rw [h2 n hn]
        rw [Nat.add_mul] at h1
        omega
      · omega
    · exact .inr (by omega)
theorem gcd_built {a b : List Nat} (v : V3 a) (w : V3 b) : ∃ n, GcdRun n (builtP 1 a 8) (builtP 1 b 8) (builtP 1 (mn a b) 8) := by
  have vm : V3 (mn a b) := v3_map fun t _ => by
    have := v.2 t
    omega
  have gm : ∀ t, t < 8 → (mn a b).getD t 0 = min (a.getD t 0) (b.getD t 0) := fun t ht => by rw [mn, rg8, if_pos ht]
  have l1 := len_built (c := 1) (by decide) (sb a (mn a b)) 8 (Nat.le_refl _)
  have l2 := len_built (c := 1) (by decide) (sb b (mn a b)) 8 (Nat.le_refl _)
  have ls := sd_add (a := sb a (mn a b)) (b := sb b (mn a b)) (e1 := []) (e2 := []) 8 fun t ht => by
    rw [sb_get _ _ _ ht, sb_get _ _ _ ht, gm t ht]
    have := v.2 t
    have := w.2 t
    omega
  have l3 : 3 * sd [1, 1, 1, 1, 1, 1, 1, 1] 8 = 39 := by decide
  have n1f := n1_built8 (v3_sb (b := mn a b) v)
  have n1g := n1_built8 (v3_sb (b := mn a b) w)
  have lm := len_built8 (c := 1) (by decide) vm
  obtain ⟨n, h, G⟩ := gcd_run (prm_built (mn a b) 8 (Nat.le_refl _)) (prm_built (sb a (mn a b)) 8 (Nat.le_refl _)) (prm_built (sb b (mn a b)) 8 (Nat.le_refl _)) (n1_built8 vm) (by
    rw [show (2 : Nat) ^ 33 = 2 ^ 32 + 2 ^ 32 by decide]
    omega) (by omega) (by omega)
  have e1 : h = [1] := cop_dv G.p (cop_builts fun t ht => by
    rw [sb_get _ _ _ ht, sb_get _ _ _ ht, gm t ht]
    omega) G.d1 G.d2
  have r := G.r
  rw [e1, mul_built (es := a) (fun t ht => by rw [sb_get _ _ _ ht, gm t ht]; omega), mul_built (es := b) (fun t ht => by rw [sb_get _ _ _ ht, gm t ht]; omega)] at r
  have e2 : mulP (builtP 1 (mn a b) 8) [1] = builtP 1 (mn a b) 8 := ev_eq (tr_mulP _ _) (prm_built _ 8 (Nat.le_refl _)).tr fun x => by
    rw [ev_mulP]
    simp [ev]
  rw [e2] at r
  exact ⟨n, r⟩
end PA

set_option linter.all false
/-! Derivatives; the first half of the law. -/
namespace PA
def dr : Pl → Pl
  | [] => []
  | a :: p => addL p (0 :: dr p)
theorem dr_get : ∀ (p : Pl) (k : Nat), (dr p).getD k 0 = ((k : Int) + 1) * p.getD (k + 1) 0
  | [], k => by simp [dr]
  | a :: p, 0 => by
    show (addL p (0 :: dr p)).getD 0 0 = _
    rw [addL_get]
    simp
  | a :: p, k + 1 => by
    have := dr_get p k
    simp only [dr, addL_get, List.getD_cons_succ]
    rw [this]
    have e : ((k + 1 : Nat) : Int) = (k : Int) + 1 := by omega
    rw [e]
    grind
theorem derP_get (p : Pl) (k : Nat) : (derP p).getD k 0 = ((k : Int) + 1) * p.getD (k + 1) 0 := by
  unfold derP
  rw [List.getD_eq_getElem?_getD, List.getElem?_map]
  by_cases h : k < p.length - 1
  · rw [List.getElem?_range h]
    rfl
  · rw [List.getElem?_eq_none (by rw [List.length_range]; omega), far (p := p) (by omega)]
    simp
theorem ev_derP (p : Pl) (x : Int) : ev (derP p) x = ev (dr p) x := ev_congr (fun t => by rw [derP_get, dr_get]) x
theorem ev_dr_congr {p q : Pl} (h : ∀ t, p.getD t 0 = q.getD t 0) (x : Int) : ev (dr p) x = ev (dr q) x := ev_congr (fun t => by rw [dr_get, dr_get, h]) x
theorem ev_dr_trim (p : Pl) (x : Int) : ev (dr (trim p)) x = ev (dr p) x := ev_dr_congr (trim_get p) x
theorem ev_dr_addL (p q : Pl) (x : Int) : ev (dr (addL p q)) x = ev (dr p) x + ev (dr q) x := by
  rw [← ev_addL]
  refine ev_congr (fun t => ?_) x
  rw [dr_get, addL_get, addL_get, dr_get, dr_get]
  grind
theorem ev_dr_smul (c : Int) (p : Pl) (x : Int) : ev (dr (p.map (c * ·))) x = c * ev (dr p) x := by
  rw [← ev_smul]
  refine ev_congr (fun t => ?_) x
  rw [dr_get, getD_map_mul, getD_map_mul, dr_get]
  grind
theorem ev_dr_cons (a : Int) (p : Pl) (x : Int) : ev (dr (a :: p)) x = ev p x + x * ev (dr p) x := by
  simp only [dr, ev_addL, ev]
  omega
theorem ev_dr_mulL : ∀ (p q : Pl) (x : Int), ev (dr (mulL p q)) x = ev (dr p) x * ev q x + ev p x * ev (dr q) x
  | [], q, x => by simp [mulL, dr, ev]
  | a :: p, q, x => by
    have ih := ev_dr_mulL p q x
    simp only [mulL]
    rw [ev_dr_addL, ev_dr_smul, ev_dr_cons, ev_dr_cons, ih, ev_mulL]
    simp only [ev]
    grind
theorem ev_dr_mulP (p q : Pl) (x : Int) : ev (dr (mulP p q)) x = ev (dr p) x * ev q x + ev p x * ev (dr q) x := by
  rw [mulP, ev_dr_trim, ev_dr_mulL]
theorem ev_dr_powP (p f : Pl) (x : Int) : ∀ k : Nat, ev (dr (powP p f (k + 1))) x = ev f x ^ k * (ev (dr p) x * ev f x + ((k : Int) + 1) * (ev p x * ev (dr f) x))
  | 0 => by
    simp only [powP]
    rw [ev_dr_mulP]
    simp
  | k + 1 => by
    have ih := ev_dr_powP p f x k
    show ev (dr (mulP (powP p f (k + 1)) f)) x = _
    rw [ev_dr_mulP, ih, ev_powP, Int.pow_succ]
    have e : ((k + 1 : Nat) : Int) = (k : Int) + 1 := by omega
    rw [e]
    generalize ev f x ^ k = P
    grind
theorem derP_tr {p : Pl} (h : Tr p) : Tr (derP p) := by
  by_cases hl : p.length ≤ 1
  · have : derP p = [] := by
      unfold derP
      rw [show p.length - 1 = 0 by omega]
      rfl
    rw [this]
    exact tr_nil
  · refine tr_of_last (.inr ?_)
    have np : p ≠ [] := fun z => by
      subst z
      simp at hl
    have h1 := last_ne h np
    have hlen : (derP p).length = p.length - 1 := by simp [derP]
    unfold lastP at h1 ⊢
    rw [hlen, derP_get, show p.length - 1 - 1 + 1 = p.length - 1 by omega]
    intro z
    rcases Int.mul_eq_zero.mp z with z | z
    · omega
    · exact h1 z
theorem copD_ok : ∀ s, s < 8 → trim (addL (mulL (copD.getD s ([], [], 0)).1 (mt s)) (mulL (copD.getD s ([], [], 0)).2.1 (dr (mt s)))) = [(copD.getD s ([], [], 0)).2.2] ∧ (copD.getD s ([], [], 0)).2.2 ≠ 0 := by decide +kernel
theorem cop_dr {s : Nat} (h : s < 8) : Cop (mt s) (dr (mt s)) := by
  obtain ⟨h1, h2⟩ := copD_ok s h
  refine ⟨(copD.getD s ([], [], 0)).1, (copD.getD s ([], [], 0)).2.1, _, h2, fun x => ?_⟩
  have := ev_trim (addL (mulL (copD.getD s ([], [], 0)).1 (mt s)) (mulL (copD.getD s ([], [], 0)).2.1 (dr (mt s)))) x
  rw [h1, ev_addL, ev_mulL, ev_mulL] at this
  rw [← this]
  simp [ev]
theorem mn1_get (a : List Nat) (t : Nat) (h : t < 8) : (mn1 a).getD t 0 = min 1 (a.getD t 0) := by rw [mn1, rg8, if_pos h]
theorem v3_mn1 (a : List Nat) : V3 (mn1 a) := v3_map fun t _ => by omega
/-- the derivative less the shared part -/
def gd (es : List Nat) : Nat → Pl
  | 0 => []
  | n + 1 => if es.getD n 0 = 0 then gd es n else addL (mulL (gd es n) (mt n)) ((mulL (builtP 1 (mn1 es) n) (dr (mt n))).map ((es.getD n 0 : Int) * ·))
theorem pe_split (a : List Nat) (x : Int) : pe a 8 x = pe (sb a (mn1 a)) 8 x * pe (mn1 a) 8 x := pe_add x 8 fun t ht => by
  rw [sb_get _ _ _ ht, mn1_get _ _ ht]
  omega
theorem gd_ev (a : List Nat) (x : Int) : ∀ n, n ≤ 8 → ev (dr (builtP 1 a n)) x = pe (sb a (mn1 a)) n x * ev (gd a n) x
  | 0, _ => by simp [builtP, dr, addL, ev, gd]
  | n + 1, h => by
    have ih := gd_ev a x n (by omega)
    have hs := sb_get a (mn1 a) n (by omega)
    rw [mn1_get a n (by omega)] at hs
    show ev (dr (powP (builtP 1 a n) (mt n) (a.getD n 0))) x = pe (sb a (mn1 a)) n x * ev (mt n) x ^ (sb a (mn1 a)).getD n 0 * ev (gd a (n + 1)) x
    by_cases hz : a.getD n 0 = 0
    · rw [hz] at hs ⊢
      rw [hs]
      simp only [gd, hz, if_true, powP]
      rw [ih]
      simp
    · obtain ⟨k, hk⟩ : ∃ k, a.getD n 0 = k + 1 := ⟨a.getD n 0 - 1, by omega⟩
      have hsp : pe a n x = pe (sb a (mn1 a)) n x * pe (mn1 a) n x := pe_add x n fun t ht => by
        rw [sb_get _ _ _ (by omega), mn1_get _ _ (by omega)]
        omega
      have hs : (sb a (mn1 a)).getD n 0 = k := by omega
      rw [hs]
      have hg : ev (gd a (n + 1)) x = ev (gd a n) x * ev (mt n) x + ((k : Int) + 1) * (pe (mn1 a) n x * ev (dr (mt n)) x) := by
        simp only [gd]
        rw [if_neg hz, ev_addL, ev_smul, ev_mulL, ev_mulL, ev_built, hk]
        have e : ((k + 1 : Nat) : Int) = (k : Int) + 1 := by omega
        rw [e, Int.one_mul]
      rw [hg, hk, ev_dr_powP, ih, ev_built, hsp]
      generalize ev (mt n) x ^ k = P
      grind
theorem gd_cop (a : List Nat) : ∀ n, n ≤ 8 → Cop (builtP 1 (mn1 a) n) (gd a n)
  | 0, _ => cop_symm (cop_one _ (by decide))
  | n + 1, h => by
    have ih := gd_cop a n (by omega)
    have hm := mn1_get a n (by omega)
    by_cases hz : a.getD n 0 = 0
    · have e1 : (mn1 a).getD n 0 = 0 := by omega
      show Cop (powP (builtP 1 (mn1 a) n) (mt n) ((mn1 a).getD n 0)) (if a.getD n 0 = 0 then gd a n else _)
      rw [e1, if_pos hz]
      exact ih
    · have e1 : (mn1 a).getD n 0 = 1 := by omega
      show Cop (powP (builtP 1 (mn1 a) n) (mt n) ((mn1 a).getD n 0)) (if a.getD n 0 = 0 then gd a n else _)
      rw [e1, if_neg hz]
      show Cop (mulP (builtP 1 (mn1 a) n) (mt n)) _
      have cF : Cop (builtP 1 (mn1 a) n) (mt n) := cop_symm (cop_built n fun t ht => .inr (cop_mt (by omega) (by omega) (by omega)))
      have ha : (a.getD n 0 : Int) ≠ 0 := by omega
      refine cop_symm (cop_mul (cop_symm ?_) (cop_symm ?_))
      · refine cop_plus (g := mulP (gd a n) (mt n)) (q := (dr (mt n)).map ((a.getD n 0 : Int) * ·)) (fun x => ?_) (cop_mul ih cF)
        rw [ev_addL, ev_smul, ev_mulL, ev_mulL, ev_mulP, ev_smul]
        grind
      · refine cop_plus (g := (mulP (builtP 1 (mn1 a) n) (dr (mt n))).map ((a.getD n 0 : Int) * ·)) (q := gd a n) (fun x => ?_) (cop_smul ha (cop_mul (cop_symm cF) (cop_dr (by omega))))
        rw [ev_addL, ev_smul, ev_mulL, ev_mulL, ev_smul, ev_mulP]
        grind
theorem gd_n1 (a : List Nat) (h3 : ∀ t, a.getD t 0 ≤ 3) : ∀ n, n ≤ 8 → n1 (gd a n) ≤ 14 ^ n ∧ n1 (builtP 1 (mn1 a) n) ≤ 5 ^ n
  | 0, _ => ⟨show 0 ≤ 1 by decide, Nat.le_refl 1⟩
  | n + 1, h => by
    obtain ⟨h1, h2⟩ := gd_n1 a h3 n (by omega)
    have b1 : ∀ t, t < 8 → n1 (mt t) ≤ 5 ∧ n1 (dr (mt t)) ≤ 3 := by decide
    obtain ⟨b1, b2⟩ := b1 n (by omega)
    have hm := mn1_get a n (by omega)
    have h5 : 5 ^ n ≤ 14 ^ n := Nat.pow_le_pow_left (by decide) n
    constructor
    · simp only [gd]
      split
      · rw [Nat.pow_succ]
        omega
      · have c1 := n1_addL (mulL (gd a n) (mt n)) ((mulL (builtP 1 (mn1 a) n) (dr (mt n))).map ((a.getD n 0 : Int) * ·))
        have c2 := n1_mulL (gd a n) (mt n)
        have c3 := n1_mulL (builtP 1 (mn1 a) n) (dr (mt n))
        rw [n1_smul] at c1
        have c4 := Nat.mul_le_mul h1 b1
        have c5 := Nat.mul_le_mul h2 b2
        have c6 : (a.getD n 0 : Int).natAbs ≤ 3 := by
          have := h3 n
          omega
        have c7 := Nat.mul_le_mul c6 (Nat.le_trans c3 c5)
        rw [Nat.pow_succ]
        omega
    · show n1 (powP (builtP 1 (mn1 a) n) (mt n) ((mn1 a).getD n 0)) ≤ 5 ^ (n + 1)
      by_cases hz : (mn1 a).getD n 0 = 0
      · rw [hz, Nat.pow_succ]
        show n1 (builtP 1 (mn1 a) n) ≤ _
        omega
      · rw [show (mn1 a).getD n 0 = 1 by omega, Nat.pow_succ]
        exact Nat.le_trans (n1_mulP (builtP 1 (mn1 a) n) (mt n)) (Nat.mul_le_mul h2 b1)
theorem sq_built {a : List Nat} (v : V3 a) : ∃ n g, GcdRun n (builtP 1 a 8) (primP (derP (builtP 1 a 8))) g ∧ Divs (builtP 1 a 8) g (some (builtP 1 (mn1 a) 8)) := by
  have pA := prm_built a 8 (Nat.le_refl _)
  have pH := prm_built (sb a (mn1 a)) 8 (Nat.le_refl _)
  have pF := prm_built (mn1 a) 8 (Nat.le_refl _)
  have vH : V3 (sb a (mn1 a)) := v3_sb v
  have tD := derP_tr pA.tr
  have eD : ∀ x, ev (derP (builtP 1 a 8)) x = ev (builtP 1 (sb a (mn1 a)) 8) x * ev (gd a 8) x := fun x => by
    rw [ev_derP, gd_ev a x 8 (Nat.le_refl _), ev_built, Int.one_mul]
  have eA : mulP (builtP 1 (sb a (mn1 a)) 8) (builtP 1 (mn1 a) 8) = builtP 1 a 8 := mul_built fun t ht => by
    rw [sb_get _ _ _ ht, mn1_get _ _ ht]
    omega
  have hdiv : Divs (builtP 1 a 8) (builtP 1 (sb a (mn1 a)) 8) (some (builtP 1 (mn1 a) 8)) := by
    have := divs_built (c := 1) (by decide) one_c v vH fun t ht => by
      rw [sb_get _ _ _ ht]
      omega
    have e : builtP 1 (sb a (sb a (mn1 a))) 8 = builtP 1 (mn1 a) 8 := ev_eq (prm_built _ 8 (Nat.le_refl _)).tr pF.tr fun x => by
      rw [ev_built, ev_built, pe_add (es := sb a (sb a (mn1 a))) (a := []) (b := mn1 a) x 8 (fun t ht => by
        rw [sb_get _ _ _ ht, sb_get _ _ _ ht, mn1_get _ _ ht]
        simp only [List.getD_nil]
        omega)]
      have : pe [] 8 x = 1 := by simp [pe]
      rw [this]
      grind
    rwa [e] at this
  have cop := gd_cop a 8 (Nat.le_refl _)
  obtain ⟨b1, b2⟩ := gd_n1 a v.2 8 (Nat.le_refl _)
  have lA := len_built8 (c := 1) (by decide) v
  have lH := len_built8 (c := 1) (by decide) vH
  by_cases nG : trim (gd a 8) = []
  · -- then the derivative is nought
    have zD : derP (builtP 1 a 8) = [] := ev_eq tD tr_nil fun x => by
      rw [eD, ← ev_trim (gd a 8), nG]
      simp [ev]
    have z1 : (derP (builtP 1 a 8)).length = (builtP 1 a 8).length - 1 := by simp [derP]
    rw [zD] at z1 ⊢
    have z2 := List.length_pos_iff.mpr pA.ne
    have eA1 : builtP 1 a 8 = [1] := prm_len1 pA (by
      simp only [List.length_nil] at z1
      omega)
    have lF := mulP_len pH.tr pF.tr pH.ne pF.ne
    rw [eA, eA1] at lF
    have z3 := List.length_pos_iff.mpr pH.ne
    have z4 := List.length_pos_iff.mpr pF.ne
    simp only [List.length_cons, List.length_nil] at lF
    have eH : builtP 1 (sb a (mn1 a)) 8 = [1] := prm_len1 pH (by omega)
    refine ⟨0, builtP 1 a 8, .stop _, ?_⟩
    have := hdiv
    rw [eH] at this
    rw [eA1] at this ⊢
    exact this
  · have pG := prim_prm (tr_trim (gd a 8)) nG
    have eG := prim_ev (tr_trim (gd a 8)) nG
    have sG := sgc_ne (tr_trim (gd a 8)) nG
    generalize hG : primP (trim (gd a 8)) = G at pG eG
    have eP : primP (derP (builtP 1 a 8)) = mulP (builtP 1 (sb a (mn1 a)) 8) G := prim_of tD (prm_mul pH pG) sG fun x => by
      rw [eD, ev_mulP, ← ev_trim (gd a 8), eG]
      grind
    have nD : derP (builtP 1 a 8) ≠ [] := fun z => by
      have := eP
      rw [z, prim_nil] at this
      exact mulP_ne pH.tr pG.tr pH.ne pG.ne this.symm
    have l1 := mulP_len pH.tr pG.tr pH.ne pG.ne
    have l2 : (primP (derP (builtP 1 a 8))).length = (derP (builtP 1 a 8)).length := by
      have := congrArg List.length (prim_eq tD nD)
      rw [List.length_map] at this
      exact this.symm
    have l3 : (derP (builtP 1 a 8)).length = (builtP 1 a 8).length - 1 := by simp [derP]
    have l4 := mulP_len pH.tr pF.tr pH.ne pF.ne
    rw [eA] at l4
    rw [eP] at l2
    have l5 : (builtP 1 (mn1 a) 8).length ≤ 14 := by
      rw [len_built (c := 1) (by decide) (mn1 a) 8 (Nat.le_refl _)]
      have m : ∀ t, t < 8 → (mn1 a).getD t 0 ≤ 1 := fun t ht => by
        rw [mn1_get _ _ ht]
        omega
      have m0 := m 0 (by decide)
      have m1 := m 1 (by decide)
      have m2 := m 2 (by decide)
      have m3 := m 3 (by decide)
      have m4 := m 4 (by decide)
      have m5 := m 5 (by decide)
      have m6 := m 6 (by decide)
      have m7 := m 7 (by decide)
      simp only [sd, dg, List.getD_cons_zero, List.getD_cons_succ]
      omega
    have bG : n1 G ≤ 14 ^ 8 := by
      have h1 : n1 (trim (gd a 8)) = (sgc (trim (gd a 8))).natAbs * n1 G := by
        rw [← n1_smul, ← hG, ← prim_eq (tr_trim (gd a 8)) nG]
      have h2 : n1 (trim (gd a 8)) ≤ 14 ^ 8 := Nat.le_trans (n1_trim _) b1
      rw [h1] at h2
      exact Nat.le_trans (Nat.le_mul_of_pos_left _ (by omega)) h2
    obtain ⟨n, h, R⟩ := gcd_run pH pF pG (n1_built8 vH) (by
      have : 5 ^ 8 + 14 ^ 8 ≤ 2 ^ 33 := by decide
      omega) (by omega) (by omega)
    have copG : Cop (builtP 1 (mn1 a) 8) G := cop_unsmul (g := gd a 8) (s := sgc (trim (gd a 8))) (fun x => by rw [← ev_trim, eG]) cop
    have e1 : h = [1] := cop_dv R.p copG R.d1 R.d2
    have r := R.r
    rw [e1, eA] at r
    have e2 : mulP (builtP 1 (sb a (mn1 a)) 8) [1] = builtP 1 (sb a (mn1 a)) 8 := ev_eq (tr_mulP _ _) pH.tr fun x => by
      rw [ev_mulP]
      simp [ev]
    rw [e2] at r
    exact ⟨n, _, by rw [eP]; exact r, hdiv⟩
theorem prim_fits' {p : Pl} (h : Tr p) (l : p.length ≤ 1000) {M : Nat} (hM : ∀ t, (p.getD t 0).natAbs ≤ M) (hb : M < 2 ^ 150) : PrimFits p :=
  ⟨pow_lt (Nat.lt_of_le_of_lt (cont_le h hM) hb) (by decide), l⟩
theorem pt_facts {c1 c2 : Int} {mine other few : List Nat} (h1 : c1 ≠ 0) (b1 : c1.natAbs ≤ 1000000000000000) (h2 : c2 ≠ 0) (b2 : c2.natAbs ≤ 1000000000000000)
    (v1 : V3 mine) (v2 : V3 other) (v3 : V3 few) : PTFacts c1 c2 mine other few := by
  have t1 := tr_built h1 mine 8 (Nat.le_refl _)
  have t2 := tr_built h2 other 8 (Nat.le_refl _)
  have p1 := prm_built mine 8 (Nat.le_refl _)
  have l1 := len_built8 h1 v1
  have l2 := len_built8 h2 v2
  have l3 := len_built8 (c := 1) (by decide) v3
  have l4 := len_built8 (c := 1) (by decide) v1
  have vm : V3 (mn mine other) := v3_map fun t _ => by
    have := v1.2 t
    omega
  have one : (1 : Int) ≠ 0 := by decide
  have bs : ∀ {c : Int} {es : List Nat}, c.natAbs ≤ 1000000000000000 → V3 es → ∀ x ∈ builtP c es 8, x.natAbs < 2 ^ 150 := fun hc v x hx => Nat.lt_of_le_of_lt (mem_n1 hx) (built_small hc v)
  have lm := len_built8 (c := 1) one vm
  have lq := len_built8 (c := 1) one (v3_mn1 mine)
  have n4 := n1_built8 v1
  refine ⟨fits_built h1 b1 v1.1 v1.2, fits_built h2 b2 v2.1 v2.2, fits_built one one_c v3.1 v3.2, fits_built one one_c v1.1 v1.2, fits_built one one_c vm.1 vm.2, fits_built one one_c (v3_mn1 _).1 (v3_mn1 _).2,
    ⟨by omega, bs b1 v1⟩, ⟨by omega, bs b2 v2⟩, ⟨by omega, bs one_c v3⟩, prim_fits' t1.1 (by omega) (fun t => coef_le _ t) (built_small b1 v1), prim_fits' t2.1 (by omega) (fun t => coef_le _ t) (built_small b2 v2), prim_built h1 mine, prim_fits p1 (by omega), p1.ne, t1.2, ?_, ?_, fun k hk => ?_, prim_self p1, sq_built v1, ?_, ?_, ?_, fun h => ⟨?_, divs_built h1 b1 v1 v3 h⟩, fun h => ?_, fun h => of_built h1 b1 v1 v3 h, by omega, by omega, fun t ht => om_built h1 b1 v1 t ht⟩
  · obtain ⟨n, r⟩ := gcd_built v1 v2
    refine ⟨n, ?_⟩
    rw [prim_built h2]
    exact r
  · have ll : (derP (builtP 1 mine 8)).length = (builtP 1 mine 8).length - 1 := by simp [derP]
    refine prim_fits' (derP_tr p1.tr) (by omega) (M := 41 * 2 ^ 32) (fun t => ?_) (by decide)
    rw [derP_get, Int.natAbs_mul]
    by_cases ht : t < 40
    · exact Nat.mul_le_mul (by omega) (Nat.le_trans (coef_le _ _) n4)
    · rw [far (by omega)]
      simp
  · refine fm_small (a := 41) (b := 2 ^ 32) (by omega) (Nat.le_trans (coef_le _ _) n4) (by decide) (by decide)
  · have e : builtP c1 mine 8 = (builtP 1 mine 8).map (c1 * ·) := ev_eq t1.1 (smul_tr p1.tr h1) fun x => by
      rw [ev_smul, ev_built, ev_built, Int.one_mul]
    rw [e, smul_last]
    exact Int.mul_fdiv_cancel _ (last_ne p1.tr p1.ne)
  · exact last_ne p1.tr p1.ne
  · exact pow_lt (Nat.lt_of_le_of_lt (coef_le _ _) (built_small one_c v1)) (by decide)
  · exact fits_built h1 b1 (v3_sb v1).1 (v3_sb v1).2
  · have : ∃ t, t < 8 ∧ mine.getD t 0 < few.getD t 0 := by
      by_cases hh : ∃ t, t < 8 ∧ mine.getD t 0 < few.getD t 0
      · exact hh
      · exfalso
        apply h
        intro t ht
        by_cases h3 : few.getD t 0 ≤ mine.getD t 0
        · exact h3
        · exact absurd ⟨t, ht, by omega⟩ hh
    obtain ⟨t, ht, hlt⟩ := this
    exact divs_none h1 b1 v1 v3 ht hlt
end PA

set_option linter.all false
/-! The law's own common factor. -/
namespace PA
theorem fm_big {i j : Int} (hi : i.natAbs < 2 ^ 400000) (hj : j.natAbs < 2 ^ 400000) : Fm i j := by
  have h1 := log2_lt hi (by decide)
  have h2 := log2_lt hj (by decide)
  unfold Fm
  omega
theorem low_small {p : Pl} (h : Tr p) (l : p.length ≤ 1000) {M : Nat} (hM : ∀ t, (p.getD t 0).natAbs ≤ M) (hb : M < 2 ^ 9000) : LowOk p := by
  refine ⟨l, fun x hx => ?_, fun np => cont_ne h np, fun x hx => ?_⟩
  · obtain ⟨t, _, e⟩ := mem_getD hx
    rw [← e]
    exact pow_lt (Nat.lt_of_le_of_lt (hM t) hb) (by decide)
  · have np : p ≠ [] := fun z => by
      subst z
      exact nomatch hx
    refine ⟨sgc_ne h np, .inl ?_⟩
    rw [sgc_abs]
    exact Nat.lt_of_le_of_lt (cont_le h hM) hb
theorem low_quot {p : Pl} (h : Tr p) (l : p.length ≤ 1000) {M : Nat} (hM : ∀ t, (p.getD t 0).natAbs ≤ M) (hb : M < 2 ^ 1000000) (hq : ∀ t, ((primP p).getD t 0).natAbs < 2 ^ 4400) : LowOk p := by
  refine ⟨l, fun x hx => ?_, fun np => cont_ne h np, fun x hx => ?_⟩
  · obtain ⟨t, _, e⟩ := mem_getD hx
    rw [← e]
    exact Nat.lt_of_le_of_lt (hM t) hb
  · have np : p ≠ [] := fun z => by
      subst z
      exact nomatch hx
    obtain ⟨t, _, e⟩ := mem_getD hx
    refine ⟨sgc_ne h np, .inr ⟨(primP p).getD t 0, ?_, hq t⟩⟩
    have := prim_eq h np
    have e2 := congrArg (fun q : Pl => q.getD t 0) this
    simp only [getD_map_mul] at e2
    rw [← e]
    exact e2
/-- the cofactors of a common factor are small -/
theorem cof_small {f g h qa qb : Pl} (ha : Prm qa) (hb : Prm qb) (hh : Prm h) (ea : ∀ x, ev f x = ev qa x * ev h x) (eb : ∀ x, ev g x = ev qb x * ev h x) (hf : Tr f) (hg : Tr g) (cop : Cop qa qb) (hB : 1 ≤ n1 f + n1 g) (t : Nat) :
    (qa.getD t 0).natAbs ≤ (n1 f + n1 g) ^ (f.length + g.length - 2 * (h.length - 1) - 1) := by
  have ef : f = mulP qa h := ev_eq hf (tr_mulP _ _) fun x => by rw [ea, ev_mulP]
  have eg : g = mulP qb h := ev_eq hg (tr_mulP _ _) fun x => by rw [eb, ev_mulP]
  have lf := mulP_len ha.tr hh.tr ha.ne hh.ne
  have lg := mulP_len hb.tr hh.tr hb.ne hh.ne
  rw [← ef] at lf
  rw [← eg] at lg
  have pa := List.length_pos_iff.mpr ha.ne
  have pb := List.length_pos_iff.mpr hb.ne
  have ph := List.length_pos_iff.mpr hh.ne
  obtain ⟨U, V, lU, lV, hne, -, bV, hz, -⟩ := siegel_poly f g (h.length - 1) (by omega) (by omega) hB
  have eP : ∀ x, ev (trim (addL (mulL U qa) (mulL V qb))) x = ev U x * ev qa x + ev V x * ev qb x := fun x => by
    rw [ev_trim, ev_addL, ev_mulL, ev_mulL]
  have tP : Tr (trim (addL (mulL U qa) (mulL V qb))) := tr_trim _
  generalize trim (addL (mulL U qa) (mulL V qb)) = P at eP tP
  have zP : P = [] := by
    by_cases nP : P = []
    · exact nP
    · exfalso
      have l1 := mulP_len tP hh.tr nP hh.ne
      have e1 : mulP P h = trim (addL (mulL U f) (mulL V g)) := ev_eq (tr_mulP _ _) (tr_trim _) fun x => by
        rw [ev_mulP, eP, ev_trim, ev_addL, ev_mulL, ev_mulL, ea, eb]
        grind
      have l2 : (trim (addL (mulL U f) (mulL V g))).length ≤ h.length - 1 := len_le (tr_trim _) _ fun t ht => by
        rw [trim_get]
        exact hz t ht
      rw [← e1] at l2
      have := List.length_pos_iff.mpr nP
      omega
  have e0 : ∀ x, ev U x * ev qa x = -(ev V x * ev qb x) := fun x => by
    have := eP x
    rw [zP] at this
    simp only [ev] at this
    omega
  obtain ⟨U', V', c, hc, cop⟩ := cop
  have nV : trim V ≠ [] := fun z => by
    have zV : ∀ x, ev V x = 0 := fun x => by
      rw [← ev_trim, z]
      rfl
    have zU := ev_cancel ha.tr ha.ne (p := U) (q := []) fun x => by
      have := e0 x
      rw [zV] at this
      simp only [ev]
      grind
    rcases hne with ⟨s, hs⟩ | ⟨s, hs⟩
    · exact hs (ev_zero_coeffs U 0 (fun x _ => by rw [zU x]; rfl) s)
    · exact hs (ev_zero_coeffs V 0 (fun x _ => zV x) s)
  have eT : ∀ x, ev (trim (addL (mulL V U') ((mulL V' U).map (-1 * ·)))) x = ev V x * ev U' x - ev V' x * ev U x := fun x => by
    rw [ev_trim, ev_addL, ev_smul, ev_mulL, ev_mulL]
    omega
  have tT : Tr (trim (addL (mulL V U') ((mulL V' U).map (-1 * ·)))) := tr_trim _
  generalize trim (addL (mulL V U') ((mulL V' U).map (-1 * ·))) = T at eT tT
  have hT : mulP qa T = (trim V).map (c * ·) := ev_eq (tr_mulP _ _) (smul_tr (tr_trim _) hc) fun x => by
    rw [ev_mulP, ev_smul, ev_trim, eT]
    have h1 := e0 x
    have h2 := cop x
    grind
  have nT : T ≠ [] := fun z => by
    rw [z, mulP_nil] at hT
    have := congrArg List.length hT
    rw [List.length_map] at this
    exact nV (List.eq_nil_of_length_eq_zero this.symm)
  have lT : T.length = 1 := by
    clear hne
    have h1 := mulP_len ha.tr tT ha.ne nT
    rw [hT, List.length_map] at h1
    have h2 : (trim V).length ≤ V.length := trim_len V
    have := List.length_pos_iff.mpr nT
    omega
  obtain ⟨τ, rfl⟩ : ∃ τ, T = [τ] := by
    match T, lT with
    | [τ], _ => exact ⟨τ, rfl⟩
  have nτ : τ ≠ 0 := fun z => by
    have := last_ne tT nT
    rw [z] at this
    exact this rfl
  have u := (prm_unique (prim_prm (tr_trim V) nV) ha (a := c * sgc (trim V)) (b := τ) (fun z => by
    rcases Int.mul_eq_zero.mp z with z | z
    · exact hc z
    · exact sgc_ne (tr_trim V) nV z) nτ fun x => by
    have h4 : ev (mulP qa [τ]) x = ev ((trim V).map (c * ·)) x := by rw [hT]
    rw [ev_mulP, ev_smul, prim_ev (tr_trim V) nV] at h4
    simp only [ev] at h4
    grind).1
  rw [← u]
  refine prim_abs (tr_trim V) (fun s => ?_) t
  rw [trim_get]
  exact bV s
/-- the rests of the law's own division -/
theorem lrem_ex {v : Pl} {Y : Nat} (hv : Prm v) (hY : ∀ t, (v.getD t 0).natAbs ≤ Y) (lv : v.length ≤ 100) :
    ∀ (k n : Nat) (l : Pl) (X : Nat), Tr l → k ≤ n → l.length ≤ 100 → l.length + 1 ≤ v.length + k → 1 ≤ X → (∀ t, (l.getD t 0).natAbs ≤ X) → X * (2 * Y) ^ k < 2 ^ 400000 →
      ∃ (r q : Pl) (a : Int), LRem v n l r ∧ Tr r ∧ r.length < v.length ∧ a ≠ 0 ∧ Tr q ∧ (∀ x, a * ev l x = ev q x * ev v x + ev r x) ∧ (∀ t, (r.getD t 0).natAbs ≤ X * (2 * Y) ^ k) ∧ q.length ≤ l.length + 1 - v.length ∧ (v.length ≤ l.length → q.length + v.length = l.length + 1)
  | k, n, l, X, hl, hkn, ll, hk, hX1, hX, hN => by
    have pv := List.length_pos_iff.mpr hv.ne
    have hY1 : 1 ≤ Y := by
      have := hY (v.length - 1)
      have := last_ne hv.tr hv.ne
      unfold lastP at this
      omega
    have hP : 1 ≤ (2 * Y) ^ k := Nat.pow_pos (by omega)
    by_cases hlt : l.length < v.length
    · exact ⟨l, [], 1, .stop n l hlt, hl, hlt, by decide, tr_nil, fun x => by simp [ev], fun t => Nat.le_trans (hX t) (Nat.le_mul_of_pos_right _ hP), Nat.zero_le _, fun h => by omega⟩
    · obtain ⟨k, rfl⟩ : ∃ j, k = j + 1 := ⟨k - 1, by omega⟩
      obtain ⟨n, rfl⟩ : ∃ j, n = j + 1 := ⟨n - 1, by omega⟩
      have nl : l ≠ [] := fun z => by
        subst z
        simp only [List.length_nil] at hlt
        omega
      have ls := stepRaw_len nl (by omega) hv.ne
      have tl : Tr (stepRaw l v) := tr_stepRaw l v
      have hXN : X < 2 ^ 400000 := Nat.lt_of_le_of_lt (Nat.le_mul_of_pos_right _ hP) hN
      have hYN : Y < 2 ^ 400000 := by
        refine Nat.lt_of_le_of_lt ?_ hN
        have h1 : Y ≤ (2 * Y) ^ (k + 1) := by
          rw [Nat.pow_succ]
          have : 1 ≤ (2 * Y) ^ k := Nat.pow_pos (by omega)
          exact Nat.le_trans (by omega) (Nat.le_mul_of_pos_left _ this)
        exact Nat.le_trans h1 (Nat.le_mul_of_pos_left _ hX1)
      have eN : 2 * (X * Y) * (2 * Y) ^ k = X * (2 * Y) ^ (k + 1) := by
        rw [Nat.pow_succ]
        generalize (2 * Y) ^ k = P
        ac_rfl
      obtain ⟨r, q, a, h1, h2, h3, ha, tq, hm, hb, lq, _⟩ := lrem_ex hv hY lv k n (stepRaw l v) (2 * (X * Y)) tl (by omega) (by omega) (by omega) (by have := Nat.mul_pos hX1 hY1; omega) (stepRaw_abs hX hY) (by rw [eN]; exact hN)
      have lnz := last_ne hl nl
      have g1 : ∀ t, (trim (addL (raiseP [a * lastP l] (l.length - v.length)) q)).getD t 0 = (if l.length - v.length ≤ t then ([a * lastP l] : Pl).getD (t - (l.length - v.length)) 0 else 0) + q.getD t 0 := fun t => by
        rw [trim_get, addL_get, raise_get]
      have lQ : (trim (addL (raiseP [a * lastP l] (l.length - v.length)) q)).length = l.length - v.length + 1 := by
        refine Nat.le_antisymm (len_le (tr_trim _) _ fun t ht => ?_) ?_
        · rw [g1, if_pos (by omega), far (p := q) (by omega), far (p := [a * lastP l]) (by simp only [List.length_cons, List.length_nil]; omega)]
          simp
        · by_cases hh : l.length - v.length + 1 ≤ (trim (addL (raiseP [a * lastP l] (l.length - v.length)) q)).length
          · exact hh
          · exfalso
            have z := g1 (l.length - v.length)
            rw [far (by omega), if_pos (by omega), far (p := q) (by omega), Nat.sub_self] at z
            simp only [List.getD_cons_zero, Int.add_zero] at z
            rcases Int.mul_eq_zero.mp z.symm with z | z
            · exact ha z
            · exact lnz z
      refine ⟨r, trim (addL (raiseP [a * lastP l] (l.length - v.length)) q), a * lastP v, .step n l r (by omega) (by omega) (fun x hx => ?_) (fun x hx => ?_) h1, h2, h3, fun z => ?_, tr_trim _, fun x => ?_, ?_, by omega, fun _ => by omega⟩
      · obtain ⟨t, _, e⟩ := mem_getD hx
        have h5 := hX t
        have h6 := hY (v.length - 1)
        rw [e] at h5
        exact fm_big (Nat.lt_of_le_of_lt h6 hYN) (Nat.lt_of_le_of_lt h5 hXN)
      · obtain ⟨t, _, e⟩ := mem_getD hx
        have h5 := hY t
        have h6 := hX (l.length - 1)
        rw [e] at h5
        exact fm_big (Nat.lt_of_le_of_lt h6 hXN) (Nat.lt_of_le_of_lt h5 hYN)
      · rcases Int.mul_eq_zero.mp z with z | z
        · exact ha z
        · exact last_ne hv.tr hv.ne z
      · rw [ev_trim, ev_addL, ev_raiseP]
        have h1 := ev_stepRaw l v x
        have h3 := hm x
        simp only [ev]
        generalize x ^ (l.length - v.length) = X at *
        grind
      · intro t
        rw [← eN]
        exact hb t
termination_by k => k
theorem bits_ok {X Y k a b : Nat} (hX : X ≤ 2 ^ a) (hY : Y ≤ 2 ^ b) (hn : a + (1 + b) * k < 400000) : X * (2 * Y) ^ k < 2 ^ 400000 := by
  have h4 : (2 * Y) ^ k ≤ 2 ^ ((1 + b) * k) := by
    rw [Nat.pow_mul]
    refine Nat.pow_le_pow_left ?_ k
    rw [Nat.pow_add]
    exact Nat.mul_le_mul (Nat.le_refl _) hY
  refine Nat.lt_of_le_of_lt (Nat.mul_le_mul hX h4) ?_
  rw [← Nat.pow_add]
  exact Nat.pow_lt_pow_right (by decide) hn
theorem pr_len {p : Pl} (h : Tr p) : (primP p).length = p.length := by
  by_cases np : p = []
  · subst np
    rfl
  · have := congrArg List.length (prim_eq h np)
    rw [List.length_map] at this
    exact this.symm
/-- one turn of the law's own common factor -/
theorem lturn {u v : Pl} (hu : Prm u) (hv : Prm v) (lu : u.length ≤ 20) (lv : v.length ≤ 20) (bu : ∀ t, (u.getD t 0).natAbs ≤ 2 ^ 4300) (bv : ∀ t, (v.getD t 0).natAbs ≤ 2 ^ 4300) :
    ∃ (r q : Pl) (a b : Int), LRem v (u.length + 1) u r ∧ Tr r ∧ r.length < v.length ∧ r.length ≤ 20 ∧ Rm u v (primP r) q a b ∧ (∀ t, (r.getD t 0).natAbs ≤ 2 ^ 100000) ∧ (v.length ≤ u.length → q.length + v.length = u.length + 1) := by
  have pv := List.length_pos_iff.mpr hv.ne
  have hbits := bits_ok (k := u.length) (a := 4300) (b := 4300) (Nat.le_refl _) (Nat.le_refl _) (by
    have := Nat.mul_le_mul_left (1 + 4300) lu
    omega)
  obtain ⟨r, q, a, h1, h2, h3, ha, tq, hm, hb, _, h6⟩ := lrem_ex hv bv (by omega) u.length (u.length + 1) u (2 ^ 4300) hu.tr (by omega) (by omega) (by omega) (Nat.pow_pos (by decide)) bu hbits
  obtain ⟨s, hs, es⟩ := prim_ev0 h2
  refine ⟨r, q, a, s, h1, h2, h3, by omega, ⟨ha, hs, tq, fun x => by rw [hm, es]⟩, fun t => Nat.le_trans (hb t) ?_, h6⟩
  have e1 : (2 : Nat) * 2 ^ 4300 = 2 ^ (4300 + 1) := by
    rw [Nat.pow_add 2 4300 1, Nat.mul_comm, Nat.pow_one]
  rw [e1, ← Nat.pow_mul, ← Nat.pow_add]
  refine Nat.pow_le_pow_right (by decide) ?_
  have := Nat.mul_le_mul_left (4300 + 1) lu
  omega
theorem lgcd_ex {f g : Pl} (hf : Prm f) (hg : Prm g) (lf : f.length ≤ 7) (lg : g.length ≤ 7) (bB : n1 f + n1 g ≤ 2 ^ 317) (cop : Cop f g) :
    ∀ (n : Nat) (u v : Pl), v.length ≤ n → Inv f g u v → Prm u → Pz v → v.length < u.length → u.length ≤ f.length → u.length ≤ g.length → (∀ t, (u.getD t 0).natAbs ≤ 2 ^ 4300) → ∃ h, LGcd n u v h ∧ h.length = 1 := by
  have fin : ∀ u, Inv f g u [] → Prm u → u.length = 1 := fun u hi hu => by
    obtain ⟨_, h2, h3⟩ := inv_end hi hu hf.tr hg.tr
    have := cop_dv hu cop h2 h3
    rw [this]
    rfl
  intro n
  induction n with
  | zero =>
    intro u v lv hi hu hv _ _ _ bu
    have : v = [] := List.eq_nil_of_length_eq_zero (by omega)
    subst this
    exact ⟨u, .stop 0 u, fin u hi hu⟩
  | succ n ih =>
    intro u v lv hi hu hv luv luf lug bu
    rcases hv with hv | hv
    · subst hv
      exact ⟨u, .stop _ u, fin u hi hu⟩
    · have hB1 : 1 ≤ n1 f + n1 g := by
        have := coef_le f (f.length - 1)
        have h2 := hf.l
        unfold lastP at h2
        omega
      have pv := List.length_pos_iff.mpr hv.ne
      have bnd : ∀ {w z : Pl}, Inv f g w z → Prm z → z.length < w.length → w.length ≤ f.length → w.length ≤ g.length → ∀ t, (z.getD t 0).natAbs ≤ 2 ^ 4300 := fun {w z} h1 h2 h3 h4 h5 t => by
        have h6 := inv_bound h1 hf hg h2 h3 h4 h5 hB1 t
        have h7 := List.length_pos_iff.mpr h2.ne
        refine Nat.le_trans h6 (Nat.le_trans (Nat.pow_le_pow_left bB _) ?_)
        rw [← Nat.pow_mul]
        refine Nat.pow_le_pow_right (by decide) ?_
        have := Nat.mul_le_mul_left 317 (show f.length + g.length + 2 - 2 * w.length ≤ 12 by omega)
        omega
      have bv := bnd hi hv luv luf lug
      obtain ⟨r, q, a, b, h1, h2, h3, h4, h5, h6, h7⟩ := lturn hu hv (by omega) (by omega) bu bv
      have lpr := pr_len h2
      have hi2 := inv_step hi h5 (h7 (by omega)) (by omega) (by omega)
      have pr := pz_prim h2
      have br : ∀ t, ((primP r).getD t 0).natAbs < 2 ^ 4400 := fun t => by
        rcases pr with z | z
        · rw [z]
          exact Nat.pow_pos (by decide)
        · exact Nat.lt_of_le_of_lt (bnd hi2 z (by omega) (by omega) (by omega) t) (Nat.pow_lt_pow_right (by decide) (by decide))
      obtain ⟨h, g1, g2⟩ := ih v (primP r) (by omega) hi2 hv pr (by omega) (by omega) (by omega) bv
      exact ⟨h, .step n u v r h hv.ne (by omega) (by omega) h1 (low_quot h2 (by omega) h6 (Nat.pow_lt_pow_right (by decide) (by decide)) br) g1, g2⟩
theorem lgcd_run1 {f g : Pl} (hf : Prm f) (hg : Prm g) (lf : f.length ≤ 7) (lg : g.length ≤ 7) (bB : n1 f + n1 g ≤ 2 ^ 317) (cop : Cop f g) (hl : g.length ≤ f.length) (n : Nat) (hn : g.length ≤ n) : ∃ h, LGcd n f g h ∧ h.length = 1 := by
  have pg := List.length_pos_iff.mpr hg.ne
  obtain ⟨n, rfl⟩ : ∃ j, n = j + 1 := ⟨n - 1, by omega⟩
  have cf : ∀ {p : Pl}, n1 p ≤ n1 f + n1 g → ∀ t, (p.getD t 0).natAbs ≤ 2 ^ 4300 := fun {p} h t => Nat.le_trans (coef_le p t) (Nat.le_trans h (Nat.le_trans bB (Nat.pow_le_pow_right (by decide) (by decide))))
  obtain ⟨r, q, a, b, h1, h2, h3, h4, h5, h6, h7⟩ := lturn hf hg (by omega) (by omega) (cf (by omega)) (cf (by omega))
  have lpr := pr_len h2
  have hi2 := inv_step (inv_start f g) h5 (h7 hl) hl (by omega)
  have pr := pz_prim h2
  have hB1 : 1 ≤ n1 f + n1 g := by
    have := coef_le f (f.length - 1)
    have h2 := hf.l
    unfold lastP at h2
    omega
  have br : ∀ t, ((primP r).getD t 0).natAbs < 2 ^ 4400 := fun t => by
    rcases pr with z | z
    · rw [z]
      exact Nat.pow_pos (by decide)
    · have h8 := inv_bound hi2 hf hg z (by omega) hl (Nat.le_refl _) hB1 t
      have h9 := List.length_pos_iff.mpr z.ne
      refine Nat.lt_of_le_of_lt (Nat.le_trans h8 (Nat.pow_le_pow_left bB _)) ?_
      rw [← Nat.pow_mul]
      refine Nat.pow_lt_pow_right (by decide) ?_
      have := Nat.mul_le_mul_left 317 (show f.length + g.length + 2 - 2 * g.length ≤ 12 by omega)
      omega
  obtain ⟨h, g1, g2⟩ := lgcd_ex hf hg lf lg bB cop n g (primP r) (by omega) hi2 hg pr (by omega) hl (Nat.le_refl _) (cf (by omega))
  exact ⟨h, .step n f g r h hg.ne (by omega) (by omega) h1 (low_quot h2 (by omega) h6 (Nat.pow_lt_pow_right (by decide) (by decide)) br) g1, g2⟩
theorem lgcd_run {f g : Pl} (hf : Prm f) (hg : Prm g) (lf : f.length ≤ 7) (lg : g.length ≤ 7) (bB : n1 f + n1 g ≤ 2 ^ 317) (cop : Cop f g) : ∃ h, LGcd (f.length + g.length + 2) f g h ∧ h.length = 1 := by
  by_cases hl : g.length ≤ f.length
  · exact lgcd_run1 hf hg lf lg bB cop hl _ (by omega)
  · obtain ⟨h, g1, g2⟩ := lgcd_run1 hg hf lg lf (by omega) (cop_symm cop) (by omega) (f.length + g.length + 1) (by omega)
    refine ⟨h, .step _ f g f h hg.ne (by omega) (by omega) (.stop _ _ (by omega)) (low_small hf.tr (by omega) (M := 2 ^ 317) (fun t => Nat.le_trans (coef_le f t) (by omega)) (Nat.pow_lt_pow_right (by decide) (by decide))) ?_, g2⟩
    rw [prim_self hf]
    exact g1
end PA

set_option linter.all false
/-! The second half of the law. -/
namespace PA
def Sm7 (p : Pl) : Prop := p.length ≤ 7 ∧ ∀ x ∈ p, x.natAbs ≤ 1000000
theorem sm7_get {p : Pl} (h : Sm7 p) (t : Nat) : (p.getD t 0).natAbs ≤ 1000000 := by
  by_cases ht : t < p.length
  · exact h.2 _ (getD_mem' ht)
  · rw [far (by omega)]
    exact Nat.zero_le _
theorem sm7_n1 {p : Pl} (h : Sm7 p) : n1 p ≤ 7000000 := by
  have h1 := n1_le p (sm7_get h)
  have h2 := Nat.mul_le_mul_right 1000000 h.1
  omega
theorem sm7_prim {p : Pl} (hp : Tr p) (h : Sm7 p) : Sm7 (primP p) := by
  refine ⟨by rw [pr_len hp]; exact h.1, fun x hx => ?_⟩
  obtain ⟨t, _, e⟩ := mem_getD hx
  rw [← e]
  exact prim_abs hp (sm7_get h) t
theorem sgc_le {p : Pl} (hp : Tr p) {M : Nat} (h : ∀ t, (p.getD t 0).natAbs ≤ M) : (sgc p).natAbs ≤ M := by
  rw [sgc_abs]
  exact cont_le hp h
theorem prod_get {S A : Pl} (hS : Sm7 S) (hA : Sm7 A) (t : Nat) : ((mulP S A).getD t 0).natAbs ≤ 7000000000000 := by
  have h1 := mulP_abs (H := S) (sm7_get hA) t
  have h2 := Nat.mul_le_mul_right 1000000 (sm7_n1 hS)
  omega
theorem prod_len {S A : Pl} (hS : Sm7 S) (hA : Sm7 A) : (mulP S A).length ≤ 13 := by
  have h1 := hS.1
  have h2 := hA.1
  refine len_le (tr_mulP _ _) _ fun t ht => ?_
  rw [mulP, trim_get]
  exact mulL_far _ _ _ (by omega)
theorem pw9 {n : Nat} (h : n < 2 ^ 200) : n < 2 ^ 9000 := pow_lt h (by decide)
theorem dv_len {h k f : Pl} (hh : Prm h) (hk : Prm k) {U V g : Pl} {c : Int} (hc : c ≠ 0) (e : ∀ x, c * ev h x = ev U x * ev f x + ev V x * ev g x) (d1 : Dv k f) (d2 : Dv k g) : ∃ K, Tr K ∧ ∀ x, c * ev h x = ev K x * ev k x := by
  obtain ⟨q1, _, e1⟩ := d1
  obtain ⟨q2, _, e2⟩ := d2
  refine ⟨trim (addL (mulL U q1) (mulL V q2)), tr_trim _, fun x => ?_⟩
  rw [e, e1, e2, ev_trim, ev_addL, ev_mulL, ev_mulL]
  grind
theorem dv_len2 {h k K : Pl} (hh : Prm h) (hk : Prm k) (tK : Tr K) {c : Int} (hc : c ≠ 0) (e : ∀ x, c * ev h x = ev K x * ev k x) : K ≠ [] ∧ K.length + k.length = h.length + 1 := by
  have em : mulP K k = h.map (c * ·) := ev_eq (tr_mulP _ _) (smul_tr hh.tr hc) fun x => by rw [ev_mulP, ev_smul, e]
  have nK : K ≠ [] := fun z => by
    rw [z, nil_mulP] at em
    have := congrArg List.length em
    rw [List.length_map] at this
    exact hh.ne (List.eq_nil_of_length_eq_zero this.symm)
  have := mulP_len tK hk.tr nK hk.ne
  rw [em, List.length_map] at this
  exact ⟨nK, this.symm⟩
theorem gcd_uniq {H f g h k : Pl} {n m : Nat} (a : GcdOf H f g n h) (b : GcdOf H g f m k) : h = k := by
  obtain ⟨U1, V1, c1, hc1, e1⟩ := a.b
  obtain ⟨U2, V2, c2, hc2, e2⟩ := b.b
  obtain ⟨K, tK, eK⟩ := dv_len a.p b.p hc1 e1 b.d2 b.d1
  obtain ⟨L, tL, eL⟩ := dv_len b.p a.p hc2 e2 a.d2 a.d1
  obtain ⟨nK, lK⟩ := dv_len2 a.p b.p tK hc1 eK
  obtain ⟨nL, lL⟩ := dv_len2 b.p a.p tL hc2 eL
  have p1 := List.length_pos_iff.mpr nK
  have p2 := List.length_pos_iff.mpr nL
  have l1 : K.length = 1 := by omega
  obtain ⟨τ, rfl⟩ : ∃ τ, K = [τ] := by
    match K, l1 with
    | [τ], _ => exact ⟨τ, rfl⟩
  have nτ : τ ≠ 0 := fun z => by
    have := last_ne tK nK
    rw [z] at this
    exact this rfl
  exact (prm_unique a.p b.p hc1 nτ fun x => by
    have := eK x
    simp only [ev] at this
    grind).1
theorem quot_prm {f h q : Pl} (hf : Prm f) (hh : Prm h) (hq : Tr q) (e : ∀ x, ev f x = ev q x * ev h x) : Prm q := by
  have nq : q ≠ [] := fun z => by
    obtain ⟨x, _, hx⟩ := ev_ne hf.tr hf.ne 0
    have := e x
    rw [z] at this
    simp only [ev, Int.zero_mul] at this
    exact hx this
  have u := prm_unique hf (prm_mul (prim_prm hq nq) hh) (a := 1) (b := sgc q) (by decide) (sgc_ne hq nq) fun x => by
    rw [ev_mulP, Int.one_mul, e, prim_ev hq nq]
    grind
  have e2 := prim_eq hq nq
  have e3 : (primP q).map (sgc q * ·) = primP q := by
    rw [← u.2]
    have : (fun x : Int => 1 * x) = id := by
      funext x
      exact Int.one_mul x
    rw [this, List.map_id]
  rw [e3] at e2
  rw [e2]
  exact prim_prm hq nq
theorem prmfits0 : PrimFits [] := ⟨Nat.pow_pos (by decide), by decide⟩
theorem low_nil : LowOk [] := ⟨by decide, (fun x h => nomatch h), (fun h => absurd rfl h), (fun x h => nomatch h)⟩
/-- where one of the two is nought -/
theorem ot_one {p : Pl} (hp : Tr p) (np : p ≠ []) (lp : p.length ≤ 13) (bp : ∀ t, (p.getD t 0).natAbs ≤ 7000000000000) :
    (primP p ≠ [] ∧ primP (primP p) = primP p ∧ LowOk (primP p) ∧ Divs p (primP p) (some [sgc p]) ∧ Divs [] (primP p) (some []) ∧ (∀ x ∈ [sgc p], ∀ y ∈ primP p, Fm x y) ∧ mulP [sgc p] (primP p) = p ∧ LowOk [sgc p] ∧ primP [sgc p] = [1]) := by
  have pp := prim_prm hp np
  have sg := sgc_ne hp np
  have ts : Tr [sgc p] := tr_of_last (.inr sg)
  have ll := pr_len hp
  have bq := prim_abs hp bp
  have bsg : (sgc p).natAbs ≤ 7000000000000 := sgc_le hp bp
  have fm : ∀ x ∈ [sgc p], ∀ y ∈ primP p, Fm x y := fun x hx y hy => by
    have : x = sgc p := by simpa using hx
    obtain ⟨t, _, e⟩ := mem_getD hy
    rw [this, ← e]
    exact fm_small bsg (bq t) (by decide) (by decide)
  have e : ∀ x, ev p x = ev [sgc p] x * ev (primP p) x := fun x => by
    rw [prim_ev hp np x]
    simp [ev]
  refine ⟨pp.ne, prim_self pp, low_small pp.tr (by omega) bq (pw9 (by decide)), divs_yes hp pp.tr ts pp.ne e (by omega) (by omega) (Nat.lt_of_le_of_lt (bq _) (pw9 (by decide))) fm, divs_yes tr_nil pp.tr tr_nil pp.ne (fun x => by simp [ev]) (by decide) (by omega) (Nat.lt_of_le_of_lt (bq _) (pw9 (by decide))) (fun x h => nomatch h), fm, ?_, ?_, ?_⟩
  · exact ev_eq (tr_mulP _ _) hp fun x => by rw [ev_mulP, e]
  · refine low_small ts (show 1 ≤ 1000 by decide) (M := 7000000000000) (fun t => ?_) (pw9 (by decide))
    cases t with
    | zero => exact bsg
    | succ t => exact Nat.zero_le _
  · exact prim_of ts prm_one sg fun x => by simp [ev]
theorem ot_g {S A B : Pl} (hS : Tr S) (hA : Tr A) (hB : Tr B) (sS : Sm7 S) (sA : Sm7 A) (sB : Sm7 B) :
    ∃ (g : Pl) (n m : Nat), GcdRun n (primP (mulP S A)) (primP (mulP S B)) g ∧ GcdRun m (primP (mulP S B)) (primP (mulP S A)) g ∧ (mulP S A = [] → mulP S B = [] → g = []) ∧ (¬ (mulP S A = [] ∧ mulP S B = []) → OT2 (mulP S A) (mulP S B) g) := by
  have t1 := tr_mulP S A
  have t2 := tr_mulP S B
  have l1 := prod_len sS sA
  have l2 := prod_len sS sB
  have b1 := prod_get sS sA
  have b2 := prod_get sS sB
  by_cases z1 : mulP S A = []
  · by_cases z2 : mulP S B = []
    · refine ⟨[], 0, 0, ?_, ?_, fun _ _ => rfl, fun h => absurd ⟨z1, z2⟩ h⟩
      · rw [z1, z2]
        exact .stop _
      · rw [z1, z2]
        exact .stop _
    · obtain ⟨o1, o2, o3, o4, o5, o6, o7, o8, o9⟩ := ot_one t2 z2 l2 b2
      refine ⟨primP (mulP S B), 1, 0, ?_, ?_, fun _ h => absurd h z2, fun _ => ⟨o1, o2, o3, [], [sgc (mulP S B)], [1], ?_, o4, by decide, show 1 ≤ 100 by decide, (fun x h => nomatch h), o6, ?_, o7, low_nil, o8, ?_, rfl⟩⟩
      · rw [z1, prim_nil]
        exact .step 0 0 _ _ [] _ o1 prmfits0 (.stop _ (by rw [prim_nil]; exact List.length_pos_iff.mpr o1)) (.stop _)
      · rw [z1, prim_nil]
        exact .stop _
      · rw [z1]
        exact o5
      · rw [z1]
        rfl
      · rw [o9, prim_nil]
        exact .step 2 _ _ [] _ (by decide) (by decide) (by decide) (.stop _ _ (by decide)) low_nil (.stop _ _)
  · by_cases z2 : mulP S B = []
    · obtain ⟨o1, o2, o3, o4, o5, o6, o7, o8, o9⟩ := ot_one t1 z1 l1 b1
      refine ⟨primP (mulP S A), 0, 1, ?_, ?_, fun h _ => absurd h z1, fun _ => ⟨o1, o2, o3, [sgc (mulP S A)], [], [1], o4, ?_, show 1 ≤ 100 by decide, by decide, o6, (fun x h => nomatch h), o7, ?_, o8, low_nil, ?_, rfl⟩⟩
      · rw [z2, prim_nil]
        exact .stop _
      · rw [z2, prim_nil]
        exact .step 0 0 _ _ [] _ o1 prmfits0 (.stop _ (by rw [prim_nil]; exact List.length_pos_iff.mpr o1)) (.stop _)
      · rw [z2]
        exact o5
      · rw [z2]
        rfl
      · rw [o9, prim_nil]
        exact .stop _ _
    · have nS : S ≠ [] := fun z => z1 (by rw [z, nil_mulP])
      have nA : A ≠ [] := fun z => z1 (by rw [z, mulP_nil])
      have nB : B ≠ [] := fun z => z2 (by rw [z, mulP_nil])
      have pS := prim_prm hS nS
      have pA := prim_prm hA nA
      have pB := prim_prm hB nB
      have qS := sm7_prim hS sS
      have qA := sm7_prim hA sA
      have qB := sm7_prim hB sB
      have nnS := sm7_n1 qS
      have nnA := sm7_n1 qA
      have nnB := sm7_n1 qB
      have lS := qS.1
      have lA := qA.1
      have lB := qB.1
      obtain ⟨n, h, G⟩ := gcd_run pS pA pB (Nat.le_trans nnS (by decide)) (Nat.le_trans (Nat.add_le_add nnA nnB) (by decide)) (by omega) (by omega)
      obtain ⟨m, k, G2⟩ := gcd_run pS pB pA (Nat.le_trans nnS (by decide)) (Nat.le_trans (Nat.add_le_add nnB nnA) (by decide)) (by omega) (by omega)
      have hk := gcd_uniq G G2
      subst hk
      have eA := prim_mul hS hA nS nA
      have eB := prim_mul hS hB nS nB
      have pG := prm_mul pS G.p
      obtain ⟨qa, tqa, ea⟩ := G.d1
      obtain ⟨qb, tqb, eb⟩ := G.d2
      have pa := quot_prm pA G.p tqa ea
      have pb := quot_prm pB G.p tqb eb
      have la := mulP_len pa.tr G.p.tr pa.ne G.p.ne
      have lb := mulP_len pb.tr G.p.tr pb.ne G.p.ne
      have ma : mulP qa h = primP A := ev_eq (tr_mulP _ _) pA.tr fun x => by rw [ev_mulP, ea]
      have mb : mulP qb h = primP B := ev_eq (tr_mulP _ _) pB.tr fun x => by rw [ev_mulP, eb]
      rw [ma] at la
      rw [mb] at lb
      have lh := List.length_pos_iff.mpr G.p.ne
      have lpa := List.length_pos_iff.mpr pa.ne
      have lpb := List.length_pos_iff.mpr pb.ne
      have cop : Cop qa qb := by
        obtain ⟨U, V, c, hc, e⟩ := G.b
        refine ⟨U, V, c, hc, fun x => ?_⟩
        have := ev_cancel G.p.tr G.p.ne (p := addL (mulL U qa) (mulL V qb)) (q := [c]) (fun x => by
          have h1 := e x
          rw [ea, eb] at h1
          rw [ev_addL, ev_mulL, ev_mulL]
          simp only [ev]
          grind) x
        rw [ev_addL, ev_mulL, ev_mulL] at this
        rw [this]
        simp [ev]
      have hB1 : 1 ≤ n1 (primP A) := by
        have := coef_le (primP A) ((primP A).length - 1)
        have h2 := pA.l
        unfold lastP at h2
        omega
      have B24 : n1 (primP A) + n1 (primP B) ≤ 2 ^ 24 := Nat.le_trans (Nat.add_le_add nnA nnB) (by decide)
      have ca : ∀ t, (qa.getD t 0).natAbs ≤ 2 ^ 312 := fun t => by
        refine Nat.le_trans (cof_small pa pb G.p ea eb pA.tr pB.tr cop (by omega) t) (Nat.le_trans (Nat.pow_le_pow_left B24 _) ?_)
        rw [← Nat.pow_mul]
        refine Nat.pow_le_pow_right (by decide) ?_
        have := Nat.mul_le_mul_left 24 (show (primP A).length + (primP B).length - 2 * (h.length - 1) - 1 ≤ 13 by omega)
        omega
      have cb : ∀ t, (qb.getD t 0).natAbs ≤ 2 ^ 312 := fun t => by
        refine Nat.le_trans (cof_small pb pa G.p eb ea pB.tr pA.tr (cop_symm cop) (by omega) t) (Nat.le_trans (Nat.pow_le_pow_left (show n1 (primP B) + n1 (primP A) ≤ 2 ^ 24 by omega) _) ?_)
        rw [← Nat.pow_mul]
        refine Nat.pow_le_pow_right (by decide) ?_
        have := Nat.mul_le_mul_left 24 (show (primP B).length + (primP A).length - 2 * (h.length - 1) - 1 ≤ 13 by omega)
        omega
      have na : n1 qa + n1 qb ≤ 2 ^ 317 := by
        have h1 := n1_le qa ca
        have h2 := n1_le qb cb
        have h3 := Nat.mul_le_mul_right (2 ^ 312) (show qa.length ≤ 7 by omega)
        have h4 := Nat.mul_le_mul_right (2 ^ 312) (show qb.length ≤ 7 by omega)
        have h5 : 7 * 2 ^ 312 + 7 * 2 ^ 312 ≤ 2 ^ 317 := by
          rw [← Nat.add_mul, show 317 = 5 + 312 by decide, Nat.pow_add]
          exact Nat.mul_le_mul_right _ (by decide)
        omega
      obtain ⟨hh, lg, lhh⟩ := lgcd_run pa pb (by omega) (by omega) na cop
      -- the quotients
      have sSn := sgc_ne hS nS
      have sAn := sgc_ne hA nA
      have sBn := sgc_ne hB nB
      have bsS : (sgc S).natAbs ≤ 1000000 := sgc_le hS (sm7_get sS)
      have bsA : (sgc A).natAbs ≤ 1000000 := sgc_le hA (sm7_get sA)
      have bsB : (sgc B).natAbs ≤ 1000000 := sgc_le hB (sm7_get sB)
      have bG : ∀ t, ((mulP (primP S) h).getD t 0).natAbs ≤ 7000000 * 2 ^ 1400 := fun t => Nat.le_trans (mulP_abs G.s t) (Nat.mul_le_mul_right _ nnS)
      have bGN : 7000000 * 2 ^ 1400 < 2 ^ 9000 := by
        refine Nat.lt_of_le_of_lt (Nat.mul_le_mul_right _ (show 7000000 ≤ 2 ^ 30 by decide)) ?_
        rw [← Nat.pow_add]
        exact Nat.pow_lt_pow_right (by decide) (by decide)
      have lG := mulP_len pS.tr G.p.tr pS.ne G.p.ne
      have quo : ∀ (X : Pl) (hX : Tr X) (nX : X ≠ []) (q : Pl) (pq : Prm q) (lq : q.length ≤ 7) (cq : ∀ t, (q.getD t 0).natAbs ≤ 2 ^ 312) (bX : (sgc X).natAbs ≤ 1000000) (eX : ∀ x, ev (primP X) x = ev q x * ev h x) (lX : (mulP S X).length ≤ 13),
          Divs (mulP S X) (mulP (primP S) h) (some (q.map (sgc S * sgc X * ·))) ∧ (q.map (sgc S * sgc X * ·)).length ≤ 100 ∧ (∀ x ∈ q.map (sgc S * sgc X * ·), ∀ y ∈ mulP (primP S) h, Fm x y) ∧ mulP (q.map (sgc S * sgc X * ·)) (mulP (primP S) h) = mulP S X ∧ LowOk (q.map (sgc S * sgc X * ·)) ∧ primP (q.map (sgc S * sgc X * ·)) = q := by
        intro X hX nX q pq lq cq bX eX lX
        have sXn := sgc_ne hX nX
        have hs : sgc S * sgc X ≠ 0 := fun z => by
          rcases Int.mul_eq_zero.mp z with z | z
          · exact sSn z
          · exact sXn z
        have tq := smul_tr pq.tr hs
        have e : ∀ x, ev (mulP S X) x = ev (q.map (sgc S * sgc X * ·)) x * ev (mulP (primP S) h) x := fun x => by
          rw [ev_mulP, ev_mulP, ev_smul, prim_ev hS nS, prim_ev hX nX, eX]
          grind
        have bq : ∀ t, ((q.map (sgc S * sgc X * ·)).getD t 0).natAbs ≤ 1000000 * 1000000 * 2 ^ 312 := fun t => by
          rw [getD_map_mul, Int.natAbs_mul, Int.natAbs_mul]
          exact Nat.mul_le_mul (Nat.mul_le_mul bsS bX) (cq t)
        have bqN : 1000000 * 1000000 * 2 ^ 312 < 2 ^ 9000 := by
          refine Nat.lt_of_le_of_lt (Nat.mul_le_mul_right _ (show 1000000 * 1000000 ≤ 2 ^ 40 by decide)) ?_
          rw [← Nat.pow_add]
          exact Nat.pow_lt_pow_right (by decide) (by decide)
        have fm : ∀ x ∈ q.map (sgc S * sgc X * ·), ∀ y ∈ mulP (primP S) h, Fm x y := fun x hx y hy => by
          obtain ⟨s, _, e1⟩ := mem_getD hx
          obtain ⟨t, _, e2⟩ := mem_getD hy
          rw [← e1, ← e2]
          exact fm_of (Nat.lt_of_le_of_lt (bq s) bqN) (Nat.lt_of_le_of_lt (bG t) bGN)
        refine ⟨divs_yes (tr_mulP _ _) pG.tr tq pG.ne e (by omega) (by omega) (Nat.lt_of_le_of_lt (bG _) bGN) fm, by rw [List.length_map]; omega, fm, ev_eq (tr_mulP _ _) (tr_mulP _ _) fun x => by rw [ev_mulP, e], low_small tq (by rw [List.length_map]; omega) bq bqN, prim_of tq pq hs fun x => by rw [ev_smul]⟩
      obtain ⟨u1, u2, u3, u4, u5, u6⟩ := quo A hA nA qa pa (by omega) ca bsA ea l1
      obtain ⟨w1, w2, w3, w4, w5, w6⟩ := quo B hB nB qb pb (by omega) cb bsB eb l2
      refine ⟨mulP (primP S) h, n, m, by rw [eA, eB]; exact G.r, by rw [eA, eB]; exact G2.r, fun z => absurd z z1, fun _ => ⟨pG.ne, prim_self pG, low_small pG.tr (by omega) bG bGN, _, _, hh, u1, w1, u2, w2, u3, w3, u4, w4, u5, w5, ?_, lhh⟩⟩
      rw [u6, w6]
      exact lg
theorem ot_facts {S A B : Pl} (hS : Tr S) (hA : Tr A) (hB : Tr B) (sS : Sm7 S) (sA : Sm7 A) (sB : Sm7 B) : OTFacts (mulP S A) (mulP S B) := by
  have l1 := prod_len sS sA
  have l2 := prod_len sS sB
  have b1 := prod_get sS sA
  have b2 := prod_get sS sB
  refine ⟨by omega, by omega, prim_fits' (tr_mulP _ _) (by omega) b1 (by decide), prim_fits' (tr_mulP _ _) (by omega) b2 (by decide), ot_g hS hA hB sS sA sB, fun u v u1 u5 v1 v3 => ?_⟩
  have tr : Tr [u, v] := tr_of_last (.inr (show v ≠ 0 by omega))
  have b : ∀ t, (([u, v] : Pl).getD t 0).natAbs ≤ 5 := fun t => by
    match t with
    | 0 => show u.natAbs ≤ 5; omega
    | 1 => show v.natAbs ≤ 5; omega
    | t + 2 => exact Nat.zero_le _
  have pp := prim_prm tr (by simp)
  have ll := pr_len tr
  simp only [List.length_cons, List.length_nil] at ll
  refine ⟨low_small tr (show 2 ≤ 1000 by decide) b (pw9 (by decide)), ?_⟩
  obtain ⟨o, h, _⟩ := divs_ex (one := mulP S A) (two := primP [u, v]) (M := 2 ^ 43) (T := 5) (last_ne pp.tr pp.ne) (prim_abs tr b) (fun t => Nat.le_trans (b1 t) (by decide)) (pw9 (by decide)) (by omega) (by omega) (by
    refine Nat.lt_of_le_of_lt (Nat.mul_le_mul (Nat.le_refl _) (Nat.pow_le_pow_left (show 1 + 5 ≤ 2 ^ 3 by decide) _)) ?_
    rw [← Nat.pow_mul, ← Nat.pow_add]
    exact Nat.pow_lt_pow_right (by decide) (by omega))
  exact ⟨o, h⟩
end PA

set_option Elab.async false
set_option linter.all false
set_option maxRecDepth 100000
set_option maxHeartbeats 8000000
namespace K78
open PySem PySem.Spec PyProof.Rows L2 PA
theorem ptAll : PTAll := fun c1 c2 mine other few h1 b1 h2 b2 l1 l2 l3 e1 e2 e3 => PA.pt_facts h1 b1 h2 b2 ⟨l1, PA.getD_le e1⟩ ⟨l2, PA.getD_le e2⟩ ⟨l3, fun t => Nat.le_trans (PA.getD_le e3 t) (by decide)⟩
theorem otAll : OTAll := fun S A B hS hA hB lS lA lB bS bA bB => PA.ot_facts hS hA hB ⟨lS, bS⟩ ⟨lA, bA⟩ ⟨lB, bB⟩
theorem df_mk {K : PySem.W.Frag} {h : Heap} {mg : Str → Option Value} {x : Str} {st : Stmt} {ps : List Str} {f : Addr} {od an : Option Addr} {sl : Array (Option Value)} {oc kV dc pm cd ct : Value} (X : K.In h) (G : h.Ns mainGlobals mg)
    (a : PySem.W.nsIn K mainGlobals x = some (some (.ref f))) (l : K.lookup f = some ⟨oc, od, .func (PySem.W.fnOf x x (defArgs st) (defBody st) (defScope st) .none kV dc pm an cd ct), sl⟩) (c : PySem.W.codeIn K cd x = true) (k : PySem.W.keepIn K (.ref f) = true)
    (hb : ∀ (kV doc pm : Value) (an : Option Addr) (cdv ct : Value) (us : List Value), us.length = ps.length → bindArgs (PySem.W.fnOf x x (defArgs st) (defBody st) (defScope st) .none kV doc pm an cdv ct) ⟨us, []⟩ = pure (ps.zip us)) :
    Df K mg x st ps f (PySem.W.fnOf x x (defArgs st) (defBody st) (defScope st) .none kV dc pm an cd ct) :=
  let F := fun_mk (st := st) l c k
  ⟨F, PySem.W.mg_of X G a, F.binds hb⟩
theorem all_mk {l : PySem.W.OpenLaw} {w : World} {K : PySem.W.Frag} {h : Heap} {mg : Str → Option Value} {fa : Addr} (M1 : PTAll) (M2 : OTAll) (X : K.In h) (G : h.Ns mainGlobals mg) (hfa : mg "law" = some (.ref fa))
    {f0 : Addr} {od0 an0 : Option Addr} {sl0 : Array (Option Value)} {oc0 kV0 dc0 pm0 cd0 ct0 : Value}
    {f1 : Addr} {od1 an1 : Option Addr} {sl1 : Array (Option Value)} {oc1 kV1 dc1 pm1 cd1 ct1 : Value}
    {f2 : Addr} {od2 an2 : Option Addr} {sl2 : Array (Option Value)} {oc2 kV2 dc2 pm2 cd2 ct2 : Value}
    {f3 : Addr} {od3 an3 : Option Addr} {sl3 : Array (Option Value)} {oc3 kV3 dc3 pm3 cd3 ct3 : Value}
    {f4 : Addr} {od4 an4 : Option Addr} {sl4 : Array (Option Value)} {oc4 kV4 dc4 pm4 cd4 ct4 : Value}
    {f5 : Addr} {od5 an5 : Option Addr} {sl5 : Array (Option Value)} {oc5 kV5 dc5 pm5 cd5 ct5 : Value}
    {f6 : Addr} {od6 an6 : Option Addr} {sl6 : Array (Option Value)} {oc6 kV6 dc6 pm6 cd6 ct6 : Value}
    {f7 : Addr} {od7 an7 : Option Addr} {sl7 : Array (Option Value)} {oc7 kV7 dc7 pm7 cd7 ct7 : Value}
    {f8 : Addr} {od8 an8 : Option Addr} {sl8 : Array (Option Value)} {oc8 kV8 dc8 pm8 cd8 ct8 : Value}
    {f9 : Addr} {od9 an9 : Option Addr} {sl9 : Array (Option Value)} {oc9 kV9 dc9 pm9 cd9 ct9 : Value}
    {f10 : Addr} {od10 an10 : Option Addr} {sl10 : Array (Option Value)} {oc10 kV10 dc10 pm10 cd10 ct10 : Value}
    {f11 : Addr} {od11 an11 : Option Addr} {sl11 : Array (Option Value)} {oc11 kV11 dc11 pm11 cd11 ct11 : Value}
    {f12 : Addr} {od12 an12 : Option Addr} {sl12 : Array (Option Value)} {oc12 kV12 dc12 pm12 cd12 ct12 : Value}
    {f13 : Addr} {od13 an13 : Option Addr} {sl13 : Array (Option Value)} {oc13 kV13 dc13 pm13 cd13 ct13 : Value}
    {f14 : Addr} {od14 an14 : Option Addr} {sl14 : Array (Option Value)} {oc14 kV14 dc14 pm14 cd14 ct14 : Value}
    {f15 : Addr} {od15 an15 : Option Addr} {sl15 : Array (Option Value)} {oc15 kV15 dc15 pm15 cd15 ct15 : Value}
    {f16 : Addr} {od16 an16 : Option Addr} {sl16 : Array (Option Value)} {oc16 kV16 dc16 pm16 cd16 ct16 : Value}
    {f17 : Addr} {od17 an17 : Option Addr} {sl17 : Array (Option Value)} {oc17 kV17 dc17 pm17 cd17 ct17 : Value}
    {f18 : Addr} {od18 an18 : Option Addr} {sl18 : Array (Option Value)} {oc18 kV18 dc18 pm18 cd18 ct18 : Value}
    {f19 : Addr} {od19 an19 : Option Addr} {sl19 : Array (Option Value)} {oc19 kV19 dc19 pm19 cd19 ct19 : Value}
    {f20 : Addr} {od20 an20 : Option Addr} {sl20 : Array (Option Value)} {oc20 kV20 dc20 pm20 cd20 ct20 : Value}
    {f21 : Addr} {od21 an21 : Option Addr} {sl21 : Array (Option Value)} {oc21 kV21 dc21 pm21 cd21 ct21 : Value}
    {f22 : Addr} {od22 an22 : Option Addr} {sl22 : Array (Option Value)} {oc22 kV22 dc22 pm22 cd22 ct22 : Value}
    {f23 : Addr} {od23 an23 : Option Addr} {sl23 : Array (Option Value)} {oc23 kV23 dc23 pm23 cd23 ct23 : Value}
    {f24 : Addr} {od24 an24 : Option Addr} {sl24 : Array (Option Value)} {oc24 kV24 dc24 pm24 cd24 ct24 : Value}
    {f25 : Addr} {od25 an25 : Option Addr} {sl25 : Array (Option Value)} {oc25 kV25 dc25 pm25 cd25 ct25 : Value}
    {f26 : Addr} {od26 an26 : Option Addr} {sl26 : Array (Option Value)} {oc26 kV26 dc26 pm26 cd26 ct26 : Value}
    {f27 : Addr} {od27 an27 : Option Addr} {sl27 : Array (Option Value)} {oc27 kV27 dc27 pm27 cd27 ct27 : Value}
    (a0 : PySem.W.nsIn K mainGlobals "trimmed" = some (some (.ref f0))) (l0 : K.lookup f0 = some ⟨oc0, od0, .func (PySem.W.fnOf "trimmed" "trimmed" (defArgs s_trimmed) (defBody s_trimmed) (defScope s_trimmed) .none kV0 dc0 pm0 an0 cd0 ct0), sl0⟩) (c0 : PySem.W.codeIn K cd0 "trimmed" = true) (k0 : PySem.W.keepIn K (.ref f0) = true)
    (a1 : PySem.W.nsIn K mainGlobals "plus" = some (some (.ref f1))) (l1 : K.lookup f1 = some ⟨oc1, od1, .func (PySem.W.fnOf "plus" "plus" (defArgs s_plus) (defBody s_plus) (defScope s_plus) .none kV1 dc1 pm1 an1 cd1 ct1), sl1⟩) (c1 : PySem.W.codeIn K cd1 "plus" = true) (k1 : PySem.W.keepIn K (.ref f1) = true)
    (a2 : PySem.W.nsIn K mainGlobals "scaled" = some (some (.ref f2))) (l2 : K.lookup f2 = some ⟨oc2, od2, .func (PySem.W.fnOf "scaled" "scaled" (defArgs s_scaled) (defBody s_scaled) (defScope s_scaled) .none kV2 dc2 pm2 an2 cd2 ct2), sl2⟩) (c2 : PySem.W.codeIn K cd2 "scaled" = true) (k2 : PySem.W.keepIn K (.ref f2) = true)
    (a3 : PySem.W.nsIn K mainGlobals "raised" = some (some (.ref f3))) (l3 : K.lookup f3 = some ⟨oc3, od3, .func (PySem.W.fnOf "raised" "raised" (defArgs s_raised) (defBody s_raised) (defScope s_raised) .none kV3 dc3 pm3 an3 cd3 ct3), sl3⟩) (c3 : PySem.W.codeIn K cd3 "raised" = true) (k3 : PySem.W.keepIn K (.ref f3) = true)
    (a4 : PySem.W.nsIn K mainGlobals "common_divisor" = some (some (.ref f4))) (l4 : K.lookup f4 = some ⟨oc4, od4, .func (PySem.W.fnOf "common_divisor" "common_divisor" (defArgs s_common_divisor) (defBody s_common_divisor) (defScope s_common_divisor) .none kV4 dc4 pm4 an4 cd4 ct4), sl4⟩) (c4 : PySem.W.codeIn K cd4 "common_divisor" = true) (k4 : PySem.W.keepIn K (.ref f4) = true)
    (a5 : PySem.W.nsIn K mainGlobals "primitive" = some (some (.ref f5))) (l5 : K.lookup f5 = some ⟨oc5, od5, .func (PySem.W.fnOf "primitive" "primitive" (defArgs s_primitive) (defBody s_primitive) (defScope s_primitive) .none kV5 dc5 pm5 an5 cd5 ct5), sl5⟩) (c5 : PySem.W.codeIn K cd5 "primitive" = true) (k5 : PySem.W.keepIn K (.ref f5) = true)
    (a6 : PySem.W.nsIn K mainGlobals "remainder" = some (some (.ref f6))) (l6 : K.lookup f6 = some ⟨oc6, od6, .func (PySem.W.fnOf "remainder" "remainder" (defArgs s_remainder) (defBody s_remainder) (defScope s_remainder) .none kV6 dc6 pm6 an6 cd6 ct6), sl6⟩) (c6 : PySem.W.codeIn K cd6 "remainder" = true) (k6 : PySem.W.keepIn K (.ref f6) = true)
    (a7 : PySem.W.nsIn K mainGlobals "gcd" = some (some (.ref f7))) (l7 : K.lookup f7 = some ⟨oc7, od7, .func (PySem.W.fnOf "gcd" "gcd" (defArgs s_gcd) (defBody s_gcd) (defScope s_gcd) .none kV7 dc7 pm7 an7 cd7 ct7), sl7⟩) (c7 : PySem.W.codeIn K cd7 "gcd" = true) (k7 : PySem.W.keepIn K (.ref f7) = true)
    (a8 : PySem.W.nsIn K mainGlobals "divided" = some (some (.ref f8))) (l8 : K.lookup f8 = some ⟨oc8, od8, .func (PySem.W.fnOf "divided" "divided" (defArgs s_divided) (defBody s_divided) (defScope s_divided) .none kV8 dc8 pm8 an8 cd8 ct8), sl8⟩) (c8 : PySem.W.codeIn K cd8 "divided" = true) (k8 : PySem.W.keepIn K (.ref f8) = true)
    (a9 : PySem.W.nsIn K mainGlobals "often" = some (some (.ref f9))) (l9 : K.lookup f9 = some ⟨oc9, od9, .func (PySem.W.fnOf "often" "often" (defArgs s_often) (defBody s_often) (defScope s_often) .none kV9 dc9 pm9 an9 cd9 ct9), sl9⟩) (c9 : PySem.W.codeIn K cd9 "often" = true) (k9 : PySem.W.keepIn K (.ref f9) = true)
    (a10 : PySem.W.nsIn K mainGlobals "squarefree" = some (some (.ref f10))) (l10 : K.lookup f10 = some ⟨oc10, od10, .func (PySem.W.fnOf "squarefree" "squarefree" (defArgs s_squarefree) (defBody s_squarefree) (defScope s_squarefree) .none kV10 dc10 pm10 an10 cd10 ct10), sl10⟩) (c10 : PySem.W.codeIn K cd10 "squarefree" = true) (k10 : PySem.W.keepIn K (.ref f10) = true)
    (a11 : PySem.W.nsIn K mainGlobals "_law_draws" = some (some (.ref f11))) (l11 : K.lookup f11 = some ⟨oc11, od11, .func (PySem.W.fnOf "_law_draws" "_law_draws" (defArgs s_law_draws) (defBody s_law_draws) (defScope s_law_draws) .none kV11 dc11 pm11 an11 cd11 ct11), sl11⟩) (c11 : PySem.W.codeIn K cd11 "_law_draws" = true) (k11 : PySem.W.keepIn K (.ref f11) = true)
    (a12 : PySem.W.nsIn K mainGlobals "_law_mix" = some (some (.ref f12))) (l12 : K.lookup f12 = some ⟨oc12, od12, .func (PySem.W.fnOf "_law_mix" "_law_mix" (defArgs s_law_mix) (defBody s_law_mix) (defScope s_law_mix) .none kV12 dc12 pm12 an12 cd12 ct12), sl12⟩) (c12 : PySem.W.codeIn K cd12 "_law_mix" = true) (k12 : PySem.W.keepIn K (.ref f12) = true)
    (a13 : PySem.W.nsIn K mainGlobals "_law_trimmed" = some (some (.ref f13))) (l13 : K.lookup f13 = some ⟨oc13, od13, .func (PySem.W.fnOf "_law_trimmed" "_law_trimmed" (defArgs s_law_trimmed) (defBody s_law_trimmed) (defScope s_law_trimmed) .none kV13 dc13 pm13 an13 cd13 ct13), sl13⟩) (c13 : PySem.W.codeIn K cd13 "_law_trimmed" = true) (k13 : PySem.W.keepIn K (.ref f13) = true)
    (a14 : PySem.W.nsIn K mainGlobals "_law_times" = some (some (.ref f14))) (l14 : K.lookup f14 = some ⟨oc14, od14, .func (PySem.W.fnOf "_law_times" "_law_times" (defArgs s_law_times) (defBody s_law_times) (defScope s_law_times) .none kV14 dc14 pm14 an14 cd14 ct14), sl14⟩) (c14 : PySem.W.codeIn K cd14 "_law_times" = true) (k14 : PySem.W.keepIn K (.ref f14) = true)
    (a15 : PySem.W.nsIn K mainGlobals "_law_divisor" = some (some (.ref f15))) (l15 : K.lookup f15 = some ⟨oc15, od15, .func (PySem.W.fnOf "_law_divisor" "_law_divisor" (defArgs s_law_divisor) (defBody s_law_divisor) (defScope s_law_divisor) .none kV15 dc15 pm15 an15 cd15 ct15), sl15⟩) (c15 : PySem.W.codeIn K cd15 "_law_divisor" = true) (k15 : PySem.W.keepIn K (.ref f15) = true)
    (a16 : PySem.W.nsIn K mainGlobals "_law_lowest" = some (some (.ref f16))) (l16 : K.lookup f16 = some ⟨oc16, od16, .func (PySem.W.fnOf "_law_lowest" "_law_lowest" (defArgs s_law_lowest) (defBody s_law_lowest) (defScope s_law_lowest) .none kV16 dc16 pm16 an16 cd16 ct16), sl16⟩) (c16 : PySem.W.codeIn K cd16 "_law_lowest" = true) (k16 : PySem.W.keepIn K (.ref f16) = true)
    (a17 : PySem.W.nsIn K mainGlobals "_law_common" = some (some (.ref f17))) (l17 : K.lookup f17 = some ⟨oc17, od17, .func (PySem.W.fnOf "_law_common" "_law_common" (defArgs s_law_common) (defBody s_law_common) (defScope s_law_common) .none kV17 dc17 pm17 an17 cd17 ct17), sl17⟩) (c17 : PySem.W.codeIn K cd17 "_law_common" = true) (k17 : PySem.W.keepIn K (.ref f17) = true)
    (a18 : PySem.W.nsIn K mainGlobals "_law_divided" = some (some (.ref f18))) (l18 : K.lookup f18 = some ⟨oc18, od18, .func (PySem.W.fnOf "_law_divided" "_law_divided" (defArgs s_law_divided) (defBody s_law_divided) (defScope s_law_divided) .none kV18 dc18 pm18 an18 cd18 ct18), sl18⟩) (c18 : PySem.W.codeIn K cd18 "_law_divided" = true) (k18 : PySem.W.keepIn K (.ref f18) = true)
    (a19 : PySem.W.nsIn K mainGlobals "_law_is_list" = some (some (.ref f19))) (l19 : K.lookup f19 = some ⟨oc19, od19, .func (PySem.W.fnOf "_law_is_list" "_law_is_list" (defArgs s_law_is_list) (defBody s_law_is_list) (defScope s_law_is_list) .none kV19 dc19 pm19 an19 cd19 ct19), sl19⟩) (c19 : PySem.W.codeIn K cd19 "_law_is_list" = true) (k19 : PySem.W.keepIn K (.ref f19) = true)
    (a20 : PySem.W.nsIn K mainGlobals "_law_menu" = some (some (.ref f20))) (l20 : K.lookup f20 = some ⟨oc20, od20, .func (PySem.W.fnOf "_law_menu" "_law_menu" (defArgs s_law_menu) (defBody s_law_menu) (defScope s_law_menu) .none kV20 dc20 pm20 an20 cd20 ct20), sl20⟩) (c20 : PySem.W.codeIn K cd20 "_law_menu" = true) (k20 : PySem.W.keepIn K (.ref f20) = true)
    (a21 : PySem.W.nsIn K mainGlobals "_law_built" = some (some (.ref f21))) (l21 : K.lookup f21 = some ⟨oc21, od21, .func (PySem.W.fnOf "_law_built" "_law_built" (defArgs s_law_built) (defBody s_law_built) (defScope s_law_built) .none kV21 dc21 pm21 an21 cd21 ct21), sl21⟩) (c21 : PySem.W.codeIn K cd21 "_law_built" = true) (k21 : PySem.W.keepIn K (.ref f21) = true)
    (a22 : PySem.W.nsIn K mainGlobals "_law_powers" = some (some (.ref f22))) (l22 : K.lookup f22 = some ⟨oc22, od22, .func (PySem.W.fnOf "_law_powers" "_law_powers" (defArgs s_law_powers) (defBody s_law_powers) (defScope s_law_powers) .none kV22 dc22 pm22 an22 cd22 ct22), sl22⟩) (c22 : PySem.W.codeIn K cd22 "_law_powers" = true) (k22 : PySem.W.keepIn K (.ref f22) = true)
    (a23 : PySem.W.nsIn K mainGlobals "_law_number" = some (some (.ref f23))) (l23 : K.lookup f23 = some ⟨oc23, od23, .func (PySem.W.fnOf "_law_number" "_law_number" (defArgs s_law_number) (defBody s_law_number) (defScope s_law_number) .none kV23 dc23 pm23 an23 cd23 ct23), sl23⟩) (c23 : PySem.W.codeIn K cd23 "_law_number" = true) (k23 : PySem.W.keepIn K (.ref f23) = true)
    (a24 : PySem.W.nsIn K mainGlobals "_law_any" = some (some (.ref f24))) (l24 : K.lookup f24 = some ⟨oc24, od24, .func (PySem.W.fnOf "_law_any" "_law_any" (defArgs s_law_any) (defBody s_law_any) (defScope s_law_any) .none kV24 dc24 pm24 an24 cd24 ct24), sl24⟩) (c24 : PySem.W.codeIn K cd24 "_law_any" = true) (k24 : PySem.W.keepIn K (.ref f24) = true)
    (a25 : PySem.W.nsIn K mainGlobals "_law_powers_told" = some (some (.ref f25))) (l25 : K.lookup f25 = some ⟨oc25, od25, .func (PySem.W.fnOf "_law_powers_told" "_law_powers_told" (defArgs s_law_powers_told) (defBody s_law_powers_told) (defScope s_law_powers_told) .none kV25 dc25 pm25 an25 cd25 ct25), sl25⟩) (c25 : PySem.W.codeIn K cd25 "_law_powers_told" = true) (k25 : PySem.W.keepIn K (.ref f25) = true)
    (a26 : PySem.W.nsIn K mainGlobals "_law_others_told" = some (some (.ref f26))) (l26 : K.lookup f26 = some ⟨oc26, od26, .func (PySem.W.fnOf "_law_others_told" "_law_others_told" (defArgs s_law_others_told) (defBody s_law_others_told) (defScope s_law_others_told) .none kV26 dc26 pm26 an26 cd26 ct26), sl26⟩) (c26 : PySem.W.codeIn K cd26 "_law_others_told" = true) (k26 : PySem.W.keepIn K (.ref f26) = true)
    (a27 : PySem.W.nsIn K mainGlobals "law" = some (some (.ref f27))) (l27 : K.lookup f27 = some ⟨oc27, od27, .func (PySem.W.fnOf "law" "law" (defArgs s_law) (defBody s_law) (defScope s_law) .none kV27 dc27 pm27 an27 cd27 ct27), sl27⟩) (c27 : PySem.W.codeIn K cd27 "law" = true) (k27 : PySem.W.keepIn K (.ref f27) = true)
    (z_len : PySem.W.nsIn K mainGlobals "len" = some none)
    (z_range : PySem.W.nsIn K mainGlobals "range" = some none)
    (z_abs : PySem.W.nsIn K mainGlobals "abs" = some none)
    (z_max : PySem.W.nsIn K mainGlobals "max" = some none)
    (z_min : PySem.W.nsIn K mainGlobals "min" = some none)
    (z_list : PySem.W.nsIn K mainGlobals "list" = some none)
    (z_int : PySem.W.nsIn K mainGlobals "int" = some none)
    (z_bool : PySem.W.nsIn K mainGlobals "bool" = some none)
    (z_any : PySem.W.nsIn K mainGlobals "any" = some none)
    (z_reversed : PySem.W.nsIn K mainGlobals "reversed" = some none)
    (z_isinstance : PySem.W.nsIn K mainGlobals "isinstance" = some none)
    (z_repr : PySem.W.nsIn K mainGlobals "repr" = some none) :
    ∃ fd : FuncData, (∀ (s : Shared) (v : Value), BindsTo s fd ⟨[v], []⟩ [("script", v)]) ∧ ∀ base : Heap, K.In base → base.Ns mainGlobals mg → FnG l.prog w K mg base 7 fa fd ["script"] (spLaw K) := by
  have e := hfa.symm.trans (PySem.W.mg_of X G a27)
  cases e
  have D_trimmed : Df K mg "trimmed" s_trimmed ["numbers"] f0 _ := df_mk X G a0 l0 c0 k0 (fun _ _ _ _ _ _ us hl => match us, hl with | [_], _ => rfl)
  have D_plus : Df K mg "plus" s_plus ["one", "two"] f1 _ := df_mk X G a1 l1 c1 k1 (fun _ _ _ _ _ _ us hl => match us, hl with | [_, _], _ => rfl)
  have D_scaled : Df K mg "scaled" s_scaled ["one", "number"] f2 _ := df_mk X G a2 l2 c2 k2 (fun _ _ _ _ _ _ us hl => match us, hl with | [_, _], _ => rfl)
  have D_raised : Df K mg "raised" s_raised ["one", "k"] f3 _ := df_mk X G a3 l3 c3 k3 (fun _ _ _ _ _ _ us hl => match us, hl with | [_, _], _ => rfl)
  have D_common_divisor : Df K mg "common_divisor" s_common_divisor ["one", "two"] f4 _ := df_mk X G a4 l4 c4 k4 (fun _ _ _ _ _ _ us hl => match us, hl with | [_, _], _ => rfl)
  have D_primitive : Df K mg "primitive" s_primitive ["one"] f5 _ := df_mk X G a5 l5 c5 k5 (fun _ _ _ _ _ _ us hl => match us, hl with | [_], _ => rfl)
  have D_remainder : Df K mg "remainder" s_remainder ["one", "two"] f6 _ := df_mk X G a6 l6 c6 k6 (fun _ _ _ _ _ _ us hl => match us, hl with | [_, _], _ => rfl)
  have D_gcd : Df K mg "gcd" s_gcd ["one", "two"] f7 _ := df_mk X G a7 l7 c7 k7 (fun _ _ _ _ _ _ us hl => match us, hl with | [_, _], _ => rfl)
  have D_divided : Df K mg "divided" s_divided ["one", "two"] f8 _ := df_mk X G a8 l8 c8 k8 (fun _ _ _ _ _ _ us hl => match us, hl with | [_, _], _ => rfl)
  have D_often : Df K mg "often" s_often ["one", "two"] f9 _ := df_mk X G a9 l9 c9 k9 (fun _ _ _ _ _ _ us hl => match us, hl with | [_, _], _ => rfl)
  have D_squarefree : Df K mg "squarefree" s_squarefree ["one"] f10 _ := df_mk X G a10 l10 c10 k10 (fun _ _ _ _ _ _ us hl => match us, hl with | [_], _ => rfl)
  have D_law_draws : Df K mg "_law_draws" s_law_draws ["script"] f11 _ := df_mk X G a11 l11 c11 k11 (fun _ _ _ _ _ _ us hl => match us, hl with | [_], _ => rfl)
  have D_law_mix : Df K mg "_law_mix" s_law_mix ["draws", "k", "many"] f12 _ := df_mk X G a12 l12 c12 k12 (fun _ _ _ _ _ _ us hl => match us, hl with | [_, _, _], _ => rfl)
  have D_law_trimmed : Df K mg "_law_trimmed" s_law_trimmed ["numbers"] f13 _ := df_mk X G a13 l13 c13 k13 (fun _ _ _ _ _ _ us hl => match us, hl with | [_], _ => rfl)
  have D_law_times : Df K mg "_law_times" s_law_times ["one", "two"] f14 _ := df_mk X G a14 l14 c14 k14 (fun _ _ _ _ _ _ us hl => match us, hl with | [_, _], _ => rfl)
  have D_law_divisor : Df K mg "_law_divisor" s_law_divisor ["row"] f15 _ := df_mk X G a15 l15 c15 k15 (fun _ _ _ _ _ _ us hl => match us, hl with | [_], _ => rfl)
  have D_law_lowest : Df K mg "_law_lowest" s_law_lowest ["one"] f16 _ := df_mk X G a16 l16 c16 k16 (fun _ _ _ _ _ _ us hl => match us, hl with | [_], _ => rfl)
  have D_law_common : Df K mg "_law_common" s_law_common ["one", "two"] f17 _ := df_mk X G a17 l17 c17 k17 (fun _ _ _ _ _ _ us hl => match us, hl with | [_, _], _ => rfl)
  have D_law_divided : Df K mg "_law_divided" s_law_divided ["one", "two"] f18 _ := df_mk X G a18 l18 c18 k18 (fun _ _ _ _ _ _ us hl => match us, hl with | [_, _], _ => rfl)
  have D_law_is_list : Df K mg "_law_is_list" s_law_is_list ["told"] f19 _ := df_mk X G a19 l19 c19 k19 (fun _ _ _ _ _ _ us hl => match us, hl with | [_], _ => rfl)
  have D_law_menu : Df K mg "_law_menu" s_law_menu [] f20 _ := df_mk X G a20 l20 c20 k20 (fun _ _ _ _ _ _ us hl => match us, hl with | [], _ => rfl)
  have D_law_built : Df K mg "_law_built" s_law_built ["number", "powers"] f21 _ := df_mk X G a21 l21 c21 k21 (fun _ _ _ _ _ _ us hl => match us, hl with | [_, _], _ => rfl)
  have D_law_powers : Df K mg "_law_powers" s_law_powers ["draws", "k", "most"] f22 _ := df_mk X G a22 l22 c22 k22 (fun _ _ _ _ _ _ us hl => match us, hl with | [_, _, _], _ => rfl)
  have D_law_number : Df K mg "_law_number" s_law_number ["draws", "k"] f23 _ := df_mk X G a23 l23 c23 k23 (fun _ _ _ _ _ _ us hl => match us, hl with | [_, _], _ => rfl)
  have D_law_any : Df K mg "_law_any" s_law_any ["draws", "k"] f24 _ := df_mk X G a24 l24 c24 k24 (fun _ _ _ _ _ _ us hl => match us, hl with | [_, _], _ => rfl)
  have D_law_powers_told : Df K mg "_law_powers_told" s_law_powers_told ["draws"] f25 _ := df_mk X G a25 l25 c25 k25 (fun _ _ _ _ _ _ us hl => match us, hl with | [_], _ => rfl)
  have D_law_others_told : Df K mg "_law_others_told" s_law_others_told ["draws"] f26 _ := df_mk X G a26 l26 c26 k26 (fun _ _ _ _ _ _ us hl => match us, hl with | [_], _ => rfl)
  have D_law : Df K mg "law" s_law ["script"] fa _ := df_mk X G a27 l27 c27 k27 (fun _ _ _ _ _ _ us hl => match us, hl with | [_], _ => rfl)
  have B : Bl mg := ⟨PySem.W.mg_none_of X G z_len, PySem.W.mg_none_of X G z_range, PySem.W.mg_none_of X G z_abs, PySem.W.mg_none_of X G z_max, PySem.W.mg_none_of X G z_min, PySem.W.mg_none_of X G z_list, PySem.W.mg_none_of X G z_int, PySem.W.mg_none_of X G z_bool, PySem.W.mg_none_of X G z_any, PySem.W.mg_none_of X G z_reversed, PySem.W.mg_none_of X G z_isinstance, PySem.W.mg_none_of X G z_repr⟩
  refine ⟨PySem.W.fnOf "law" "law" (defArgs s_law) (defBody s_law) (defScope s_law) .none kV27 dc27 pm27 an27 cd27 ct27, fun s v => .of_eq rfl, fun base _ _ => ?_⟩
  have G_trimmed := ok_trimmed (P := l.prog) (w := w) (base := base) B D_trimmed
  have G_plus := ok_plus (P := l.prog) (w := w) (base := base) B D_plus D_trimmed
  have G_scaled := ok_scaled (P := l.prog) (w := w) (base := base) B D_scaled
  have G_raised := ok_raised (P := l.prog) (w := w) (base := base) B D_raised
  have G_primitive := ok_prim (P := l.prog) (w := w) (base := base) B D_primitive D_common_divisor
  have G_remainder := ok_rem B D_remainder D_primitive D_raised D_scaled D_plus G_primitive G_raised G_scaled G_plus
  have G_gcd := ok_gcd B D_gcd D_primitive D_remainder G_primitive G_remainder
  have G_divided := ok_div (P := l.prog) (w := w) (base := base) B D_divided
  have G_often := ok_often B D_often D_divided G_divided
  have G_squarefree := ok_sq B D_squarefree D_primitive D_divided D_gcd G_primitive G_divided G_gcd
  have G_law_draws := ok_draws (P := l.prog) (w := w) (base := base) B D_law_draws
  have G_law_mix := ok_mix (P := l.prog) (w := w) (base := base) B D_law_mix
  have G_law_trimmed : FnOk l.prog w K mg base CX0 1 _ _ ["numbers"] (spLTrim K) := ok_ltrimmed B D_law_trimmed
  have G_law_times := ok_times B D_law_times D_law_trimmed G_law_trimmed
  have G_law_divisor := ok_ldivisor (P := l.prog) (w := w) (base := base) B D_law_divisor
  have G_law_lowest := ok_lowest B D_law_lowest D_law_divisor G_law_divisor
  have G_law_common := ok_common B D_law_common D_law_lowest D_law_trimmed G_law_lowest G_law_trimmed
  have G_law_divided := ok_ldiv B D_law_divided D_law_trimmed G_law_trimmed
  have G_law_is_list := ok_isl (P := l.prog) (w := w) (base := base) B D_law_is_list
  have G_law_menu := ok_menu (P := l.prog) (w := w) (base := base) B D_law_menu
  have G_law_built := ok_built B D_law_built D_law_times D_law_menu G_law_times G_law_menu
  have G_law_powers := ok_powers B D_law_powers D_law_mix G_law_mix
  have G_law_number := ok_number B D_law_number D_law_mix G_law_mix
  have G_law_any := ok_any B D_law_any D_law_mix D_law_trimmed G_law_mix G_law_trimmed
  have G_law_powers_told := ok_ptold M1 B D_law_powers_told D_law_powers G_law_powers D_law_number G_law_number D_law_built G_law_built D_primitive G_primitive D_gcd G_gcd D_squarefree G_squarefree D_law_is_list G_law_is_list D_divided G_divided D_often G_often D_law_menu G_law_menu
  have G_law_others_told := ok_otold M2 B D_law_others_told D_law_any G_law_any D_law_times G_law_times D_gcd G_gcd D_law_is_list G_law_is_list D_law_lowest G_law_lowest D_divided G_divided D_law_common G_law_common D_law_mix G_law_mix D_law_divided G_law_divided
  exact ok_law B D_law D_law_draws G_law_draws D_primitive G_primitive D_gcd G_gcd D_divided G_divided D_law_powers_told G_law_powers_told D_law_others_told G_law_others_told
end K78
open PySem PySem.W PyProof.Rows
set_option maxRecDepth 100000 in
set_option maxHeartbeats 0 in
theorem PySem.Challenge.cw_unsaidsizes_k78_factors_of_polynomials_holds : PySem.Challenge.rw_unsaidsizes_k78_factors_of_polynomials.Holds := by
  w_on; o_law; k_head; (case hw => w_witness2)
  k_fill
  refine K78.walk_ofG (l := PySem.Challenge.rw_unsaidsizes_k78_factors_of_polynomials) (n := 63) (k := 7) (x := "script") (sp := fun w => K78.spLaw _) rfl (by decide) rfl ⟨rfl, by decide, by decide⟩ (fun w h Y => PySem.W.kIn_of Y) ?F (fun _ _ a ns hl _ hS => ⟨a, ns, rfl, hS, hl, fun _ => rfl⟩)
  case F =>
    intro w mg fa h KX G hmg
    refine' K78.all_mk K78.ptAll K78.otAll KX G hmg ?a0 ?l0 ?c0 ?k0 ?a1 ?l1 ?c1 ?k1 ?a2 ?l2 ?c2 ?k2 ?a3 ?l3 ?c3 ?k3 ?a4 ?l4 ?c4 ?k4 ?a5 ?l5 ?c5 ?k5 ?a6 ?l6 ?c6 ?k6 ?a7 ?l7 ?c7 ?k7 ?a8 ?l8 ?c8 ?k8 ?a9 ?l9 ?c9 ?k9 ?a10 ?l10 ?c10 ?k10 ?a11 ?l11 ?c11 ?k11 ?a12 ?l12 ?c12 ?k12 ?a13 ?l13 ?c13 ?k13 ?a14 ?l14 ?c14 ?k14 ?a15 ?l15 ?c15 ?k15 ?a16 ?l16 ?c16 ?k16 ?a17 ?l17 ?c17 ?k17 ?a18 ?l18 ?c18 ?k18 ?a19 ?l19 ?c19 ?k19 ?a20 ?l20 ?c20 ?k20 ?a21 ?l21 ?c21 ?k21 ?a22 ?l22 ?c22 ?k22 ?a23 ?l23 ?c23 ?k23 ?a24 ?l24 ?c24 ?k24 ?a25 ?l25 ?c25 ?k25 ?a26 ?l26 ?c26 ?k26 ?a27 ?l27 ?c27 ?k27 ?z_len ?z_range ?z_abs ?z_max ?z_min ?z_list ?z_int ?z_bool ?z_any ?z_reversed ?z_isinstance ?z_repr
    (case a0 => k_is); (case l0 => k_is); (case c0 => k_is); (case k0 => k_is); (case a1 => k_is); (case l1 => k_is); (case c1 => k_is); (case k1 => k_is); (case a2 => k_is); (case l2 => k_is); (case c2 => k_is); (case k2 => k_is); (case a3 => k_is); (case l3 => k_is); (case c3 => k_is); (case k3 => k_is); (case a4 => k_is); (case l4 => k_is); (case c4 => k_is); (case k4 => k_is); (case a5 => k_is); (case l5 => k_is); (case c5 => k_is); (case k5 => k_is); (case a6 => k_is); (case l6 => k_is); (case c6 => k_is); (case k6 => k_is); (case a7 => k_is); (case l7 => k_is); (case c7 => k_is); (case k7 => k_is); (case a8 => k_is); (case l8 => k_is); (case c8 => k_is); (case k8 => k_is); (case a9 => k_is); (case l9 => k_is); (case c9 => k_is); (case k9 => k_is); (case a10 => k_is); (case l10 => k_is); (case c10 => k_is); (case k10 => k_is); (case a11 => k_is); (case l11 => k_is); (case c11 => k_is); (case k11 => k_is); (case a12 => k_is); (case l12 => k_is); (case c12 => k_is); (case k12 => k_is); (case a13 => k_is); (case l13 => k_is); (case c13 => k_is); (case k13 => k_is); (case a14 => k_is); (case l14 => k_is); (case c14 => k_is); (case k14 => k_is); (case a15 => k_is); (case l15 => k_is); (case c15 => k_is); (case k15 => k_is); (case a16 => k_is); (case l16 => k_is); (case c16 => k_is); (case k16 => k_is); (case a17 => k_is); (case l17 => k_is); (case c17 => k_is); (case k17 => k_is); (case a18 => k_is); (case l18 => k_is); (case c18 => k_is); (case k18 => k_is); (case a19 => k_is); (case l19 => k_is); (case c19 => k_is); (case k19 => k_is); (case a20 => k_is); (case l20 => k_is); (case c20 => k_is); (case k20 => k_is); (case a21 => k_is); (case l21 => k_is); (case c21 => k_is); (case k21 => k_is); (case a22 => k_is); (case l22 => k_is); (case c22 => k_is); (case k22 => k_is); (case a23 => k_is); (case l23 => k_is); (case c23 => k_is); (case k23 => k_is); (case a24 => k_is); (case l24 => k_is); (case c24 => k_is); (case k24 => k_is); (case a25 => k_is); (case l25 => k_is); (case c25 => k_is); (case k25 => k_is); (case a26 => k_is); (case l26 => k_is); (case c26 => k_is); (case k26 => k_is); (case a27 => k_is); (case l27 => k_is); (case c27 => k_is); (case k27 => k_is); (case z_len => k_is); (case z_range => k_is); (case z_abs => k_is); (case z_max => k_is); (case z_min => k_is); (case z_list => k_is); (case z_int => k_is); (case z_bool => k_is); (case z_any => k_is); (case z_reversed => k_is); (case z_isinstance => k_is); (case z_repr => k_is)

