import PyProof.Rows.All
import Wide.All
import OpenK.AllK
import Wide.FinOn
import KE.KStateDown
import HandS.Base
import HandS.Call
import HandS.List
import HandS.Comp
import HandS.Ends
import HandS.Iter
import HandS.Text
import HandS.More
import HandS.Exc
import HandS.Conv
import HandS.Codes
import HandS.TryOnly
import HandS.ExcOwn
import HandS.ExcInit
import HandS.ExcField
import HandS.ExcIs
import HandS.IsInst
import HandS.Style
import HandS.Wide
import HandS.Words
import HandS.WordsList
import HandS.WordsExc
import HandS.Defaults
import HandS.Evl
import HandS.OwnEq
import HandS.ClsMeth
import HandS.TupSets
import HandS.SortOrd
import HandS.SortKw
import HandS.ExcSuper
import KE.KExcSuper
import KE.Datum
import HandS.Walk
import HandS.Head0
import HandS.Head1
import HandS.Head2
import HandS.HeadEnd
import HandS.EndBits
import HandS.HeadHook1
import HandS.HeadHook2
import PySem.Challenge.RW_latelink_k48_whole_log_and_first_repair
set_option Elab.async false
set_option linter.all false
set_option maxRecDepth 100000
set_option maxHeartbeats 4000000
set_option pp.maxSteps 1500
namespace LL

structure Sd where
  n : Nat
  L : Nat → Nat
  R : Nat → Nat
  F : Nat → Bool

def updN {α : Type} (f : Nat → α) (a : Nat) (b : α) : Nat → α := fun i => if i = a then b else f i
theorem updN_same {α : Type} (f : Nat → α) (a : Nat) (b : α) : updN f a b a = b := if_pos rfl
theorem updN_ne {α : Type} (f : Nat → α) {a i : Nat} (b : α) (h : i ≠ a) : updN f a b i = f i := if_neg h

def put (S : Sd) (x : Nat) : Sd :=
  { n := S.n
    R := updN S.R (S.L x) (if S.F x = true then x else S.R x)
    L := updN S.L (S.R x) (if S.F x = true then x else S.L x)
    F := updN S.F x (!S.F x) }

structure WF (S : Sd) : Prop where
  l : ∀ x, 1 ≤ x → x ≤ S.n + 1 → S.L x < x
  r : ∀ x, x ≤ S.n → x < S.R x ∧ S.R x ≤ S.n + 1
  f0 : S.F 0 = false
  fn : S.F (S.n + 1) = false
  rn : S.R (S.n + 1) = S.n + 2
  l0 : S.L 0 = 0

def fresh (n : Nat) : Sd := ⟨n, fun v => v - 1, fun v => v + 1, fun _ => false⟩
theorem wf_fresh (n : Nat) : WF (fresh n) := ⟨fun x h _ => by show x - 1 < x; omega, fun x h => ⟨Nat.lt_succ_self x, Nat.succ_le_succ h⟩, rfl, rfl, rfl, rfl⟩

theorem put_n (S : Sd) (x : Nat) : (put S x).n = S.n := rfl
theorem wf_put {S : Sd} (w : WF S) {x : Nat} (h1 : 1 ≤ x) (h2 : x ≤ S.n) : WF (put S x) := by
  have hl := w.l x h1 (by omega)
  have hr := w.r x h2
  refine ⟨fun y a b => ?_, fun y a => ?_, ?_, ?_, ?_, ?_⟩
  · show updN S.L (S.R x) (if S.F x = true then x else S.L x) y < y
    unfold updN
    split
    · subst_vars
      split <;> omega
    · exact w.l y a b
  · show y < updN S.R (S.L x) (if S.F x = true then x else S.R x) y ∧ updN S.R (S.L x) (if S.F x = true then x else S.R x) y ≤ S.n + 1
    unfold updN
    split
    · subst_vars
      split <;> omega
    · exact w.r y a
  · show updN S.F x (!S.F x) 0 = false
    rw [updN_ne _ _ (by omega)]
    exact w.f0
  · show updN S.F x (!S.F x) (S.n + 1) = false
    rw [updN_ne _ _ (by omega)]
    exact w.fn
  · show updN S.R (S.L x) (if S.F x = true then x else S.R x) (S.n + 1) = S.n + 2
    rw [updN_ne _ _ (by omega)]
    exact w.rn
  · show updN S.L (S.R x) (if S.F x = true then x else S.L x) 0 = 0
    rw [updN_ne _ _ (by omega)]
    exact w.l0

/-! ### gaps -/
inductive G where | joined | left | right | lost
  deriving DecidableEq
def lh (S : Sd) (v : Nat) : Bool := decide (S.R v = v + 1)
def rh (S : Sd) (v : Nat) : Bool := decide (S.L (v + 1) = v)
def gst (S : Sd) (v : Nat) : G := if lh S v = true then (if rh S v = true then .joined else .left) else (if rh S v = true then .right else .lost)
def sole (S : Sd) (x : Nat) : Bool := (lh S x && !rh S x) || (rh S (x - 1) && !lh S (x - 1))
def due (S : Sd) (x : Nat) : Bool := S.F x || sole S x
def NoLost (S : Sd) : Prop := ∀ v, v ≤ S.n → (lh S v || rh S v) = true

theorem gst_lost {S : Sd} {v : Nat} : gst S v = .lost ↔ (lh S v || rh S v) = false := by
  unfold gst
  cases lh S v <;> cases rh S v <;> simp
theorem gst_joined {S : Sd} {v : Nat} : gst S v = .joined ↔ (lh S v = true ∧ rh S v = true) := by
  unfold gst
  cases lh S v <;> cases rh S v <;> simp
theorem gst_left {S : Sd} {v : Nat} : gst S v = .left ↔ (lh S v = true ∧ rh S v = false) := by
  unfold gst
  cases lh S v <;> cases rh S v <;> simp
theorem gst_right {S : Sd} {v : Nat} : gst S v = .right ↔ (lh S v = false ∧ rh S v = true) := by
  unfold gst
  cases lh S v <;> cases rh S v <;> simp
theorem nolost_iff {S : Sd} : NoLost S ↔ ∀ v, v ≤ S.n → gst S v ≠ .lost := by
  constructor
  · intro h v hv e
    rw [gst_lost, h v hv] at e
    cases e
  · intro h v hv
    cases e : (lh S v || rh S v) with
    | true => rfl
    | false => exact absurd (gst_lost.mpr e) (h v hv)
theorem sole_eq (S : Sd) (x : Nat) : sole S x = (decide (gst S x = .left) || decide (gst S (x - 1) = .right)) := by
  unfold sole gst
  cases lh S x <;> cases rh S x <;> cases lh S (x - 1) <;> cases rh S (x - 1) <;> rfl

section
variable {S : Sd} {x : Nat} (w : WF S) (h1 : 1 ≤ x) (h2 : x ≤ S.n)
include w h1 h2
theorem lx : S.L x < x := w.l x h1 (by omega)
theorem rx : x < S.R x := (w.r x h2).1
theorem rx2 : S.R x ≤ S.n + 1 := (w.r x h2).2
theorem lh_put (v : Nat) : lh (put S x) v = if v = S.L x then (S.F x && decide (S.L x + 1 = x)) else lh S v := by
  have a := lx w h1 h2
  have b := rx w h1 h2
  show decide (updN S.R (S.L x) (if S.F x = true then x else S.R x) v = v + 1) = _
  unfold updN
  split
  · rename_i e
    subst e
    cases S.F x with
    | true =>
      simp only [if_true, Bool.true_and]
      exact decide_eq_decide.mpr ⟨fun e => e.symm, fun e => e.symm⟩
    | false =>
      simp only [Bool.false_eq_true, if_false, Bool.false_and]
      exact decide_eq_false (by omega)
  · rfl
theorem rh_put (v : Nat) : rh (put S x) v = if v + 1 = S.R x then (S.F x && decide (S.R x = x + 1)) else rh S v := by
  have a := lx w h1 h2
  have b := rx w h1 h2
  show decide (updN S.L (S.R x) (if S.F x = true then x else S.L x) (v + 1) = v) = _
  unfold updN
  split
  · rename_i e
    cases S.F x with
    | true =>
      simp only [if_true, Bool.true_and]
      exact decide_eq_decide.mpr ⟨fun q => by omega, fun q => by omega⟩
    | false =>
      simp only [Bool.false_eq_true, if_false, Bool.false_and]
      exact decide_eq_false (by omega)
  · rfl
theorem own_left : rh S (x - 1) = decide (S.L x + 1 = x) := by
  have a := lx w h1 h2
  unfold rh
  have e : x - 1 + 1 = x := by omega
  rw [e]
  exact decide_eq_decide.mpr ⟨fun q => by omega, fun q => by omega⟩
theorem own_right : lh S x = decide (S.R x = x + 1) := rfl
/-- a lost gap stays lost -/
theorem lost_stays {v : Nat} (hv : v ≤ S.n) (h : gst S v = .lost) : gst (put S x) v = .lost := by
  have a := lx w h1 h2
  have b := rx w h1 h2
  rw [gst_lost] at h ⊢
  rw [lh_put w h1 h2, rh_put w h1 h2]
  simp only [Bool.or_eq_false_iff] at h ⊢
  obtain ⟨hl, hr⟩ := h
  refine ⟨?_, ?_⟩
  · split
    · rename_i e
      have : decide (S.L x + 1 = x) = false := by
        apply decide_eq_false
        intro q
        have : rh S v = true := by
          unfold rh
          rw [e, q]
          exact decide_eq_true rfl
        rw [hr] at this
        cases this
      rw [this, Bool.and_false]
    · exact hl
  · split
    · rename_i e
      have : decide (S.R x = x + 1) = false := by
        apply decide_eq_false
        intro q
        have e2 : v = x := by omega
        have : lh S v = true := by
          unfold lh
          rw [e2]
          exact decide_eq_true q
        rw [hl] at this
        cases this
      rw [this, Bool.and_false]
    · exact hr
end

/-! ### the operation lowers the debt -/
/-- a foreign write on the left, on the right -/
def hitL (S : Sd) (x : Nat) : Bool := decide (S.L x + 1 ≠ x) && lh S (S.L x)
def hitR (S : Sd) (x : Nat) : Bool := decide (S.R x ≠ x + 1) && rh S (S.R x - 1)
def lowers (S : Sd) (x : Nat) : Bool :=
  due S x && ((!hitL S x || (rh S (S.L x) && due S (S.L x + 1))) && (!hitR S x || (lh S (S.R x - 1) && due S (S.R x - 1))))
def dd (S : Sd) (x : Nat) : Nat := if S.F x = true then 1 else if sole S x = true then 2 else 0
def sumTo (f : Nat → Nat) : Nat → Nat
  | 0 => 0
  | n + 1 => sumTo f n + f (n + 1)
def debt (S : Sd) : Nat := sumTo (dd S) S.n

theorem sumTo_congr {f g : Nat → Nat} : ∀ {n : Nat}, (∀ y, 1 ≤ y → y ≤ n → f y = g y) → sumTo f n = sumTo g n
  | 0, _ => rfl
  | n + 1, h => by
    unfold sumTo
    rw [sumTo_congr (n := n) fun y a b => h y a (by omega), h (n + 1) (by omega) (by omega)]
theorem sumTo_upd {f : Nat → Nat} {a b : Nat} : ∀ {n : Nat}, 1 ≤ a → a ≤ n → sumTo (updN f a b) n + f a = sumTo f n + b
  | 0, h1, h2 => by omega
  | n + 1, h1, h2 => by
    unfold sumTo
    by_cases e : a = n + 1
    · subst e
      rw [updN_same, sumTo_congr (f := updN f (n + 1) b) (g := f) fun y p q => updN_ne _ _ (by omega)]
      omega
    · rw [updN_ne _ _ (fun z => e z.symm)]
      have := sumTo_upd (f := f) (a := a) (b := b) (n := n) h1 (by omega)
      omega
theorem sumTo_zero {f : Nat → Nat} : ∀ {n : Nat}, sumTo f n = 0 → ∀ y, 1 ≤ y → y ≤ n → f y = 0
  | 0, _, y, a, b => by omega
  | n + 1, h, y, a, b => by
    unfold sumTo at h
    by_cases e : y = n + 1
    · subst e; omega
    · exact sumTo_zero (n := n) (by omega) y a (by omega)

section
variable {S : Sd} {x : Nat} (w : WF S) (h1 : 1 ≤ x) (h2 : x ≤ S.n)
include w h1 h2
theorem nolost_put (nl : NoLost S) : NoLost (put S x) ↔ ((hitL S x = true → rh S (S.L x) = true) ∧ (hitR S x = true → lh S (S.R x - 1) = true)) := by
  have a := lx w h1 h2
  have b := rx w h1 h2
  have b2 := rx2 w h1 h2
  have ol := own_left w h1 h2
  have er : S.R x - 1 + 1 = S.R x := by omega
  constructor
  · intro h
    refine ⟨fun q => ?_, fun q => ?_⟩
    · have z := h (S.L x) (by show S.L x ≤ S.n; omega)
      rw [lh_put w h1 h2, rh_put w h1 h2, if_pos rfl, if_neg (by omega)] at z
      unfold hitL at q
      simp only [Bool.and_eq_true, decide_eq_true_eq] at q
      rw [decide_eq_false q.1, Bool.and_false, Bool.false_or] at z
      exact z
    · have z := h (S.R x - 1) (by show S.R x - 1 ≤ S.n; omega)
      rw [lh_put w h1 h2, rh_put w h1 h2, if_neg (by omega), if_pos er] at z
      unfold hitR at q
      simp only [Bool.and_eq_true, decide_eq_true_eq] at q
      rw [decide_eq_false q.1, Bool.and_false, Bool.or_false] at z
      exact z
  · rintro ⟨p, q⟩ v hv
    have hv' : v ≤ S.n := hv
    have z := nl v hv'
    rw [lh_put w h1 h2, rh_put w h1 h2]
    by_cases e1 : v = S.L x
    · have e2 : ¬ v + 1 = S.R x := by omega
      rw [if_pos e1, if_neg e2]
      subst e1
      by_cases e3 : S.L x + 1 = x
      · have e4 : x - 1 = S.L x := by omega
        rw [e4, decide_eq_true e3] at ol
        rw [ol, Bool.or_true]
      · cases e5 : lh S (S.L x) with
        | true =>
          rw [p (by unfold hitL; rw [decide_eq_true e3, e5]; rfl), Bool.or_true]
        | false =>
          rw [e5, Bool.false_or] at z
          rw [z, Bool.or_true]
    · rw [if_neg e1]
      by_cases e2 : v + 1 = S.R x
      · rw [if_pos e2]
        have ev : v = S.R x - 1 := by omega
        subst ev
        by_cases e3 : S.R x = x + 1
        · have e4 : S.R x - 1 = x := by omega
          rw [e4]
          have : lh S x = true := decide_eq_true e3
          rw [this, Bool.true_or]
        · cases e5 : rh S (S.R x - 1) with
          | true =>
            rw [q (by unfold hitR; rw [decide_eq_true e3, e5]; rfl), Bool.true_or]
          | false =>
            rw [e5, Bool.or_false] at z
            rw [z, Bool.true_or]
      · rw [if_neg e2]
        exact z

/-- elsewhere nothing changes -/
theorem dd_else (nl' : NoLost (put S x)) {y : Nat} (y1 : 1 ≤ y) (y2 : y ≤ S.n) (n1 : y ≠ x) (n2 : y ≠ S.L x + 1) (n3 : y ≠ S.R x - 1) : dd (put S x) y = dd S y := by
  have a := lx w h1 h2
  have b := rx w h1 h2
  have b2 := rx2 w h1 h2
  have ol := own_left w h1 h2
  have hF : (put S x).F y = S.F y := updN_ne _ _ n1
  have e1 : ¬ y - 1 = S.L x := by omega
  have e2 : ¬ y + 1 = S.R x := by omega
  have hs : sole (put S x) y = sole S y := by
    unfold sole
    rw [lh_put w h1 h2, rh_put w h1 h2, lh_put w h1 h2, rh_put w h1 h2, if_neg e1, if_neg e2]
    have e3 : y - 1 + 1 = y := by omega
    rw [e3]
    by_cases c1 : y = S.L x
    · rw [if_pos c1, if_neg (by omega)]
      by_cases c2 : S.L x + 1 = x
      · have e4 : x - 1 = y := by omega
        rw [e4, decide_eq_true c2] at ol
        rw [ol]
        simp
      · rw [decide_eq_false c2, Bool.and_false]
        have z := nl' y (by exact y2)
        rw [lh_put w h1 h2, rh_put w h1 h2, if_pos c1, if_neg e2, decide_eq_false c2, Bool.and_false, Bool.false_or] at z
        rw [z]
        simp
    · rw [if_neg c1]
      by_cases c2 : y = S.R x
      · rw [if_pos c2]
        by_cases c3 : S.R x = x + 1
        · have e4 : y - 1 = x := by omega
          have e5 : lh S (y - 1) = true := by rw [e4]; exact decide_eq_true c3
          rw [e5]
          simp
        · rw [decide_eq_false c3, Bool.and_false]
          have z := nl' (y - 1) (by show y - 1 ≤ S.n; omega)
          rw [lh_put w h1 h2, rh_put w h1 h2, if_neg e1, if_pos (by omega), decide_eq_false c3, Bool.and_false, Bool.or_false] at z
          rw [z]
          simp
      · rw [if_neg c2]
  unfold dd
  rw [hF, hs]
theorem dd_x : dd (put S x) x + 1 = dd S x + (if due S x = true then 0 else 2) := by
  have a := lx w h1 h2
  have b := rx w h1 h2
  have b2 := rx2 w h1 h2
  have ol := own_left w h1 h2
  have hF : (put S x).F x = !S.F x := updN_same _ _ _
  unfold dd due
  rw [hF]
  cases hx : S.F x with
  | true =>
    have hs : sole (put S x) x = false := by
      unfold sole
      rw [lh_put w h1 h2, rh_put w h1 h2, lh_put w h1 h2, rh_put w h1 h2, if_neg (by omega : ¬ x = S.L x), if_neg (by omega : ¬ x - 1 + 1 = S.R x), hx, own_right w h1 h2, ol]
      by_cases c1 : S.R x = x + 1
      · rw [decide_eq_true c1, if_pos c1.symm]
        by_cases c2 : S.L x + 1 = x
        · rw [decide_eq_true c2, if_pos (by omega)]
          rfl
        · rw [decide_eq_false c2]
          rfl
      · rw [decide_eq_false c1]
        by_cases c2 : S.L x + 1 = x
        · have c3 : x - 1 = S.L x := by omega
          rw [decide_eq_true c2, if_pos c3]
          rfl
        · rw [decide_eq_false c2]
          rfl
    rw [hs]
    rfl
  | false =>
    cases sole S x <;> rfl
theorem dd_l (nl' : NoLost (put S x)) (c : S.L x + 1 ≠ x) : dd (put S x) (S.L x + 1) = dd S (S.L x + 1) + (if (hitL S x && !due S (S.L x + 1)) = true then 2 else 0) := by
  have a := lx w h1 h2
  have b := rx w h1 h2
  have b2 := rx2 w h1 h2
  have hF : (put S x).F (S.L x + 1) = S.F (S.L x + 1) := updN_ne _ _ c
  have hh : hitL S x = lh S (S.L x) := by unfold hitL; rw [decide_eq_true c, Bool.true_and]
  have z := nl' (S.L x) (by show S.L x ≤ S.n; omega)
  rw [lh_put w h1 h2, rh_put w h1 h2, if_pos rfl, if_neg (by omega), decide_eq_false c, Bool.and_false, Bool.false_or] at z
  have hs : sole (put S x) (S.L x + 1) = true := by
    unfold sole
    have e : S.L x + 1 - 1 = S.L x := by omega
    rw [e, lh_put w h1 h2 (S.L x), rh_put w h1 h2 (S.L x), if_pos rfl, if_neg (by omega : ¬ S.L x + 1 = S.R x), decide_eq_false c, Bool.and_false, z]
    simp
  unfold dd due
  rw [hF, hs, hh]
  cases S.F (S.L x + 1) with
  | true => simp
  | false =>
    cases e : lh S (S.L x) with
    | true => cases sole S (S.L x + 1) <;> simp
    | false =>
      have : sole S (S.L x + 1) = true := by
        unfold sole
        have e2 : S.L x + 1 - 1 = S.L x := by omega
        rw [e2, z, e]
        simp
      rw [this]
      simp
theorem dd_r (nl' : NoLost (put S x)) (c : S.R x ≠ x + 1) : dd (put S x) (S.R x - 1) = dd S (S.R x - 1) + (if (hitR S x && !due S (S.R x - 1)) = true then 2 else 0) := by
  have a := lx w h1 h2
  have b := rx w h1 h2
  have b2 := rx2 w h1 h2
  have er : S.R x - 1 + 1 = S.R x := by omega
  have hF : (put S x).F (S.R x - 1) = S.F (S.R x - 1) := updN_ne _ _ (by omega)
  have hh : hitR S x = rh S (S.R x - 1) := by unfold hitR; rw [decide_eq_true c, Bool.true_and]
  have z := nl' (S.R x - 1) (by show S.R x - 1 ≤ S.n; omega)
  rw [lh_put w h1 h2, rh_put w h1 h2, if_neg (by omega), if_pos er, decide_eq_false c, Bool.and_false, Bool.or_false] at z
  have hs : sole (put S x) (S.R x - 1) = true := by
    unfold sole
    rw [lh_put w h1 h2 (S.R x - 1), rh_put w h1 h2 (S.R x - 1), if_neg (by omega : ¬ S.R x - 1 = S.L x), if_pos er, decide_eq_false c, Bool.and_false, z]
    simp
  unfold dd due
  rw [hF, hs, hh]
  cases S.F (S.R x - 1) with
  | true => simp
  | false =>
    cases e : rh S (S.R x - 1) with
    | true => cases sole S (S.R x - 1) <;> simp
    | false =>
      have : sole S (S.R x - 1) = true := by
        unfold sole
        rw [z, e]
        simp
      rw [this]
      simp
theorem debt_put (nl' : NoLost (put S x)) : debt (put S x) + 1 = debt S + (if due S x = true then 0 else 2) + (if (hitL S x && !due S (S.L x + 1)) = true then 2 else 0) + (if (hitR S x && !due S (S.R x - 1)) = true then 2 else 0) := by
  have a := lx w h1 h2
  have b := rx w h1 h2
  have b2 := rx2 w h1 h2
  have q1 := sumTo_upd (f := dd S) (a := x) (b := dd (put S x) x) (n := S.n) h1 h2
  have q2 := sumTo_upd (f := updN (dd S) x (dd (put S x) x)) (a := S.L x + 1) (b := dd (put S x) (S.L x + 1)) (n := S.n) (by omega) (by omega)
  have q3 := sumTo_upd (f := updN (updN (dd S) x (dd (put S x) x)) (S.L x + 1) (dd (put S x) (S.L x + 1))) (a := S.R x - 1) (b := dd (put S x) (S.R x - 1)) (n := S.n) (by omega) (by omega)
  have q4 : sumTo (updN (updN (updN (dd S) x (dd (put S x) x)) (S.L x + 1) (dd (put S x) (S.L x + 1))) (S.R x - 1) (dd (put S x) (S.R x - 1))) S.n = sumTo (dd (put S x)) S.n := by
    refine sumTo_congr fun y p q => ?_
    unfold updN
    split
    · rename_i e; rw [e]
    · split
      · rename_i e; rw [e]
      · split
        · rename_i e; rw [e]
        · rename_i n3 n2 n1
          exact (dd_else w h1 h2 nl' p q n1 n2 n3).symm
  rw [q4] at q3
  have q5 := dd_x w h1 h2
  have hl : dd (put S x) (S.L x + 1) = updN (dd S) x (dd (put S x) x) (S.L x + 1) + (if (hitL S x && !due S (S.L x + 1)) = true then 2 else 0) := by
    by_cases c : S.L x + 1 = x
    · have : hitL S x = false := by unfold hitL; simp [c]
      rw [c, updN_same, this]
      simp
    · rw [updN_ne _ _ c]
      exact dd_l w h1 h2 nl' c
  have hr : dd (put S x) (S.R x - 1) = updN (updN (dd S) x (dd (put S x) x)) (S.L x + 1) (dd (put S x) (S.L x + 1)) (S.R x - 1) + (if (hitR S x && !due S (S.R x - 1)) = true then 2 else 0) := by
    by_cases c : S.R x = x + 1
    · have : hitR S x = false := by unfold hitR; simp [c]
      rw [this]
      have e : S.R x - 1 = x := by omega
      rw [e]
      by_cases c2 : x = S.L x + 1
      · have c3 : S.L x + 1 = x := c2.symm
        rw [c3, updN_same]
        simp
      · rw [updN_ne _ _ c2, updN_same]
        simp
    · rw [updN_ne _ _ (by omega : S.R x - 1 ≠ S.L x + 1), updN_ne _ _ (by omega : S.R x - 1 ≠ x)]
      exact dd_r w h1 h2 nl' c
  show sumTo (dd (put S x)) S.n + 1 = sumTo (dd S) S.n + _ + _ + _
  omega
/-- THE MEANING OF lowers -/
theorem lowers_iff (nl : NoLost S) : lowers S x = true ↔ (NoLost (put S x) ∧ debt (put S x) + 1 = debt S) := by
  constructor
  · intro h
    unfold lowers at h
    simp only [Bool.and_eq_true, Bool.or_eq_true, Bool.not_eq_true'] at h
    obtain ⟨d, p, q⟩ := h
    have nl' : NoLost (put S x) := by
      rw [nolost_put w h1 h2 nl]
      refine ⟨fun z => ?_, fun z => ?_⟩
      · rcases p with p | p
        · rw [p] at z; cases z
        · exact p.1
      · rcases q with q | q
        · rw [q] at z; cases z
        · exact q.1
    refine ⟨nl', ?_⟩
    have e := debt_put w h1 h2 nl'
    rw [if_pos d] at e
    have el : (hitL S x && !due S (S.L x + 1)) = false := by
      rcases p with p | p
      · rw [p]; rfl
      · rw [p.2]; simp
    have er : (hitR S x && !due S (S.R x - 1)) = false := by
      rcases q with q | q
      · rw [q]; rfl
      · rw [q.2]; simp
    rw [el, er] at e
    simpa using e
  · rintro ⟨nl', e⟩
    have e2 := debt_put w h1 h2 nl'
    have pq := (nolost_put w h1 h2 nl).mp nl'
    have z1 : (if due S x = true then 0 else 2) = 0 := by omega
    have z2 : (if (hitL S x && !due S (S.L x + 1)) = true then 2 else 0) = 0 := by omega
    have z3 : (if (hitR S x && !due S (S.R x - 1)) = true then 2 else 0) = 0 := by omega
    have d : due S x = true := by
      cases q : due S x with
      | true => rfl
      | false => rw [q] at z1; simp at z1
    unfold lowers
    rw [d, Bool.true_and, Bool.and_eq_true]
    refine ⟨?_, ?_⟩
    · cases c : hitL S x with
      | false => rfl
      | true =>
        rw [pq.1 c]
        cases q : due S (S.L x + 1) with
        | true => rfl
        | false => rw [c, q] at z2; simp at z2
    · cases c : hitR S x with
      | false => rfl
      | true =>
        rw [pq.2 c]
        cases q : due S (S.R x - 1) with
        | true => rfl
        | false => rw [c, q] at z3; simp at z3
theorem due_dd {S : Sd} {y : Nat} : due S y = true ↔ dd S y ≠ 0 := by
  unfold due dd
  cases S.F y <;> cases sole S y <;> simp
/-- what is due behind it was due before -/
theorem lowers_due (nl : NoLost S) (h : lowers S x = true) {y : Nat} (y1 : 1 ≤ y) (y2 : y ≤ S.n) (hy : due (put S x) y = true) : due S y = true := by
  obtain ⟨nl', e⟩ := (lowers_iff w h1 h2 nl).mp h
  have e2 := debt_put w h1 h2 nl'
  by_cases c1 : y = x
  · subst c1
    cases q : due S y with
    | true => rfl
    | false => rw [q] at e2; simp at e2; omega
  · by_cases c2 : y = S.L x + 1
    · subst c2
      have q := dd_l w h1 h2 nl' c1
      rw [due_dd w h1 h2] at hy
      cases z : due S (S.L x + 1) with
      | true => rfl
      | false =>
        rw [z] at e2 q
        have z0 : dd S (S.L x + 1) = 0 := by
          cases Nat.decEq (dd S (S.L x + 1)) 0 with
          | isTrue t => exact t
          | isFalse t => rw [(due_dd w h1 h2).mpr t] at z; cases z
        cases hl : hitL S x with
        | true => rw [hl] at e2; simp at e2; omega
        | false => rw [hl] at q; simp at q; omega
    · by_cases c3 : y = S.R x - 1
      · have c4 : S.R x ≠ x + 1 := by omega
        subst c3
        have q := dd_r w h1 h2 nl' c4
        rw [due_dd w h1 h2] at hy
        cases z : due S (S.R x - 1) with
        | true => rfl
        | false =>
          rw [z] at e2 q
          have z0 : dd S (S.R x - 1) = 0 := by
            cases Nat.decEq (dd S (S.R x - 1)) 0 with
            | isTrue t => exact t
            | isFalse t => rw [(due_dd w h1 h2).mpr t] at z; cases z
          cases hl : hitR S x with
          | true => rw [hl] at e2; simp at e2; omega
          | false => rw [hl] at q; simp at q; omega
      · rw [due_dd w h1 h2] at hy ⊢
        rw [← dd_else w h1 h2 nl' y1 y2 c1 c2 c3]
        exact hy
end

/-! ### some operation lowers the debt -/
theorem due_left {S : Sd} (w : WF S) (nl : NoLost S) {x : Nat} (h1 : 1 ≤ x) (h2 : x ≤ S.n) (c : S.L x + 1 ≠ x) : 2 ≤ x ∧ due S (x - 1) = true := by
  have a := w.l x h1 (by omega)
  refine ⟨by omega, ?_⟩
  have z := nl (x - 1) (by omega)
  have e : x - 1 + 1 = x := by omega
  have hr : rh S (x - 1) = false := by
    unfold rh
    rw [e]
    exact decide_eq_false (by omega)
  rw [hr, Bool.or_false] at z
  unfold due sole
  rw [z, hr]
  simp
theorem due_right {S : Sd} (w : WF S) (nl : NoLost S) {x : Nat} (h2 : x ≤ S.n) (c : S.R x ≠ x + 1) : x + 1 ≤ S.n ∧ due S (x + 1) = true ∧ S.L (x + 1) = x := by
  have b := w.r x h2
  have z := nl x h2
  have hl : lh S x = false := decide_eq_false c
  rw [hl, Bool.false_or] at z
  have hL : S.L (x + 1) = x := of_decide_eq_true z
  refine ⟨by omega, ?_, hL⟩
  unfold due sole
  have e : x + 1 - 1 = x := by omega
  rw [e, z, hl]
  simp
theorem leftmost {S : Sd} (w : WF S) (nl : NoLost S) : ∀ x, 1 ≤ x → x ≤ S.n → due S x = true → ∃ y, 1 ≤ y ∧ y ≤ S.n ∧ due S y = true ∧ S.L y + 1 = y
  | 0, h, _, _ => by omega
  | x + 1, h1, h2, d => by
    by_cases c : S.L (x + 1) + 1 = x + 1
    · exact ⟨x + 1, h1, h2, d, c⟩
    · obtain ⟨p, q⟩ := due_left w nl h1 h2 c
      exact leftmost w nl x (by omega) (by omega) q
theorem rightmost {S : Sd} (w : WF S) (nl : NoLost S) : ∀ k x, S.n - x = k → 1 ≤ x → x ≤ S.n → due S x = true → S.L x + 1 = x → ∃ y, 1 ≤ y ∧ y ≤ S.n ∧ due S y = true ∧ S.L y + 1 = y ∧ S.R y = y + 1
  | 0, x, e, h1, h2, d, c => ⟨x, h1, h2, d, c, by have := w.r x h2; omega⟩
  | k + 1, x, e, h1, h2, d, c => by
    by_cases q : S.R x = x + 1
    · exact ⟨x, h1, h2, d, c, q⟩
    · obtain ⟨p1, p2, p3⟩ := due_right w nl h2 q
      exact rightmost w nl k (x + 1) (by omega) (by omega) p1 p2 (by omega)
theorem progress {S : Sd} (w : WF S) (nl : NoLost S) (h : debt S ≠ 0) : ∃ x, 1 ≤ x ∧ x ≤ S.n ∧ lowers S x = true := by
  have ex : ∃ x, 1 ≤ x ∧ x ≤ S.n ∧ due S x = true := by
    refine Classical.byContradiction fun no => h ?_
    have z : sumTo (dd S) S.n = sumTo (fun _ => 0) S.n := sumTo_congr fun y a b => by
      unfold dd
      have q : due S y = false := by
        cases e : due S y with
        | false => rfl
        | true => exact absurd ⟨y, a, b, e⟩ no
      unfold due at q
      simp only [Bool.or_eq_false_iff] at q
      rw [q.1, q.2]
      rfl
    have z0 : ∀ n, sumTo (fun _ => 0) n = 0 := by
      intro n
      induction n with
      | zero => rfl
      | succ n ih => unfold sumTo; omega
    show sumTo (dd S) S.n = 0
    rw [z, z0]
  obtain ⟨x, a, b, d⟩ := ex
  obtain ⟨x, a, b, d, c⟩ := leftmost w nl x a b d
  obtain ⟨x, a, b, d, c, c2⟩ := rightmost w nl _ x rfl a b d c
  refine ⟨x, a, b, ?_⟩
  unfold lowers hitL hitR
  simp [d, c, c2]

/-! ### whole -/
def Whole (S : Sd) : Prop := (∀ v, v ≤ S.n → S.R v = v + 1 ∧ S.L (v + 1) = v) ∧ ∀ x, 1 ≤ x → x ≤ S.n → S.F x = false
theorem whole_of {S : Sd} (w : WF S) (nl : NoLost S) (h : debt S = 0) : Whole S := by
  have z : ∀ y, 1 ≤ y → y ≤ S.n → S.F y = false ∧ sole S y = false := fun y a b => by
    have q := sumTo_zero h y a b
    unfold dd at q
    cases hF : S.F y with
    | true => rw [hF] at q; simp at q
    | false =>
      refine ⟨rfl, ?_⟩
      cases hs : sole S y with
      | true => rw [hF, hs] at q; simp at q
      | false => rfl
  have hR : ∀ v, v ≤ S.n → lh S v = true := fun v hv => by
    cases e : lh S v with
    | true => rfl
    | false =>
      have q := nl v hv
      rw [e, Bool.false_or] at q
      by_cases c : v + 1 ≤ S.n
      · have s := (z (v + 1) (by omega) c).2
        unfold sole at s
        have e2 : v + 1 - 1 = v := by omega
        rw [e2, q, e] at s
        simp at s
      · have := w.r v hv
        have e3 : S.R v = v + 1 := by omega
        unfold lh at e
        rw [e3] at e
        simp at e
  have hL : ∀ v, v ≤ S.n → rh S v = true := fun v hv => by
    cases e : rh S v with
    | true => rfl
    | false =>
      have q := hR v hv
      by_cases c : 1 ≤ v
      · have s := (z v c hv).2
        unfold sole at s
        rw [q, e] at s
        simp at s
      · have := w.l (v + 1) (by omega) (by omega)
        have e3 : S.L (v + 1) = v := by omega
        unfold rh at e
        rw [e3] at e
        simp at e
  exact ⟨fun v hv => ⟨of_decide_eq_true (hR v hv), of_decide_eq_true (hL v hv)⟩, fun x a b => (z x a b).1⟩
theorem of_whole {S : Sd} (h : Whole S) : NoLost S ∧ debt S = 0 := by
  have hR : ∀ v, v ≤ S.n → lh S v = true := fun v hv => decide_eq_true (h.1 v hv).1
  have hL : ∀ v, v ≤ S.n → rh S v = true := fun v hv => decide_eq_true (h.1 v hv).2
  refine ⟨fun v hv => by rw [hR v hv]; rfl, ?_⟩
  have z : sumTo (dd S) S.n = sumTo (fun _ => 0) S.n := sumTo_congr fun y a b => by
    unfold dd sole
    rw [h.2 y a b, hR y b, hL y b, hR (y - 1) (by omega), hL (y - 1) (by omega)]
    rfl
  have z0 : ∀ n, sumTo (fun _ => 0) n = 0 := by
    intro n
    induction n with
    | zero => rfl
    | succ n ih => unfold sumTo; omega
  show sumTo (dd S) S.n = 0
  rw [z, z0]
theorem whole_fresh (n : Nat) : Whole (fresh n) := ⟨fun v _ => ⟨rfl, by show v + 1 - 1 = v; omega⟩, fun _ _ _ => rfl⟩
end LL

namespace LL
/-! ### logs -/
def okop (S : Sd) (o : Int) : Bool := decide (o ≠ 0) && (decide (o.natAbs ≤ S.n) && (S.F o.natAbs == decide (0 < o)))
def after (S : Sd) (ops : List Int) : Sd := ops.foldl (fun S o => put S o.natAbs) S
def legal : Sd → List Int → Bool
  | _, [] => true
  | S, o :: os => okop S o && legal (put S o.natAbs) os
def opOn (S : Sd) (x : Nat) : Int := if S.F x = true then (x : Int) else -(x : Int)

theorem okop_iff {S : Sd} {o : Int} : okop S o = true ↔ (o ≠ 0 ∧ o.natAbs ≤ S.n ∧ S.F o.natAbs = decide (0 < o)) := by
  unfold okop
  simp only [Bool.and_eq_true, decide_eq_true_eq, beq_iff_eq]
theorem after_nil (S : Sd) : after S [] = S := rfl
theorem after_cons (S : Sd) (o : Int) (os : List Int) : after S (o :: os) = after (put S o.natAbs) os := rfl
theorem after_append (S : Sd) (a b : List Int) : after S (a ++ b) = after (after S a) b := List.foldl_append
theorem after_snoc (S : Sd) (a : List Int) (o : Int) : after S (a ++ [o]) = put (after S a) o.natAbs := by rw [after_append]; rfl
theorem after_n (S : Sd) (a : List Int) : (after S a).n = S.n := by
  induction a generalizing S with
  | nil => rfl
  | cons o os ih => rw [after_cons, ih]; rfl
theorem legal_append (S : Sd) (a b : List Int) : legal S (a ++ b) = (legal S a && legal (after S a) b) := by
  induction a generalizing S with
  | nil => rw [List.nil_append, after_nil]; rfl
  | cons o os ih =>
    rw [List.cons_append]
    show (okop S o && legal (put S o.natAbs) (os ++ b)) = (okop S o && legal (put S o.natAbs) os && _)
    rw [ih, Bool.and_assoc, after_cons]
theorem legal_snoc (S : Sd) (a : List Int) (o : Int) : legal S (a ++ [o]) = (legal S a && okop (after S a) o) := by
  rw [legal_append]
  show (legal S a && (okop (after S a) o && true)) = _
  rw [Bool.and_true]
theorem wf_after {S : Sd} (w : WF S) : ∀ {a : List Int}, legal S a = true → WF (after S a) := by
  intro a
  induction a generalizing S with
  | nil => intro _; exact w
  | cons o os ih =>
    intro h
    have h' : (okop S o && legal (put S o.natAbs) os) = true := h
    rw [Bool.and_eq_true, okop_iff] at h'
    obtain ⟨⟨o1, o2, _⟩, h2⟩ := h'
    rw [after_cons]
    exact ih (wf_put w (by omega) o2) h2
theorem legal_take {S : Sd} {a : List Int} (h : legal S a = true) (i : Nat) : legal S (a.take i) = true := by
  have e := legal_append S (a.take i) (a.drop i)
  rw [List.take_append_drop, h] at e
  exact (Bool.and_eq_true_iff.mp e.symm).1
theorem take_snoc {α : Type} {a : List α} {i : Nat} {o : α} (h : a[i]? = some o) : a.take (i + 1) = a.take i ++ [o] := by
  rw [List.take_add_one, h]; rfl
theorem legal_at {S : Sd} {a : List Int} (h : legal S a = true) {i : Nat} {o : Int} (e : a[i]? = some o) : okop (after S (a.take i)) o = true := by
  have q := legal_take h (i + 1)
  rw [take_snoc e, legal_snoc, Bool.and_eq_true] at q
  exact q.2
theorem after_take {S : Sd} {a : List Int} {i : Nat} {o : Int} (e : a[i]? = some o) : after S (a.take (i + 1)) = put (after S (a.take i)) o.natAbs := by
  rw [take_snoc e, after_snoc]
theorem opOn_abs (S : Sd) (x : Nat) : (opOn S x).natAbs = x := by
  unfold opOn
  split <;> omega
theorem opOn_neg {S : Sd} {x : Nat} (h : 1 ≤ x) : decide (opOn S x < 0) = !S.F x := by
  unfold opOn
  cases S.F x with
  | true => simp
  | false => simp; omega
theorem okop_opOn {S : Sd} {x : Nat} (h1 : 1 ≤ x) (h2 : x ≤ S.n) : okop S (opOn S x) = true := by
  rw [okop_iff, opOn_abs]
  refine ⟨?_, h2, ?_⟩
  · unfold opOn
    split <;> omega
  · unfold opOn
    cases S.F x with
    | true => simp; omega
    | false => simp
theorem okop_is {S : Sd} {o : Int} (h : okop S o = true) : opOn S o.natAbs = o := by
  rw [okop_iff] at h
  obtain ⟨h1, h2, h3⟩ := h
  unfold opOn
  rw [h3]
  by_cases c : 0 < o
  · rw [decide_eq_true c, if_pos rfl]; omega
  · rw [decide_eq_false c, if_neg (by decide)]; omega
theorem okop_F {S : Sd} {o : Int} (h : okop S o = true) : (put S o.natAbs).F o.natAbs = decide (o < 0) := by
  rw [okop_iff] at h
  obtain ⟨h1, h2, h3⟩ := h
  show updN S.F o.natAbs (!S.F o.natAbs) o.natAbs = _
  rw [updN_same, h3]
  by_cases c : 0 < o
  · rw [decide_eq_true c, decide_eq_false (by omega)]; rfl
  · rw [decide_eq_false c, decide_eq_true (by omega)]; rfl

/-! ### lists of nodes -/
def nodes (n : Nat) : List Nat := (List.range n).map (· + 1)
theorem mem_nodes {n x : Nat} : x ∈ nodes n ↔ 1 ≤ x ∧ x ≤ n := by
  unfold nodes
  simp only [List.mem_map, List.mem_range]
  constructor
  · rintro ⟨y, h, rfl⟩; omega
  · intro h; exact ⟨x - 1, by omega, by omega⟩
theorem nodes_succ (n : Nat) : nodes (n + 1) = nodes n ++ [n + 1] := by
  unfold nodes
  rw [List.range_succ, List.map_append]; rfl
theorem nodes_len (n : Nat) : (nodes n).length = n := by
  unfold nodes
  rw [List.length_map, List.length_range]
theorem nodes_at {n i : Nat} (h : i < n) : (nodes n)[i]? = some (i + 1) := by
  unfold nodes
  rw [List.getElem?_map, List.getElem?_range h]; rfl
def outs (S : Sd) : List Nat := (nodes S.n).filter S.F
def apart (S : Sd) : List Nat := (List.range (S.n + 1)).filter fun v => decide (gst S v ≠ .joined)
def lostL (S : Sd) : List Nat := (List.range (S.n + 1)).filter fun v => decide (gst S v = .lost)
def dueL (S : Sd) : List Nat := (nodes S.n).filter (due S)
theorem mem_lostL {S : Sd} {v : Nat} : v ∈ lostL S ↔ v ≤ S.n ∧ gst S v = .lost := by
  unfold lostL
  simp only [List.mem_filter, List.mem_range, decide_eq_true_eq]
  exact ⟨fun h => ⟨by omega, h.2⟩, fun h => ⟨by omega, h.2⟩⟩
theorem lostL_nil {S : Sd} : lostL S = [] ↔ NoLost S := by
  rw [nolost_iff]
  constructor
  · intro h v hv e
    have : v ∈ lostL S := mem_lostL.mpr ⟨hv, e⟩
    rw [h] at this
    cases this
  · intro h
    cases e : lostL S with
    | nil => rfl
    | cons v r =>
      have : v ∈ lostL S := by rw [e]; exact List.mem_cons_self
      have z := mem_lostL.mp this
      exact absurd z.2 (h v z.1)
def sumL : List Nat → Nat
  | [] => 0
  | a :: r => a + sumL r
theorem sumL_append (a b : List Nat) : sumL (a ++ b) = sumL a + sumL b := by
  induction a with
  | nil => simp [sumL]
  | cons x r ih => simp only [List.cons_append, sumL, ih]; omega
/-- the share of a due node -/
def share (S : Sd) (x : Nat) : Nat := if S.F x = true then 1 else 2
theorem debt_sum (S : Sd) : ∀ n, sumL (((nodes n).filter (due S)).map (share S)) = sumTo (dd S) n
  | 0 => rfl
  | n + 1 => by
    rw [nodes_succ, List.filter_append, List.map_append, sumL_append, debt_sum S n]
    show _ = sumTo (dd S) n + dd S (n + 1)
    congr 1
    unfold dd due share
    cases hF : S.F (n + 1) <;> cases hs : sole S (n + 1) <;> simp [sumL, hF, hs]

/-! ### whole -/
def wholeB (S : Sd) : Bool := (outs S).isEmpty && (List.range (S.n + 1)).all fun v => decide (S.R v = v + 1) && decide (S.L (v + 1) = v)
theorem outs_nil {S : Sd} : outs S = [] ↔ ∀ x, 1 ≤ x → x ≤ S.n → S.F x = false := by
  unfold outs
  rw [List.filter_eq_nil_iff]
  constructor
  · intro h x a b
    have := h x (mem_nodes.mpr ⟨a, b⟩)
    simpa using this
  · intro h x hx
    have z := mem_nodes.mp hx
    rw [h x z.1 z.2]
    decide
theorem wholeB_iff {S : Sd} : wholeB S = true ↔ Whole S := by
  unfold wholeB Whole
  rw [Bool.and_eq_true, List.isEmpty_iff, outs_nil, List.all_eq_true]
  constructor
  · rintro ⟨a, b⟩
    refine ⟨fun v hv => ?_, a⟩
    have z := b v (List.mem_range.mpr (by omega))
    simpa using z
  · rintro ⟨b, a⟩
    refine ⟨a, fun v hv => ?_⟩
    have z := b v (by have := List.mem_range.mp hv; omega)
    simp [z.1, z.2]
theorem apart_nil {S : Sd} : apart S = [] ↔ ∀ v, v ≤ S.n → gst S v = .joined := by
  unfold apart
  rw [List.filter_eq_nil_iff]
  constructor
  · intro h v hv
    have := h v (List.mem_range.mpr (by omega))
    simpa using this
  · intro h v hv
    have := h v (by have := List.mem_range.mp hv; omega)
    simp [this]
theorem whole_iff {S : Sd} : Whole S ↔ (apart S = [] ∧ outs S = []) := by
  rw [apart_nil, outs_nil]
  unfold Whole
  constructor
  · rintro ⟨a, b⟩
    refine ⟨fun v hv => ?_, b⟩
    rw [gst_joined]
    exact ⟨decide_eq_true (a v hv).1, decide_eq_true (a v hv).2⟩
  · rintro ⟨a, b⟩
    refine ⟨fun v hv => ?_, b⟩
    have z := gst_joined.mp (a v hv)
    exact ⟨of_decide_eq_true z.1, of_decide_eq_true z.2⟩

/-! ### the canonical repair -/
structure Good (S : Sd) (k : Nat) : Prop where
  wf : WF S
  nl : NoLost S
  db : debt S = k
def canon : Nat → Sd → List Int
  | 0, _ => []
  | k + 1, S => match (nodes S.n).find? (lowers S) with
    | some x => opOn S x :: canon k (put S x)
    | none => []
theorem good_next {S : Sd} {k : Nat} (g : Good S (k + 1)) : ∃ x, (nodes S.n).find? (lowers S) = some x ∧ 1 ≤ x ∧ x ≤ S.n ∧ lowers S x = true ∧ Good (put S x) k := by
  obtain ⟨y, a, b, c⟩ := progress g.wf g.nl (by rw [g.db]; omega)
  cases e : (nodes S.n).find? (lowers S) with
  | none =>
    rw [List.find?_eq_none] at e
    exact absurd c (e y (mem_nodes.mpr ⟨a, b⟩))
  | some x =>
    have hx := mem_nodes.mp (List.mem_of_find?_eq_some e)
    have hl : lowers S x = true := List.find?_some e
    obtain ⟨n1, n2⟩ := (lowers_iff g.wf hx.1 hx.2 g.nl).mp hl
    exact ⟨x, rfl, hx.1, hx.2, hl, ⟨wf_put g.wf hx.1 hx.2, n1, by have := g.db; omega⟩⟩
theorem canon_step {S : Sd} {k x : Nat} (e : (nodes S.n).find? (lowers S) = some x) : canon (k + 1) S = opOn S x :: canon k (put S x) := by
  show (match (nodes S.n).find? (lowers S) with | some x => opOn S x :: canon k (put S x) | none => []) = _
  rw [e]
theorem canon_len : ∀ {k : Nat} {S : Sd}, Good S k → (canon k S).length = k
  | 0, _, _ => rfl
  | k + 1, S, g => by
    obtain ⟨x, e, _, _, _, g'⟩ := good_next g
    rw [canon_step e, List.length_cons, canon_len g']
theorem canon_legal : ∀ {k : Nat} {S : Sd}, Good S k → legal S (canon k S) = true ∧ Whole (after S (canon k S))
  | 0, S, g => ⟨rfl, whole_of g.wf g.nl g.db⟩
  | k + 1, S, g => by
    obtain ⟨x, e, h1, h2, _, g'⟩ := good_next g
    obtain ⟨a, b⟩ := canon_legal g'
    rw [canon_step e, after_cons, opOn_abs]
    refine ⟨?_, b⟩
    show (okop S (opOn S x) && legal (put S (opOn S x).natAbs) (canon k (put S x))) = true
    rw [okop_opOn h1 h2, opOn_abs, a]; rfl
theorem canon_part : ∀ (j : Nat) {k : Nat} {S : Sd}, Good S k → j ≤ k → Good (after S ((canon k S).take j)) (k - j) ∧ canon (k - j) (after S ((canon k S).take j)) = (canon k S).drop j
  | 0, k, S, g, _ => ⟨g, rfl⟩
  | j + 1, 0, S, g, h => by omega
  | j + 1, k + 1, S, g, h => by
    obtain ⟨x, e, _, _, _, g'⟩ := good_next g
    have q := canon_part j g' (by omega)
    rw [canon_step e, List.take_succ_cons, List.drop_succ_cons, after_cons, opOn_abs, Nat.add_sub_add_right]
    exact q
/-- the search may be held to nodes that were due before -/
theorem find_sub {S S0 : Sd} (hn : S.n = S0.n) (hd : ∀ y, 1 ≤ y → y ≤ S.n → due S y = true → due S0 y = true) : (dueL S0).find? (lowers S) = (nodes S.n).find? (lowers S) := by
  unfold dueL
  rw [List.find?_filter, hn]
  have hc : ∀ l : List Nat, (∀ a, a ∈ l → a ∈ nodes S0.n) → l.find? (fun a => due S0 a && lowers S a) = l.find? (lowers S) := by
    intro l
    induction l with
    | nil => intro _; rfl
    | cons a r ih =>
      intro h
      have hm := mem_nodes.mp (h a List.mem_cons_self)
      have e : (due S0 a && lowers S a) = lowers S a := by
        cases q : lowers S a with
        | false => rw [Bool.and_false]
        | true =>
          have : due S a = true := by
            unfold lowers at q
            rw [Bool.and_eq_true] at q
            exact q.1
          rw [hd a hm.1 (by omega) this]; rfl
      rw [List.find?_cons, List.find?_cons, e, ih fun b hb => h b (List.mem_cons_of_mem _ hb)]
  have hd2 : (fun a => decide (due S0 a = true ∧ lowers S a = true)) = fun a => due S0 a && lowers S a := by
    funext a
    cases due S0 a <;> cases lowers S a <;> rfl
  rw [hd2]
  exact hc _ fun _ h => h
theorem canon_due : ∀ (j : Nat) {k : Nat} {S : Sd}, Good S k → j ≤ k → ∀ y, 1 ≤ y → y ≤ S.n → due (after S ((canon k S).take j)) y = true → due S y = true
  | 0, k, S, g, _, y, _, _, h => h
  | j + 1, 0, S, g, h, _, _, _, _ => by omega
  | j + 1, k + 1, S, g, h, y, y1, y2, hy => by
    obtain ⟨x, e, x1, x2, hl, g'⟩ := good_next g
    rw [canon_step e, List.take_succ_cons, after_cons, opOn_abs] at hy
    exact lowers_due g.wf x1 x2 g.nl hl y1 y2 (canon_due j g' (by omega) y y1 y2 hy)
/-- the debt as the law reckons it -/
def ldebt (S : Sd) : Int := if (lostL S).isEmpty = true then (debt S : Int) else -1
theorem ldebt_lowers {S : Sd} {k x : Nat} (g : Good S (k + 1)) (h1 : 1 ≤ x) (h2 : x ≤ S.n) : decide (ldebt (put S x) = (k : Int)) = lowers S x := by
  have z := lowers_iff g.wf h1 h2 g.nl
  have d := g.db
  cases q : lowers S x with
  | true =>
    obtain ⟨a, b⟩ := z.mp q
    have e : (lostL (put S x)).isEmpty = true := by rw [List.isEmpty_iff]; exact lostL_nil.mpr a
    refine decide_eq_true ?_
    unfold ldebt
    rw [if_pos e]
    omega
  | false =>
    refine decide_eq_false fun c => ?_
    unfold ldebt at c
    by_cases e : (lostL (put S x)).isEmpty = true
    · rw [if_pos e] at c
      have a := lostL_nil.mp (List.isEmpty_iff.mp e)
      have := z.mpr ⟨a, by omega⟩
      rw [q] at this
      cases this
    · rw [if_neg e] at c
      omega
theorem ldebt_good {S : Sd} {k : Nat} (g : Good S k) : ldebt S = (k : Int) := by
  unfold ldebt
  rw [if_pos (List.isEmpty_iff.mpr (lostL_nil.mpr g.nl)), g.db]
/-- a log leads to the whole list -/
def leads (S : Sd) (ops : List Int) : Bool := legal S ops && wholeB (after S ops)
theorem good_whole {S : Sd} {k : Nat} (g : Good S k) : wholeB S = decide (k = 0) := by
  by_cases e : k = 0
  · subst e
    rw [decide_eq_true rfl, wholeB_iff]
    exact whole_of g.wf g.nl g.db
  · rw [decide_eq_false e]
    cases q : wholeB S with
    | false => rfl
    | true => exact absurd ((g.db).symm.trans (of_whole (wholeB_iff.mp q)).2) e

/-! ### lost gaps stay; the deciding operation -/
theorem lost_put {S : Sd} (w : WF S) {o : Int} (h : okop S o = true) {v : Nat} (hv : v ≤ S.n) (e : gst S v = .lost) : gst (put S o.natAbs) v = .lost := by
  rw [okop_iff] at h
  exact lost_stays w (by omega) h.2.1 hv e
theorem lost_after {S : Sd} (w : WF S) : ∀ {a : List Int}, legal S a = true → ∀ {v : Nat}, v ≤ S.n → gst S v = .lost → gst (after S a) v = .lost := by
  intro a
  induction a generalizing S with
  | nil => intro _ v _ e; exact e
  | cons o os ih =>
    intro h v hv e
    have h' : (okop S o && legal (put S o.natAbs) os) = true := h
    rw [Bool.and_eq_true] at h'
    have z := okop_iff.mp h'.1
    rw [after_cons]
    exact ih (wf_put w (by omega) z.2.1) h'.2 hv (lost_put w h'.1 hv e)
/-- the state of gap v behind the first i operations -/
def gat (S : Sd) (row : List Int) (i v : Nat) : G := gst (after S (row.take i)) v
def dec (S : Sd) (row : List Int) (v : Nat) : Nat → Int
  | 0 => -1
  | k + 1 => if gat S row (k + 1) v = gat S row k v then dec S row v k else (k : Int)
theorem dec_lt (S : Sd) (row : List Int) (v : Nat) : ∀ k, -1 ≤ dec S row v k ∧ dec S row v k < (k : Int)
  | 0 => ⟨Int.le_refl _, by show (-1 : Int) < ((0 : Nat) : Int); decide⟩
  | k + 1 => by
    have := dec_lt S row v k
    unfold dec
    split <;> omega
theorem gat_take (S : Sd) (row : List Int) {i j : Nat} (v : Nat) (h : i ≤ j) : gat S (row.take j) i v = gat S row i v := by
  unfold gat
  rw [List.take_take, Nat.min_eq_left h]
theorem dec_take (S : Sd) (row : List Int) (v : Nat) {j : Nat} : ∀ {k : Nat}, k ≤ j → dec S (row.take j) v k = dec S row v k
  | 0, _ => rfl
  | k + 1, h => by
    unfold dec
    rw [gat_take S row v h, gat_take S row v (by omega), dec_take S row v (k := k) (by omega)]
theorem gat_append (S : Sd) (row more : List Int) {i : Nat} (v : Nat) (h : i ≤ row.length) : gat S (row ++ more) i v = gat S row i v := by
  unfold gat
  rw [List.take_append_of_le_length h]
/-- the losses, as they come -/
def fnd (S : Sd) (row : List Int) : Nat → List (Nat × Int × Nat)
  | 0 => []
  | k + 1 => fnd S row k ++ ((List.range (S.n + 1)).filter fun v => decide (gat S row (k + 1) v ≠ gat S row k v) && decide (gat S row (k + 1) v = .lost)).map fun v => (v, dec S row v k, k)
theorem gat_lost {S : Sd} (w : WF S) {row : List Int} (h : legal S row = true) {k v : Nat} (hk : k < row.length) (hv : v ≤ S.n) (e : gat S row k v = .lost) : gat S row (k + 1) v = .lost := by
  obtain ⟨o, ho⟩ : ∃ o, row[k]? = some o := ⟨row[k], List.getElem?_eq_getElem hk⟩
  unfold gat at e ⊢
  rw [after_take ho]
  exact lost_put (wf_after w (legal_take h k)) (legal_at h ho) (by rw [after_n]; exact hv) e
theorem fnd_mem {S : Sd} (w : WF S) {row : List Int} (h : legal S row = true) : ∀ {m : Nat}, m ≤ row.length → ∀ e ∈ fnd S row m,
    e.1 ≤ S.n ∧ gat S row m e.1 = .lost ∧ e.2.2 < m ∧ dec S row e.1 m = (e.2.2 : Int) ∧ e.2.1 = dec S row e.1 e.2.2
  | 0, _, e, he => by cases he
  | m + 1, hm, e, he => by
    have he' : e ∈ fnd S row m ++ ((List.range (S.n + 1)).filter fun v => decide (gat S row (m + 1) v ≠ gat S row m v) && decide (gat S row (m + 1) v = .lost)).map fun v => (v, dec S row v m, m) := he
    rcases List.mem_append.mp he' with z | z
    · obtain ⟨a, b, c, d, f⟩ := fnd_mem w h (by omega) e z
      have b2 := gat_lost w h (by omega) a b
      refine ⟨a, b2, by omega, ?_, f⟩
      unfold dec
      rw [if_pos (by rw [b, b2])]
      exact d
    · obtain ⟨v, hv, rfl⟩ := List.mem_map.mp z
      simp only [List.mem_filter, List.mem_range, Bool.and_eq_true, decide_eq_true_eq] at hv
      refine ⟨by show v ≤ S.n; omega, hv.2.2, Nat.lt_succ_self m, ?_, rfl⟩
      show dec S row v (m + 1) = (m : Int)
      unfold dec
      rw [if_neg hv.2.1]
theorem fnd_has {S : Sd} (w : WF S) (nl : NoLost S) {row : List Int} (h : legal S row = true) : ∀ {m : Nat}, m ≤ row.length → ∀ {v : Nat}, v ≤ S.n → gat S row m v = .lost → ∃ e ∈ fnd S row m, e.1 = v
  | 0, _, v, hv, e => absurd e (nolost_iff.mp nl v hv)
  | m + 1, hm, v, hv, e => by
    by_cases c : gat S row m v = .lost
    · obtain ⟨x, hx, ex⟩ := fnd_has w nl h (m := m) (by omega) hv c
      exact ⟨x, List.mem_append_left _ hx, ex⟩
    · refine ⟨(v, dec S row v m, m), List.mem_append_right _ (List.mem_map.mpr ⟨v, ?_, rfl⟩), rfl⟩
      simp only [List.mem_filter, List.mem_range, Bool.and_eq_true, decide_eq_true_eq]
      exact ⟨by omega, fun z => c (z ▸ e), e⟩
theorem fnd_nil {S : Sd} (w : WF S) (nl : NoLost S) {row : List Int} (h : legal S row = true) : fnd S row row.length = [] ↔ NoLost (after S row) := by
  have e : ∀ v, gat S row row.length v = gst (after S row) v := fun v => by unfold gat; rw [List.take_length]
  constructor
  · intro z
    rw [nolost_iff]
    intro v hv q
    rw [after_n] at hv
    obtain ⟨x, hx, _⟩ := fnd_has w nl h (Nat.le_refl _) hv ((e v).trans q)
    rw [z] at hx
    cases hx
  · intro z
    cases q : fnd S row row.length with
    | nil => rfl
    | cons x r =>
      have hx : x ∈ fnd S row row.length := by rw [q]; exact List.mem_cons_self
      obtain ⟨a, b, _⟩ := fnd_mem w h (Nat.le_refl _) x hx
      rw [e] at b
      exact absurd b (nolost_iff.mp z x.1 (by rw [after_n]; exact a))
/-- the least of the losses is the certificate of the least lost gap -/
theorem least_loss {S : Sd} (w : WF S) (nl : NoLost S) {row : List Int} (h : legal S row = true) {x : Nat × Int × Nat} (hx : x ∈ fnd S row row.length) (hmin : ∀ y ∈ fnd S row row.length, x.1 ≤ y.1) :
    (lostL (after S row)).head? = some x.1 ∧ dec S row x.1 row.length = (x.2.2 : Int) ∧ x.2.2 < row.length ∧ dec S row x.1 x.2.2 = x.2.1 := by
  have e : ∀ v, gat S row row.length v = gst (after S row) v := fun v => by unfold gat; rw [List.take_length]
  obtain ⟨a, b, c, d, f⟩ := fnd_mem w h (Nat.le_refl _) x hx
  refine ⟨?_, d, c, f.symm⟩
  rw [e] at b
  have hm : x.1 ∈ lostL (after S row) := mem_lostL.mpr ⟨by rw [after_n]; exact a, b⟩
  cases q : lostL (after S row) with
  | nil => rw [q] at hm; cases hm
  | cons v r =>
    have hv : v ∈ lostL (after S row) := by rw [q]; exact List.mem_cons_self
    have hv2 := mem_lostL.mp hv
    rw [after_n] at hv2
    obtain ⟨y, hy, ey⟩ := fnd_has w nl h (Nat.le_refl _) hv2.1 ((e v).trans hv2.2)
    have le1 := hmin y hy
    have srt : (lostL (after S row)).Pairwise (· < ·) := by
      unfold lostL
      exact (List.pairwise_lt_range).filter _
    rw [q] at srt hm
    rcases List.mem_cons.mp hm with z | z
    · rw [z]; rfl
    · have := (List.pairwise_cons.mp srt).1 x.1 z
      omega
end LL

namespace LL
open PySem PySem.Spec PyProof.Rows L2
/-! ### the text by places, the lists of what the head tells -/
def top (i : Nat) : Stmt := PySem.Challenge.pw_latelink_k48_whole_log_and_first_repair.main.body.getD i (.Pass ⟨0, 0, 0, 0⟩)
def d_check_size : He.DefD := ⟨("check_size", none), "check_size", "check_size", defArgs (top 15), defBody (top 15), defScope (top 15), [], []⟩
def d_check_operation : He.DefD := ⟨("check_operation", none), "check_operation", "check_operation", defArgs (top 16), defBody (top 16), defScope (top 16), [], []⟩
def d_check_log : He.DefD := ⟨("check_log", none), "check_log", "check_log", defArgs (top 17), defBody (top 17), defScope (top 17), [], []⟩
def d__is_legal : He.DefD := ⟨("_is_legal", none), "_is_legal", "_is_legal", defArgs (top 18), defBody (top 18), defScope (top 18), [], []⟩
def d_check_gap : He.DefD := ⟨("check_gap", none), "check_gap", "check_gap", defArgs (top 21), defBody (top 21), defScope (top 21), [], []⟩
def d_left_holds : He.DefD := ⟨("left_holds", none), "left_holds", "left_holds", defArgs (top 22), defBody (top 22), defScope (top 22), [], []⟩
def d_right_holds : He.DefD := ⟨("right_holds", none), "right_holds", "right_holds", defArgs (top 23), defBody (top 23), defScope (top 23), [], []⟩
def d_gap_state : He.DefD := ⟨("gap_state", none), "gap_state", "gap_state", defArgs (top 24), defBody (top 24), defScope (top 24), [], []⟩
def d_gap_states : He.DefD := ⟨("gap_states", none), "gap_states", "gap_states", defArgs (top 25), defBody (top 25), defScope (top 25), [], []⟩
def d_lost_gaps : He.DefD := ⟨("lost_gaps", none), "lost_gaps", "lost_gaps", defArgs (top 26), defBody (top 26), defScope (top 26), [], []⟩
def d_foreign_writes : He.DefD := ⟨("foreign_writes", none), "foreign_writes", "foreign_writes", defArgs (top 27), defBody (top 27), defScope (top 27), [], []⟩
def d_check_repairable : He.DefD := ⟨("check_repairable", none), "check_repairable", "check_repairable", defArgs (top 29), defBody (top 29), defScope (top 29), [], []⟩
def d_is_due : He.DefD := ⟨("is_due", none), "is_due", "is_due", defArgs (top 30), defBody (top 30), defScope (top 30), [], []⟩
def d__share : He.DefD := ⟨("_share", none), "_share", "_share", defArgs (top 31), defBody (top 31), defScope (top 31), [], []⟩
def d_is_repairable : He.DefD := ⟨("is_repairable", none), "is_repairable", "is_repairable", defArgs (top 32), defBody (top 32), defScope (top 32), [], []⟩
def d_due_nodes : He.DefD := ⟨("due_nodes", none), "due_nodes", "due_nodes", defArgs (top 33), defBody (top 33), defScope (top 33), [], []⟩
def d_settled_debt : He.DefD := ⟨("settled_debt", none), "settled_debt", "settled_debt", defArgs (top 34), defBody (top 34), defScope (top 34), [], []⟩
def d_debt_of : He.DefD := ⟨("debt_of", none), "debt_of", "debt_of", defArgs (top 35), defBody (top 35), defScope (top 35), [], []⟩
def d_Links___init__ : He.DefD := ⟨("Links", some "__init__"), "__init__", "Links.__init__", defArgs (inClass (top 42) 1), defBody (inClass (top 42) 1), defScope (inClass (top 42) 1), [], []⟩
def d_Links_left : He.DefD := ⟨("Links", some "left"), "left", "Links.left", defArgs (inClass (top 42) 4), defBody (inClass (top 42) 4), defScope (inClass (top 42) 4), [], []⟩
def d_Links_right : He.DefD := ⟨("Links", some "right"), "right", "Links.right", defArgs (inClass (top 42) 5), defBody (inClass (top 42) 5), defScope (inClass (top 42) 5), [], []⟩
def d_Links_is_out : He.DefD := ⟨("Links", some "is_out"), "is_out", "Links.is_out", defArgs (inClass (top 42) 6), defBody (inClass (top 42) 6), defScope (inClass (top 42) 6), [], []⟩
def d_Links_outs : He.DefD := ⟨("Links", some "outs"), "outs", "Links.outs", defArgs (inClass (top 42) 7), defBody (inClass (top 42) 7), defScope (inClass (top 42) 7), [], []⟩
def d_Links_operation_on : He.DefD := ⟨("Links", some "operation_on"), "operation_on", "Links.operation_on", defArgs (inClass (top 42) 8), defBody (inClass (top 42) 8), defScope (inClass (top 42) 8), [], []⟩
def d_Links_apply : He.DefD := ⟨("Links", some "apply"), "apply", "Links.apply", defArgs (inClass (top 42) 9), defBody (inClass (top 42) 9), defScope (inClass (top 42) 9), [], []⟩
def d_Links_apply_at : He.DefD := ⟨("Links", some "apply_at"), "apply_at", "Links.apply_at", defArgs (inClass (top 42) 10), defBody (inClass (top 42) 10), defScope (inClass (top 42) 10), [], []⟩
def d_Links_is_sound : He.DefD := ⟨("Links", some "is_sound"), "is_sound", "Links.is_sound", defArgs (inClass (top 42) 13), defBody (inClass (top 42) 13), defScope (inClass (top 42) 13), [], []⟩
def d_Links_is_whole : He.DefD := ⟨("Links", some "is_whole"), "is_whole", "Links.is_whole", defArgs (inClass (top 42) 14), defBody (inClass (top 42) 14), defScope (inClass (top 42) 14), [], []⟩
def d_Links_copy : He.DefD := ⟨("Links", some "copy"), "copy", "Links.copy", defArgs (inClass (top 42) 15), defBody (inClass (top 42) 15), defScope (inClass (top 42) 15), [], []⟩
def d_Links__dump_parts : He.DefD := ⟨("Links", some "_dump_parts"), "_dump_parts", "Links._dump_parts", defArgs (inClass (top 42) 17), defBody (inClass (top 42) 17), defScope (inClass (top 42) 17), [], []⟩
def d_Links___str__ : He.DefD := ⟨("Links", some "__str__"), "__str__", "Links.__str__", defArgs (inClass (top 42) 18), defBody (inClass (top 42) 18), defScope (inClass (top 42) 18), [], []⟩
def d_Links___eq__ : He.DefD := ⟨("Links", some "__eq__"), "__eq__", "Links.__eq__", defArgs (inClass (top 42) 21), defBody (inClass (top 42) 21), defScope (inClass (top 42) 21), [], []⟩
def d_replay : He.DefD := ⟨("replay", none), "replay", "replay", defArgs (top 44), defBody (top 44), defScope (top 44), [], []⟩
def d_play : He.DefD := ⟨("play", none), "play", "play", defArgs (top 45), defBody (top 45), defScope (top 45), [], []⟩
def d_lowers : He.DefD := ⟨("lowers", none), "lowers", "lowers", defArgs (top 47), defBody (top 47), defScope (top 47), [], []⟩
def d__first_lowering : He.DefD := ⟨("_first_lowering", none), "_first_lowering", "_first_lowering", defArgs (top 48), defBody (top 48), defScope (top 48), [], []⟩
def d_first_repair : He.DefD := ⟨("first_repair", none), "first_repair", "first_repair", defArgs (top 49), defBody (top 49), defScope (top 49), [], []⟩
def d_is_repair : He.DefD := ⟨("is_repair", none), "is_repair", "is_repair", defArgs (top 50), defBody (top 50), defScope (top 50), [], []⟩
def d_is_least_repair : He.DefD := ⟨("is_least_repair", none), "is_least_repair", "is_least_repair", defArgs (top 51), defBody (top 51), defScope (top 51), [], []⟩
def d_decided_by : He.DefD := ⟨("decided_by", none), "decided_by", "decided_by", defArgs (top 53), defBody (top 53), defScope (top 53), [], []⟩
def d_Verdict___init__ : He.DefD := ⟨("Verdict", some "__init__"), "__init__", "Verdict.__init__", defArgs (inClass (top 55) 0), defBody (inClass (top 55) 0), defScope (inClass (top 55) 0), [], []⟩
def d_verdict : He.DefD := ⟨("verdict", none), "verdict", "verdict", defArgs (top 56), defBody (top 56), defScope (top 56), [], []⟩
def d__certificate : He.DefD := ⟨("_certificate", none), "_certificate", "_certificate", defArgs (top 58), defBody (top 58), defScope (top 58), [], []⟩
def d_loss_certificate : He.DefD := ⟨("loss_certificate", none), "loss_certificate", "loss_certificate", defArgs (top 59), defBody (top 59), defScope (top 59), [], []⟩
def d__law_box : He.DefD := ⟨("_law_box", none), "_law_box", "_law_box", defArgs (top 61), defBody (top 61), defScope (top 61), [], []⟩
def d__law_draw : He.DefD := ⟨("_law_draw", none), "_law_draw", "_law_draw", defArgs (top 62), defBody (top 62), defScope (top 62), [], []⟩
def d__law_same : He.DefD := ⟨("_law_same", none), "_law_same", "_law_same", defArgs (top 63), defBody (top 63), defScope (top 63), [], []⟩
def d__law_start : He.DefD := ⟨("_law_start", none), "_law_start", "_law_start", defArgs (top 64), defBody (top 64), defScope (top 64), [], []⟩
def d__law_put : He.DefD := ⟨("_law_put", none), "_law_put", "_law_put", defArgs (top 65), defBody (top 65), defScope (top 65), [], []⟩
def d__law_twin : He.DefD := ⟨("_law_twin", none), "_law_twin", "_law_twin", defArgs (top 66), defBody (top 66), defScope (top 66), [], []⟩
def d__law_outs : He.DefD := ⟨("_law_outs", none), "_law_outs", "_law_outs", defArgs (top 67), defBody (top 67), defScope (top 67), [], []⟩
def d__law_states : He.DefD := ⟨("_law_states", none), "_law_states", "_law_states", defArgs (top 68), defBody (top 68), defScope (top 68), [], []⟩
def d__law_deeds : He.DefD := ⟨("_law_deeds", none), "_law_deeds", "_law_deeds", defArgs (top 69), defBody (top 69), defScope (top 69), [], []⟩
def d__law_debt : He.DefD := ⟨("_law_debt", none), "_law_debt", "_law_debt", defArgs (top 70), defBody (top 70), defScope (top 70), [], []⟩
def d__law_repair : He.DefD := ⟨("_law_repair", none), "_law_repair", "_law_repair", defArgs (top 71), defBody (top 71), defScope (top 71), [], []⟩
def d__law_log : He.DefD := ⟨("_law_log", none), "_law_log", "_law_log", defArgs (top 72), defBody (top 72), defScope (top 72), [], []⟩
def d__law_book : He.DefD := ⟨("_law_book", none), "_law_book", "_law_book", defArgs (top 73), defBody (top 73), defScope (top 73), [], []⟩
def d__law_due : He.DefD := ⟨("_law_due", none), "_law_due", "_law_due", defArgs (top 74), defBody (top 74), defScope (top 74), [], []⟩
def d__law_told : He.DefD := ⟨("_law_told", none), "_law_told", "_law_told", defArgs (top 75), defBody (top 75), defScope (top 75), [], []⟩
def d__law_paper : He.DefD := ⟨("_law_paper", none), "_law_paper", "_law_paper", defArgs (top 76), defBody (top 76), defScope (top 76), [], []⟩
def d__law_mend : He.DefD := ⟨("_law_mend", none), "_law_mend", "_law_mend", defArgs (top 77), defBody (top 77), defScope (top 77), [], []⟩
def d__law_leads : He.DefD := ⟨("_law_leads", none), "_law_leads", "_law_leads", defArgs (top 78), defBody (top 78), defScope (top 78), [], []⟩
def d__law_judged : He.DefD := ⟨("_law_judged", none), "_law_judged", "_law_judged", defArgs (top 79), defBody (top 79), defScope (top 79), [], []⟩
def d__law_neighbours : He.DefD := ⟨("_law_neighbours", none), "_law_neighbours", "_law_neighbours", defArgs (top 80), defBody (top 80), defScope (top 80), [], []⟩
def d__law_mended : He.DefD := ⟨("_law_mended", none), "_law_mended", "_law_mended", defArgs (top 81), defBody (top 81), defScope (top 81), [], []⟩
def d__law_beyond : He.DefD := ⟨("_law_beyond", none), "_law_beyond", "_law_beyond", defArgs (top 82), defBody (top 82), defScope (top 82), [], []⟩
def d_law : He.DefD := ⟨("law", none), "law", "law", defArgs (top 83), defBody (top 83), defScope (top 83), [], []⟩
def fnl0 : List He.DefD := [d_check_size, d_check_operation, d_check_log, d__is_legal, d_check_gap, d_left_holds, d_right_holds, d_gap_state, d_gap_states, d_lost_gaps, d_foreign_writes, d_check_repairable, d_is_due, d__share, d_is_repairable, d_due_nodes, d_settled_debt, d_debt_of, d_Links___init__, d_Links_left]
def fnl1 : List He.DefD := [d_Links_right, d_Links_is_out, d_Links_outs, d_Links_operation_on, d_Links_apply, d_Links_apply_at, d_Links_is_sound, d_Links_is_whole, d_Links_copy, d_Links__dump_parts, d_Links___str__, d_Links___eq__, d_replay, d_play, d_lowers, d__first_lowering, d_first_repair, d_is_repair, d_is_least_repair, d_decided_by]
def fnl2 : List He.DefD := [d_Verdict___init__, d_verdict, d__certificate, d_loss_certificate, d__law_box, d__law_draw, d__law_same, d__law_start, d__law_put, d__law_twin, d__law_outs, d__law_states, d__law_deeds, d__law_debt, d__law_repair, d__law_log, d__law_book, d__law_due, d__law_told, d__law_paper]
def fnl3 : List He.DefD := [d__law_mend, d__law_leads, d__law_judged, d__law_neighbours, d__law_mended, d__law_beyond, d_law]
def fnl : List He.DefD := fnl0 ++ fnl1 ++ fnl2 ++ fnl3
def fal0 : List He.Fa := [.glo "check_size", .glo "check_operation", .glo "check_log", .glo "_is_legal", .glo "check_gap", .glo "left_holds", .glo "right_holds", .glo "gap_state", .glo "gap_states", .glo "lost_gaps", .glo "foreign_writes", .glo "check_repairable", .glo "is_due", .glo "_share", .glo "is_repairable", .glo "due_nodes", .glo "settled_debt", .glo "debt_of", .glo "replay", .glo "play"]
def fal1 : List He.Fa := [.glo "lowers", .glo "_first_lowering", .glo "first_repair", .glo "is_repair", .glo "is_least_repair", .glo "decided_by", .glo "verdict", .glo "_certificate", .glo "loss_certificate", .glo "_law_box", .glo "_law_draw", .glo "_law_same", .glo "_law_start", .glo "_law_put", .glo "_law_twin", .glo "_law_outs", .glo "_law_states", .glo "_law_deeds", .glo "_law_debt", .glo "_law_repair"]
def fal2 : List He.Fa := [.glo "_law_log", .glo "_law_book", .glo "_law_due", .glo "_law_told", .glo "_law_paper", .glo "_law_mend", .glo "_law_leads", .glo "_law_judged", .glo "_law_neighbours", .glo "_law_mended", .glo "_law_beyond", .glo "law", .glo "LinkError", .glo "LogError", .glo "BadOperation", .glo "Illegal", .glo "NotRepairable", .glo "NotLost", .glo "Links", .glo "Verdict"]
def fal3 : List He.Fa := [.free "len", .free "range", .free "abs", .free "list", .free "isinstance", .free "int", .free "str", .free "sum", .free "min", .free "sorted", .free "enumerate", .free "super", .free "bool", .free "tuple", .free "ValueError", .free "staticmethod", .int "MOST_NODES" 60, .cls "Links", .mkr "Links", .noat "Links" "size"]
def fal4 : List He.Fa := [.noat "Links" "_lefts", .noat "Links" "_rights", .noat "Links" "_flags", .meth "Links" "left", .meth "Links" "right", .meth "Links" "is_out", .meth "Links" "outs", .meth "Links" "operation_on", .meth "Links" "apply", .meth "Links" "apply_at", .meth "Links" "is_sound", .meth "Links" "is_whole", .meth "Links" "copy", .meth "Links" "_dump_parts", .meth "Links" "__str__", .meth "Links" "__eq__", .cls "Verdict", .mkr "Verdict", .noat "Verdict" "out_nodes", .noat "Verdict" "gap"]
def fal5 : List He.Fa := [.noat "Verdict" "index", .noat "Verdict" "whole", .exm "BadOperation" "LogError" true, .exm "Illegal" "LogError" true, .exm "NotLost" "NotLost" true, .exm "NotRepairable" "NotRepairable" true]
def fal : List He.Fa := fal0 ++ fal1 ++ fal2 ++ fal3 ++ fal4 ++ fal5
def loo0 : List Str := ["_wall", "__name__", "LinkError", "LogError", "BadOperation", "Illegal", "BadSize", "BadNode", "BadGap", "BadDump", "NotRepairable", "NotLost", "MOST_NODES", "MOST_DIGITS", "check_size", "check_operation", "check_log", "_is_legal", "is_number", "check_gap"]
def loo1 : List Str := ["left_holds", "right_holds", "gap_state", "gap_states", "lost_gaps", "foreign_writes", "check_repairable", "is_due", "_share", "is_repairable", "due_nodes", "settled_debt", "debt_of", "PARTS", "_numbers", "_read_rights", "_read_lefts", "_read_outs", "Links", "replay"]
def loo2 : List Str := ["play", "lowers", "_first_lowering", "first_repair", "is_repair", "is_least_repair", "decided_by", "Verdict", "verdict", "_certificate", "loss_certificate", "_law_box", "_law_draw", "_law_same", "_law_start", "_law_put", "_law_twin", "_law_outs", "_law_states", "_law_deeds"]
def loo3 : List Str := ["_law_debt", "_law_repair", "_law_log", "_law_book", "_law_due", "_law_told", "_law_paper", "_law_mend", "_law_leads", "_law_judged", "_law_neighbours", "_law_mended", "_law_beyond"]
def loo : List Str := loo0 ++ loo1 ++ loo2 ++ loo3
end LL
namespace LL
open PySem PySem.W PySem.Calls PyProof.Rows PySem.HandSPX
/-! ### own errors whose __init__ says super().__init__('..') and stores its arguments -/
abbrev vInit : String := "ValueError.__init__"
section
variable {prog : Program} {w : World} {A : Around} {E : Value → Shared → Prop} {h : Heap} {g : Array GenState} {d : Drawn} {t : Nat} {os : OsState}
theorem call_mwV {nm q : Str} {C N : Addr} {bs bm : List Value} {hdct : Bool} {sn : List Str} {sub : List Value} {ab : Bool} {col : Option Bool} {dd : Option Addr} {k0 k1 k2 k3 k5 : Option Value} {u e t0 : Addr} {rest : List Value} {Q : Value → Shared → Prop}
    (hC : h.get? C = some (excClassObj nm q C N bs bm hdct sn sub ab col dd k0 k1 k2 k3 k5 "ValueError.__new__")) (he : h.get? e = some (excO C t0)) (hu : h.get? u = some (kxs_mw vInit e)) (hrest : rest.length ≤ sizeLine)
    (hq : ∀ h' t1, (∀ b o, b ≠ e → h.get? b = some o → h'.get? b = some o) → h'.get? e = some (excO C t1) → Q .none ⟨h', g, d, t, os⟩) :
    wpAny (model prog w) A (call (.ref u) rest) Q E ⟨h, g, d, t, os⟩ := by
  have FB := PySem.F.excBase_ValueError
  refine wpAny_call (codeAny_of_tree ?_)
  show wpAny _ A.in1 (callAny (.ref u) ⟨rest, []⟩) _ _ _
  simp only [callAny]
  refine wpAny_bind (wpAny_load hu ?_)
  simp only [kxs_mw, show (Value.type "method-wrapper" == Value.type "method" || Value.type "method-wrapper" == Value.type "builtin_function_or_method" || Value.type "method-wrapper" == Value.type "method-wrapper") = true by decide, if_true]
  refine KFB.if_so (by decide) ?_
  refine wpAny_bind (check_bound_init FB.toExcCallFacts hC he rfl ?_)
  refine wpAny_bind (wpAny_pure (wpAny_pure ?_))
  refine ⟨plainId_quiet FB.init.plain _, codeAny_builtin FB.initEntry ?_⟩
  exact exc_init_tree (cls := .ref C) (t0 := t0) (dv := none) (c2 := .none) (c3 := .none) (b4 := .bool false) he hrest fun h' k1 k2 _ => hq h' _ k1 k2
end
theorem one_len (v : Value) : [v].length ≤ sizeLine := by
  rw [sizeLine_eq]
  exact (by decide : 1 ≤ 16777216)
theorem two_len (v u : Value) : [v, u].length ≤ sizeLine := by
  rw [sizeLine_eq]
  exact (by decide : 2 ≤ 16777216)
/-- what the written part says of such a class: C its address, fI its __init__'s -/
structure ExT (prog : Program) (K : Frag) (mg : Str → Option Value) (C fI : Addr) (qual : Str) (ps : Arguments) (body : List Stmt) (sc : Scope) (atts : List Str) : Prop where
  cls : ∃ nm q N bs bm sn sub ab col dd k0 k1 k2 k3 k5, K.lookup C = some (excClassObj nm q C N bs bm true sn sub ab col dd k0 k1 k2 k3 k5 "ValueError.__new__") ∧ refsVE bm = true ∧ alongIn K "__init__" (((Value.ref C :: bm).dropWhile (· != .ref C)).drop 1) = some (some (.builtin vInit))
  sa : findIn K (.ref C) "__setattr__" = some (some (.builtin "object.__setattr__"))
  noN : ∀ x ∈ atts, findIn K (.ref C) x = some none
  iC : findIn K (.ref C) "__init__" = some (some (.ref fI))
  tC : typeIn K (.ref fI) = some (.type "function")
  exC : subIn K (.ref C) (.type "BaseException") = some true
  veC : subIn K (.ref C) (.type "ValueError") = some true
  slC : mroIn K C (.ref C) = some true
  tyC : typeIn K (.ref C) = some (.type "type")
  kC : keepIn K (.ref C) = true
  third : nsIn K cStatics "thirdparty.any" = some none
  sup : nsIn K mainGlobals "super" = some none
  fn : ∃ (oc kV doc pm ct : Value) (od an : Option Addr) (osl : Array (Option Value)) (cc cda : Addr) (ccl cl : Value) (cdd cld : Option Addr) (vs : Array Value) (ccs csl : Array (Option Value)) (file : Str) (tf : Tok),
    K.lookup fI = some ⟨oc, od, .func (ksFn "__init__" qual ps body sc .none kV doc pm an (.ref cda) ct cc), osl⟩ ∧ codeIn K (.ref cda) qual = true ∧
    K.lookup cda = some ⟨ccl, cdd, .fields vs, ccs⟩ ∧ vs[2]? = some (.str file tf) ∧ ((prog.main.file : Str) == file) = true ∧ K.lookup cc = some ⟨cl, cld, .cell (some (.ref C)), csl⟩
section
variable {prog : Program} {w : World} {A : Around} {E : Value → Shared → Prop} {s : Shared} {K : Frag} {mg : Str → Option Value} {C fI : Addr} {qual : Str} {ps : Arguments} {bd : List Stmt} {sc : Scope} {atts : List Str}
/-- super().__init__('..') as a statement, self the exception at x -/
theorem super_line {mb m : Str → Option Value} {f L cc cda x t0 : Addr} {ccl cl : Value} {cdd cld : Option Addr} {vs : Array Value} {ccs csl : Array (Option Value)} {file : Str} {tf : Tok} {fd : FuncData} {oc : Value} {od : Option Addr} {osl : Array (Option Value)} {ar : Arg}
    {nm q : Str} {N : Addr} {bs bm : List Value} {sn : List Str} {sub : List Value} {ab : Bool} {col : Option Bool} {dd : Option Addr} {k0 k1 k2 k3 k5 : Option Value}
    {body : List Stmt} {p0 p1 p2 p3 p4 p5 : Pos} {msg : Str} {j : Nat} {pl : Sem Bool} {Q : Flow → Shared → Prop}
    (X : K.In s.heap) (hC : K.lookup C = some (excClassObj nm q C N bs bm true sn sub ab col dd k0 k1 k2 k3 k5 "ValueError.__new__"))
    (hal : alongIn K "__init__" (((Value.ref C :: bm).dropWhile (· != .ref C)).drop 1) = some (some (.builtin vInit)))
    (hve : subIn K (.ref C) (.type "ValueError") = some true) (hsl : mroIn K C (.ref C) = some true) (h3 : nsIn K cStatics "thirdparty.any" = some none)
    (hg : s.heap.Ns mainGlobals mg) (hgs : mg "super" = none) (hb : s.heap.Ns builtinsNs mb) (hbs : mb "super" = some (.type "super"))
    (hx : s.heap.get? x = some (excO C t0)) (hn : s.heap.Ns L m) (hm : m ar.arg = some (.ref x))
    (hf : K.lookup f = some ⟨oc, od, .func fd, osl⟩) (hp : (fd.params.posonlyargs ++ fd.params.args).head? = some ar)
    (hcode : K.lookup cda = some ⟨ccl, cdd, .fields vs, ccs⟩) (hvs : vs[2]? = some (.str file tf)) (hfile : ((prog.main.file : Str) == file) = true) (hcell : K.lookup cc = some ⟨cl, cld, .cell (some (.ref C)), csl⟩)
    (htop : (prog.main.scope.names.lookup ("super" : Str)).isSome = false) (hks : sc.names.lookup ("super" : Str) = some .globalImplicit) (hkc : sc.names.lookup ("__class__" : Str) = some .free) (hka : sc.names.lookup ar.arg = some .local) (hk : sc.kind = .function)
    (hq : ∀ h' tk t1, (∀ b o, b ≠ x → s.heap.get? b = some o → h'.get? b = some o) → h'.get? x = some (excO C t1) → Q .next { s with heap := h', toks := tk })
    (hmc : eval (.Call (.Attribute (.Call (.Name "super" p0) [] [] p1) "__init__" p2) [.Constant (.str msg) j p3] [] p4) (ksEnv qual sc L f (.ref cda) cc) = (do
      let ov ← attributeBase (.Call (.Name "super" p0) [] [] p1) "__init__" (ksEnv qual sc L f (.ref cda) cc) (eval (.Call (.Name "super" p0) [] [] p1) (ksEnv qual sc L f (.ref cda) cc))
      standAt p2.atName
      let (f', first) ← holding [ov] (getMethod ov "__init__" pl)
      callWith p4 f' first (backTo p4 (starEach [.Constant (.str msg) j p3] (ksEnv qual sc L f (.ref cda) cc))) []) := by rfl) :
    _root_.PySem.wpAt (model prog w) A (.func body (ksEnv qual sc L f (.ref cda) cc)) (exec (.Expr (.Call (.Attribute (.Call (.Name "super" p0) [] [] p1) "__init__" p2) [.Constant (.str msg) j p3] [] p4) p5) (ksEnv qual sc L f (.ref cda) cc)) Q E s := by
  have hD : s.heap.get? C = some (excClassObj nm q C N bs bm true sn sub ab col dd k0 k1 k2 k3 k5 "ValueError.__new__") := X _ _ hC
  have hxc : clsIn K C = some { name := nm, bases := bs, mro := .ref C :: bm, ns := N, qualname := q, hasDict := true, slotNames := sn, subclasses := sub, abstract := ab, collection := col, hasDel := false } := by
    unfold clsIn
    rw [hC] <;> rfl
  have hI : InstAt s.heap x (excO C t0) C none := ⟨hx, rfl, rfl, trivial⟩
  refine ks_wpAt_Expr_any (ks_wpAt_MethodCall (pl := pl) ?_ hmc) (by simp [interactive, hk]) rfl
  refine ks_wpAt_super_base (env := ksEnv qual sc L f (.ref cda) cc) hks hkc (by decide) rfl (X _ _ hf) rfl hp rfl (X _ _ hcode) rfl hvs hfile htop ?_
  refine ks_loadName_global hk hks (loadGlobal_builtin (env := ksEnv qual sc L f (.ref cda) cc) hg hgs hb hbs ⟨rfl, ?_⟩)
  refine wpAny_loadName_free hk hkc rfl ⟨_, X _ _ hcell, rfl⟩ ?_
  refine wpAny_loadName_local hk hka hn hm ?_
  obtain ⟨hh, g, d, tk, os⟩ := s
  refine ks_wpAny_isType_cls hD rfl ⟨rfl, ?_⟩
  refine ks_wpAny_call_super hD rfl hx rfl (fun c e => by cases e) (looks_mroIn X hsl) (fun h' e k => ?_)
  have X1 : K.In h' := X.keeps k
  have hx1 : h'.get? x = some (excO C t0) := k _ _ hx
  have hI1 : InstAt h' x (excO C t0) C none := ⟨hx1, rfl, rfl, trivial⟩
  refine kxs_getMethod kxs_ValueError e (looks_opaque X1 h3) (l₀ := .ref C :: bm) ?_ rfl X1 hal (hI1.type.andThen (looks_subIn X1 hve)) (ks_ne X1 hI1 hxc) (by decide) ?_
  · exact fun A Q E s k q => wpAny_bind ((looks_clsIn X1 hxc) A _ E s k (wpAny_pure q))
  have k2 : ∀ b o, h'.get? b = some o → (h'.push (kxs_mw vInit x)).get? b = some o := fun b o e => Heap.get?_push_of_some _ e
  have hmw : (h'.push (kxs_mw vInit x)).get? h'.objs.size = some (kxs_mw vInit x) := Heap.get?_push_size _ rfl
  refine kxs_callWith (i := vInit) (x := x) (by rfl) (evalArgs_plain (spliced_cons ?_))
  show wpAny _ _ (eval (.Constant (.str msg) j p3) _) _ _ _
  refine Constant_str (spliced_nil ⟨hmw, ?_⟩)
  show wpAny _ _ (call (.ref h'.objs.size) [.str msg _]) _ _ _
  refine call_mwV (k2 _ _ (k _ _ hD)) (k2 _ _ hx1) hmw (one_len _) fun h2 t1 k3 e3 => ?_
  exact hq h2 _ t1 (fun b o hb e => k3 b o hb (k2 b o (k b o e))) e3
end
/-- what __init__ leaves of a fresh exception at x -/
structure ExEnd (h h' : Heap) (x C dx t1 : Addr) (m : Str → Option Value) : Prop where
  keep : ∀ b o, b ≠ x → h.get? b = some o → h'.get? b = some o
  obj : h'.get? x = some { cls := .ref C, dict := some dx, data := .fields #[.ref t1, .none, .none, .none, .bool false, .none] }
  dbig : h.objs.size ≤ dx
  dne : dx ≠ x
  ns : h'.Ns1 dx m
/-- a made exception -/
structure ExMade (h h' : Heap) (e C d : Addr) (m : Str → Option Value) : Prop where
  keep : ∀ b o, h.get? b = some o → h'.get? b = some o
  new : h.objs.size ≤ e
  obj : ∃ oe vs, h'.get? e = some oe ∧ oe.cls = .ref C ∧ oe.dict = some d ∧ oe.data = .fields vs ∧ vs[1]? = some .none
  dbig : h.objs.size ≤ d
  dne : d ≠ e
  ns : h'.Ns1 d m
def supS (p0 p1 p2 p3 p4 p5 : Pos) (msg : Str) (j : Nat) : Stmt := .Expr (.Call (.Attribute (.Call (.Name "super" p0) [] [] p1) "__init__" p2) [.Constant (.str msg) j p3] [] p4) p5
def stoS (q1 q2 q3 q4 : Pos) (x : Str) : Stmt := .Assign [.Attribute (.Name "self" q1) x q2] (.Name x q3) q4
def argS (x : Str) (p : Pos) : Arg := { arg := x, annotation := none, pos := p }
def argsS (l : List Arg) : Arguments := { posonlyargs := [], args := l, vararg := none, kwonlyargs := [], kw_defaults := [], kwarg := none, defaults := [] }
def scS (l : List (Str × NameKind)) : Scope := { kind := .function, names := l, isGenerator := false, isCoroutine := false, more := [] }
def sc1 (x : Str) : Scope := scS [("self", .local), (x, .local), ("__class__", .free), ("super", .globalImplicit)]
def sc2 (x y : Str) : Scope := scS [("self", .local), (x, .local), (y, .local), ("__class__", .free), ("super", .globalImplicit)]
section
variable {prog : Program} {w : World} {A : Around} {E : Value → Shared → Prop} {s : Shared} {K : Frag} {mg : Str → Option Value} {C fI : Addr} {R : Result → Shared → Prop}
/-- how the text calls super().__init__('..') -/
def plS (p0 p1 : Pos) (env : Env) : Sem Bool := do return (← importBound (.Call (.Name "super" p0) [] [] p1) env).getD true
abbrev CallsSuper (p0 p1 p2 p3 p4 : Pos) (msg : Str) (j : Nat) (qual : Str) (sc : Scope) (fI : Addr) : Prop := ∀ L cda cc : Addr,
  eval (.Call (.Attribute (.Call (.Name "super" p0) [] [] p1) "__init__" p2) [.Constant (.str msg) j p3] [] p4) (ksEnv qual sc L fI (.ref cda) cc) = (do
    let ov ← attributeBase (.Call (.Name "super" p0) [] [] p1) "__init__" (ksEnv qual sc L fI (.ref cda) cc) (eval (.Call (.Name "super" p0) [] [] p1) (ksEnv qual sc L fI (.ref cda) cc))
    standAt p2.atName
    let (f', first) ← holding [ov] (getMethod ov "__init__" (plS p0 p1 (ksEnv qual sc L fI (.ref cda) cc)))
    callWith p4 f' first (backTo p4 (starEach [.Constant (.str msg) j p3] (ksEnv qual sc L fI (.ref cda) cc))) [])
theorem no_cells {l : List (Str × NameKind)} (h : (l.all fun y => y.2 != .cell) = true) : ∀ y ∈ (scS l).names, y.2 ≠ .cell := fun y hy z => by
  have q := List.all_eq_true.mp h y hy
  rw [z] at q
  exact absurd q (by decide)
theorem ns_kept {h h' : Heap} {L x : Addr} {m : Str → Option Value} (hn : h.Ns L m) (hL : L ≠ x) (k : ∀ b o, b ≠ x → h.get? b = some o → h'.get? b = some o) : h'.Ns L m := by
  obtain ⟨oL, es, ep, hL', r⟩ := hn
  exact ⟨oL, es, ep, k _ _ hL hL', r⟩
theorem exi1 {qual x1 msg : Str} {a1 a2 p0 p1 p2 p3 p4 p5 q1 q2 q3 q4 : Pos} {j : Nat} {mb : Str → Option Value} (T : ExT prog K mg C fI qual (argsS [argS "self" a1, argS x1 a2]) [supS p0 p1 p2 p3 p4 p5 msg j, stoS q1 q2 q3 q4 x1] (sc1 x1) [x1])
    (hmc : CallsSuper p0 p1 p2 p3 p4 msg j qual (sc1 x1) fI) (hx1 : x1 = "gap" ∨ x1 = "size") (htop : (prog.main.scope.names.lookup ("super" : Str)).isSome = false)
    {x t0 : Addr} {v : Value} (X : K.In s.heap) (hlim : s.heap.NoLimit) (hg : s.heap.Ns mainGlobals mg) (hgs : mg "super" = none) (hb : s.heap.Ns builtinsNs mb) (hbs : mb "super" = some (.type "super"))
    (hx : s.heap.get? x = some (excO C t0)) (hnx : K.lookup x = none) (hroom : A.depth < recursionLimit)
    (hq : ∀ h' tk dx t1, ExEnd s.heap h' x C dx t1 (fun y => if y = x1 then some v else none) → R (.ok (.ret .none)) { s with heap := h', toks := tk }) :
    codeAny (model prog w) A (.call (.ref fI) ⟨[.ref x, v], []⟩) R s := by
  obtain ⟨oc, kV, doc, pm, ct, od, an, osl, cc, cda, ccl, cl, cdd, cld, vs, ccs, csl, file, tf, ho, hcd, hcode, hvs, hfile, hcell⟩ := T.fn
  obtain ⟨nm, q, N, bs, bm, sn, sub, ab, col, dd, k0, k1, k2, k3, k5, hC, hbm, hal⟩ := T.cls
  have hcl : clsIn K C = some { name := nm, bases := bs, mro := .ref C :: bm, ns := N, qualname := q, hasDict := true, slotNames := sn, subclasses := sub, abstract := ab, collection := col, hasDel := false } := by
    unfold clsIn
    rw [hC] <;> rfl
  have hne : ¬ x1 = "self" := by rcases hx1 with rfl | rfl <;> decide +kernel
  have hks : (sc1 x1).names.lookup ("super" : Str) = some .globalImplicit := by rcases hx1 with rfl | rfl <;> rfl
  have hkc : (sc1 x1).names.lookup ("__class__" : Str) = some .free := by rcases hx1 with rfl | rfl <;> rfl
  have hk1 : (sc1 x1).names.lookup x1 = some .local := by rcases hx1 with rfl | rfl <;> rfl
  refine ks_codeAny_call_defAt (fd := ksFn "__init__" qual (argsS [argS "self" a1, argS x1 a2]) [supS p0 p1 p2 p3 p4 p5 msg j, stoS q1 q2 q3 q4 x1] (sc1 x1) .none kV doc pm an (.ref cda) ct cc) (body := [supS p0 p1 p2 p3 p4 p5 msg j, stoS q1 q2 q3 q4 x1]) (binds := [("self", .ref x), (x1, v)])
    hroom (X _ _ ho) rfl hlim (codeRec_of X hcd) rfl (BindsTo.of_eq (by rcases hx1 with rfl | rfl <;> rfl)) (no_cells (by rcases hx1 with rfl | rfl <;> rfl)) (fun y hy => ?_) (fun h1 hn hk => ?_) rfl rfl rfl
  · rcases List.mem_cons.mp hy with rfl | hy
    · rfl
    · rcases List.mem_cons.mp hy with rfl | hy
      · exact hk1
      · cases hy
  show _root_.PySem.wpAt (model prog w) (A.deeper (ksEnv qual (sc1 x1) s.heap.objs.size fI (.ref cda) cc)) (.func [supS p0 p1 p2 p3 p4 p5 msg j, stoS q1 q2 q3 q4 x1] (ksEnv qual (sc1 x1) s.heap.objs.size fI (.ref cda) cc)) (execs [supS p0 p1 p2 p3 p4 p5 msg j, stoS q1 q2 q3 q4 x1] (ksEnv qual (sc1 x1) s.heap.objs.size fI (.ref cda) cc)) _ _ _
  have hxL : s.heap.objs.size ≠ x := Nat.ne_of_gt (Heap.lt_size hx)
  have ms : (fun y => ([("self", Value.ref x), (x1, v)] : List (Str × Value)).reverse.lookup y) "self" = some (.ref x) := by rcases hx1 with rfl | rfl <;> rfl
  have mx : (fun y => ([("self", Value.ref x), (x1, v)] : List (Str × Value)).reverse.lookup y) x1 = some v := by rcases hx1 with rfl | rfl <;> rfl
  refine ks_wpAt_execs_cons ?_
  refine super_line (ar := argS "self" a1) (X.keeps hk) hC hal T.veC T.slC T.third (hg.keeps hk) hgs (hb.keeps hk) hbs (hk _ _ hx) hn ms ho rfl hcode hvs hfile hcell htop hks hkc rfl rfl (fun h2 tk2 t2 k2 e2 => ?_) (hmc _ _ _)
  show _root_.PySem.wpAt (model prog w) (A.deeper (ksEnv qual (sc1 x1) s.heap.objs.size fI (.ref cda) cc)) (.func _ (ksEnv qual (sc1 x1) s.heap.objs.size fI (.ref cda) cc)) (execs [stoS q1 q2 q3 q4 x1] (ksEnv qual (sc1 x1) s.heap.objs.size fI (.ref cda) cc)) _ _ _
  have K2 : ∀ b o, b ≠ x → s.heap.get? b = some o → h2.get? b = some o := fun b o hb e => k2 b o hb (hk b o e)
  have X2 : K.In h2 := fun b o e => K2 b o (fun z => by rw [z, hnx] at e; cases e) (X b o e)
  have n2 := ns_kept hn hxL k2
  refine ks_wpAt_execs_cons (ks_wpAt_Assign_Attr (wpAt_of_wpAny ?_) (by rfl))
  refine PySem.ESX.ldL (v := v) n2 mx (PySem.ESX.ldL (v := .ref x) n2 ms ?_ rfl rfl) rfl hk1 (by rcases hx1 with rfl | rfl <;> decide)
  refine set_plain X2 (ox := excO C t2) (od := none) ⟨e2, rfl, rfl, trivial⟩ T.sa ?_
  refine exc_osa X2 e2 hcl (show refsVE (.ref C :: bm) = true from hbm) rfl (T.noN x1 (List.mem_cons_self ..)) (fun h3 tk3 dx k3' dn dne e3 n3 => ?_)
  show _root_.PySem.wpAt _ _ _ (execs [] _) _ _ _
  refine wpAt_of_wpAny (wpAny_execs_nil ?_)
  have zz : s.heap.objs.size ≤ h2.objs.size := Nat.le_of_lt n2.lt
  exact hq h3 tk3 dx t2 ⟨fun b o hb e => k3' b o hb (K2 b o hb e), e3, Nat.le_trans zz dn, dne, n3⟩
theorem exi2 {qual x1 x2 msg : Str} {a1 a2 a3 p0 p1 p2 p3 p4 p5 q1 q2 q3 q4 r1 r2 r3 r4 : Pos} {j : Nat} {mb : Str → Option Value} (T : ExT prog K mg C fI qual (argsS [argS "self" a1, argS x1 a2, argS x2 a3]) [supS p0 p1 p2 p3 p4 p5 msg j, stoS q1 q2 q3 q4 x1, stoS r1 r2 r3 r4 x2] (sc2 x1 x2) [x1, x2])
    (hmc : CallsSuper p0 p1 p2 p3 p4 msg j qual (sc2 x1 x2) fI) (hx1 : x1 = "operation" ∧ x2 = "index") (htop : (prog.main.scope.names.lookup ("super" : Str)).isSome = false)
    {x t0 : Addr} {v v2 : Value} (X : K.In s.heap) (hlim : s.heap.NoLimit) (hg : s.heap.Ns mainGlobals mg) (hgs : mg "super" = none) (hb : s.heap.Ns builtinsNs mb) (hbs : mb "super" = some (.type "super"))
    (hx : s.heap.get? x = some (excO C t0)) (hnx : K.lookup x = none) (hroom : A.depth < recursionLimit)
    (hq : ∀ h' tk dx t1, ExEnd s.heap h' x C dx t1 (fun y => if y = x2 then some v2 else if y = x1 then some v else none) → R (.ok (.ret .none)) { s with heap := h', toks := tk }) :
    codeAny (model prog w) A (.call (.ref fI) ⟨[.ref x, v, v2], []⟩) R s := by
  obtain ⟨oc, kV, doc, pm, ct, od, an, osl, cc, cda, ccl, cl, cdd, cld, vs, ccs, csl, file, tf, ho, hcd, hcode, hvs, hfile, hcell⟩ := T.fn
  obtain ⟨nm, q, N, bs, bm, sn, sub, ab, col, dd, k0, k1, k2, k3, k5, hC, hbm, hal⟩ := T.cls
  have hcl : clsIn K C = some { name := nm, bases := bs, mro := .ref C :: bm, ns := N, qualname := q, hasDict := true, slotNames := sn, subclasses := sub, abstract := ab, collection := col, hasDel := false } := by
    unfold clsIn
    rw [hC] <;> rfl
  have hne : ¬ x1 = "self" := by obtain ⟨rfl, rfl⟩ := hx1; decide +kernel
  have hks : (sc2 x1 x2).names.lookup ("super" : Str) = some .globalImplicit := by obtain ⟨rfl, rfl⟩ := hx1; rfl
  have hkc : (sc2 x1 x2).names.lookup ("__class__" : Str) = some .free := by obtain ⟨rfl, rfl⟩ := hx1; rfl
  have hk1 : (sc2 x1 x2).names.lookup x1 = some .local := by obtain ⟨rfl, rfl⟩ := hx1; rfl
  have hk2 : (sc2 x1 x2).names.lookup x2 = some .local := by obtain ⟨rfl, rfl⟩ := hx1; rfl
  refine ks_codeAny_call_defAt (fd := ksFn "__init__" qual (argsS [argS "self" a1, argS x1 a2, argS x2 a3]) [supS p0 p1 p2 p3 p4 p5 msg j, stoS q1 q2 q3 q4 x1, stoS r1 r2 r3 r4 x2] (sc2 x1 x2) .none kV doc pm an (.ref cda) ct cc) (body := [supS p0 p1 p2 p3 p4 p5 msg j, stoS q1 q2 q3 q4 x1, stoS r1 r2 r3 r4 x2]) (binds := [("self", .ref x), (x1, v), (x2, v2)])
    hroom (X _ _ ho) rfl hlim (codeRec_of X hcd) rfl (BindsTo.of_eq (by obtain ⟨rfl, rfl⟩ := hx1; rfl)) (no_cells (by obtain ⟨rfl, rfl⟩ := hx1; rfl)) (fun y hy => ?_) (fun h1 hn hk => ?_) rfl rfl rfl
  · rcases List.mem_cons.mp hy with rfl | hy
    · rfl
    · rcases List.mem_cons.mp hy with rfl | hy
      · exact hk1
      · rcases List.mem_cons.mp hy with rfl | hy
        · exact hk2
        · cases hy
  show _root_.PySem.wpAt (model prog w) (A.deeper (ksEnv qual (sc2 x1 x2) s.heap.objs.size fI (.ref cda) cc)) (.func [supS p0 p1 p2 p3 p4 p5 msg j, stoS q1 q2 q3 q4 x1, stoS r1 r2 r3 r4 x2] (ksEnv qual (sc2 x1 x2) s.heap.objs.size fI (.ref cda) cc)) (execs [supS p0 p1 p2 p3 p4 p5 msg j, stoS q1 q2 q3 q4 x1, stoS r1 r2 r3 r4 x2] (ksEnv qual (sc2 x1 x2) s.heap.objs.size fI (.ref cda) cc)) _ _ _
  have hxL : s.heap.objs.size ≠ x := Nat.ne_of_gt (Heap.lt_size hx)
  have ms : (fun y => ([("self", Value.ref x), (x1, v), (x2, v2)] : List (Str × Value)).reverse.lookup y) "self" = some (.ref x) := by obtain ⟨rfl, rfl⟩ := hx1; rfl
  have mx : (fun y => ([("self", Value.ref x), (x1, v), (x2, v2)] : List (Str × Value)).reverse.lookup y) x1 = some v := by obtain ⟨rfl, rfl⟩ := hx1; rfl
  have mx2 : (fun y => ([("self", Value.ref x), (x1, v), (x2, v2)] : List (Str × Value)).reverse.lookup y) x2 = some v2 := by obtain ⟨rfl, rfl⟩ := hx1; rfl
  refine ks_wpAt_execs_cons ?_
  refine super_line (ar := argS "self" a1) (X.keeps hk) hC hal T.veC T.slC T.third (hg.keeps hk) hgs (hb.keeps hk) hbs (hk _ _ hx) hn ms ho rfl hcode hvs hfile hcell htop hks hkc rfl rfl (fun h2 tk2 t2 k2 e2 => ?_) (hmc _ _ _)
  show _root_.PySem.wpAt (model prog w) (A.deeper (ksEnv qual (sc2 x1 x2) s.heap.objs.size fI (.ref cda) cc)) (.func _ (ksEnv qual (sc2 x1 x2) s.heap.objs.size fI (.ref cda) cc)) (execs [stoS q1 q2 q3 q4 x1, stoS r1 r2 r3 r4 x2] (ksEnv qual (sc2 x1 x2) s.heap.objs.size fI (.ref cda) cc)) _ _ _
  have K2 : ∀ b o, b ≠ x → s.heap.get? b = some o → h2.get? b = some o := fun b o hb e => k2 b o hb (hk b o e)
  have X2 : K.In h2 := fun b o e => K2 b o (fun z => by rw [z, hnx] at e; cases e) (X b o e)
  have n2 := ns_kept hn hxL k2
  refine ks_wpAt_execs_cons (ks_wpAt_Assign_Attr (wpAt_of_wpAny ?_) (by rfl))
  refine PySem.ESX.ldL (v := v) n2 mx (PySem.ESX.ldL (v := .ref x) n2 ms ?_ rfl rfl) rfl hk1 (by obtain ⟨rfl, rfl⟩ := hx1; decide)
  refine set_plain X2 (ox := excO C t2) (od := none) ⟨e2, rfl, rfl, trivial⟩ T.sa ?_
  refine exc_osa X2 e2 hcl (show refsVE (.ref C :: bm) = true from hbm) rfl (T.noN x1 (List.mem_cons_self ..)) (fun h3 tk3 dx k3' dn dne e3 n3 => ?_)
  show _root_.PySem.wpAt (model prog w) (A.deeper (ksEnv qual (sc2 x1 x2) s.heap.objs.size fI (.ref cda) cc)) (.func _ (ksEnv qual (sc2 x1 x2) s.heap.objs.size fI (.ref cda) cc)) (execs [stoS r1 r2 r3 r4 x2] (ksEnv qual (sc2 x1 x2) s.heap.objs.size fI (.ref cda) cc)) _ _ _
  have K3 : ∀ b o, b ≠ x → s.heap.get? b = some o → h3.get? b = some o := fun b o hb e => k3' b o hb (K2 b o hb e)
  have X3 : K.In h3 := fun b o e => K3 b o (fun z => by rw [z, hnx] at e; cases e) (X b o e)
  have n3' := ns_kept n2 hxL k3'
  refine ks_wpAt_execs_cons (ks_wpAt_Assign_Attr (wpAt_of_wpAny ?_) (by rfl))
  refine PySem.ESX.ldL (v := v2) n3' mx2 (PySem.ESX.ldL (v := .ref x) n3' ms ?_ rfl rfl) rfl hk2 (by obtain ⟨rfl, rfl⟩ := hx1; decide)
  have hw : Within (fun y => if y = x1 then some v else none) [x1] := fun y hy => by
    by_cases e : y = x1
    · rw [e]
      exact List.mem_cons_self ..
    · exact absurd (if_neg e) hy
  obtain ⟨oD, esD, epD, hoD, hdD, hcD⟩ := n3.count hw
  refine set_plain X3 (ox := { cls := .ref C, dict := some dx, data := .fields #[.ref t2, .none, .none, .none, .bool false, .none] }) (od := some oD) ⟨e3, rfl, rfl, hoD⟩ T.sa ?_
  refine PySem.OEX.osa_old X3 e3 n3 hw (by show 1 ≤ 1000; decide) hcl (show refsVE (.ref C :: bm) = true from hbm) rfl (T.noN x2 (List.mem_cons_of_mem _ (List.mem_cons_self ..))) (fun h4 tk4 k4 n4 => ?_)
  show _root_.PySem.wpAt _ _ _ (execs [] _) _ _ _
  refine wpAt_of_wpAny (wpAny_execs_nil ?_)
  have zz : s.heap.objs.size ≤ h2.objs.size := Nat.le_of_lt n2.lt
  have dbig : s.heap.objs.size ≤ dx := Nat.le_trans zz dn
  refine hq h4 tk4 dx t2 ⟨fun b o hb e => k4 b o (Nat.ne_of_lt (Nat.lt_of_lt_of_le (Heap.lt_size e) dbig)) (K3 b o hb e), k4 _ _ (Ne.symm dne) e3, dbig, dne, n4⟩
/-- C(..), made by an __init__ of that kind -/
theorem ex_made {qual : Str} {ps : Arguments} {bd : List Stmt} {sc : Scope} {atts : List Str} (T : ExT prog K mg C fI qual ps bd sc atts) {vs : List Value} {m : Str → Option Value} (X : K.In s.heap) (hlim : s.heap.NoLimit) (hroom : A.depth + 1 < recursionLimit) (hz : vs.length ≤ sizeLine)
    (init : ∀ (A' : Around) (s' : Shared) (x t0 : Addr) (R' : Result → Shared → Prop), K.In s'.heap → s'.heap.NoLimit → (∀ b o, s.heap.get? b = some o → s'.heap.get? b = some o) → s'.heap.get? x = some (excO C t0) → K.lookup x = none → A'.depth < recursionLimit →
      (∀ h' tk dx t1, ExEnd s'.heap h' x C dx t1 m → R' (.ok (.ret .none)) { s' with heap := h', toks := tk }) → codeAny (model prog w) A' (.call (.ref fI) ⟨.ref x :: vs, []⟩) R' s')
    (hq : ∀ h' tk e d, ExMade s.heap h' e C d m → R (.ok (.ret (.ref e))) { s with heap := h', toks := tk }) :
    codeAny (model prog w) A (.call (.ref C) ⟨vs, []⟩) R s := by
  obtain ⟨nm, q, N, bs, bm, sn, sub, ab, col, dd, k0, k1, k2, k3, k5, hC, hbm, _⟩ := T.cls
  obtain ⟨hp, g, dr, tk, os⟩ := s
  have k : ∀ b o, hp.get? b = some o → ((hp.push (kdv_tup vs)).push (excO C hp.objs.size)).get? b = some o := fun b o e => Heap.get?_push_of_some _ (Heap.get?_push_of_some _ e)
  have hget : ((hp.push (kdv_tup vs)).push (excO C hp.objs.size)).get? (hp.objs.size + 1) = some (excO C hp.objs.size) := by heap_get
  have hnx : K.lookup (hp.objs.size + 1) = none := by
    cases e : K.lookup (hp.objs.size + 1) with
    | none => rfl
    | some o =>
      have z : hp.get? (hp.objs.size + 1) = some o := X _ _ e
      exact absurd (Nat.lt_of_succ_lt (Heap.lt_size z)) (Nat.lt_irrefl _)
  refine call_own PySem.F.excBase_ValueError (fun X => refsVE_contains X bm hbm) (X _ _ hC) (looks_findIn X T.iC) (fun self => bind_fn X self T.tC) hz ?_
  refine init _ ⟨(hp.push (kdv_tup vs)).push (excO C hp.objs.size), g, dr, tk, os⟩ _ _ _ (X.keeps k) (hlim.keeps k) k hget hnx ?_ fun h' tk' dx t1 ⟨k', hx, dn, dne, hns⟩ => ?_
  · show A.depth + 1 < recursionLimit
    exact hroom
  · have old : ∀ b o, hp.get? b = some o → h'.get? b = some o := fun b o e => k' b o (Nat.ne_of_lt (Nat.lt_succ_of_lt (Heap.lt_size e))) (k b o e)
    have z : hp.objs.size + 1 + 1 ≤ dx := by
      first
        | (simpa only [Heap.size_push] using dn)
        | exact dn
        | (have q := dn; rw [Heap.size_push, Heap.size_push] at q; exact q)
    exact ⟨rfl, hq h' tk' (hp.objs.size + 1) dx ⟨old, Nat.le_succ _, ⟨_, _, hx, rfl, rfl, rfl, rfl⟩, Nat.le_trans (Nat.le_trans (Nat.le_succ _) (Nat.le_succ _)) z, dne, hns⟩⟩
end
end LL
namespace LL
open PySem PySem.Spec PyProof.Rows L2
theorem relO_1 {x1 : Str} {v : V} {v' : Value} (r : RelV v v') (f : Str) : RelO (List.lookup f [(x1, v)]) (if f = x1 then some v' else none) := by
  rw [lookup_put]
  by_cases h : f = x1
  · rw [if_pos h, if_pos h]
    exact r
  · rw [if_neg h, if_neg h]
    trivial
theorem relO_2 {x1 x2 : Str} {v u : V} {v' u' : Value} (r : RelV v v') (q : RelV u u') (f : Str) : RelO (List.lookup f [(x2, u), (x1, v)]) (if f = x2 then some u' else if f = x1 then some v' else none) := by
  rw [lookup_put]
  by_cases h : f = x2
  · rw [if_pos h, if_pos h]
    exact q
  · rw [if_neg h, if_neg h]
    exact relO_1 r f
/-- C(e) with one attribute, C(e, e') with two -/
def tMk1 (C : Addr) (x1 : Str) (ta : TA) : L2.St → Hp → XK → Prop := fun σ H Q => ta σ H fun vs H1 => ∃ v, vs = [v] ∧ ∀ d, H1 d = none → Q (.ref C) (some d) (upd H1 d (.xd [(x1, v)]))
def tMk2 (C : Addr) (x1 x2 : Str) (ta : TA) : L2.St → Hp → XK → Prop := fun σ H Q => ta σ H fun vs H1 => ∃ v u, vs = [v, u] ∧ ∀ d, H1 d = none → Q (.ref C) (some d) (upd H1 d (.xd [(x2, u), (x1, v)]))
section
variable {X : Cx} {C fI : Addr}
/-- an exception has been made: it lies apart, its dict is tracked -/
theorem mk_laid {pins : List (Addr × Obj)} {σ : L2.St} {H1 : Hp} {hp h' : Heap} {g : Array GenState} {dr : Drawn} {t tk' : Nat} {os : OsState} {e d : Addr} {m : Str → Option Value} {fs : List (Str × V)} {Q : XK} (I1 : Inv X pins σ H1 ⟨hp, g, dr, t, os⟩) (M : ExMade hp h' e C d m)
    (r : ∀ f, RelO (fs.lookup f) (m f)) (exC : PySem.W.subIn X.K (.ref C) (.type "BaseException") = some true) (tyC : PySem.W.typeIn X.K (.ref C) = some (.type "type")) (q1 : ∀ d, H1 d = none → Q (.ref C) (some d) (upd H1 d (.xd fs))) :
    MkP X pins σ Q (.ref e) ⟨h', g, dr, tk', os⟩ := by
  obtain ⟨oe, fv, hoe, hc, hd, hdat, h1⟩ := M.obj
  have hns := M.ns
  obtain ⟨G', g1, g2⟩ := restrict h' fun b => decide (b ≠ e)
  have gk : ∀ b, b ≠ e → G'.get? b = h'.get? b := fun b hb => g1 b (decide_eq_true hb)
  have ge : G'.get? e = none := g2 e (by simp)
  have old : ∀ b o, hp.get? b = some o → G'.get? b = some o := fun b o q => (gk b (Nat.ne_of_lt (Nat.lt_of_lt_of_le (Heap.lt_size q) M.new))).trans (M.keep b o q)
  have ob : ObjOk X.prog X.w (upd H1 d (.xd fs)) G' d (.xd fs) := ⟨_, hns.at (fun o q => (gk d M.dne).trans q), r⟩
  have J : Inv X pins σ (upd H1 d (.xd fs)) ⟨G', g, dr, tk', os⟩ := I1.laid (t' := tk') old M.dbig ob
  refine ⟨e, oe, fv, ⟨G', g, dr, tk', os⟩, _, .ref C, some d, rfl, J, fun b o q => ?_, ge, hoe, ⟨hc, hd⟩, hdat, h1, ?_, rfl, I1.bare, raises_own exC tyC, q1 d (I1.hok.fresh M.dbig)⟩
  · by_cases hb : b = e
    · have q' : G'.get? b = some o := q
      rw [hb, ge] at q'
      cases q'
    · exact (gk b hb).symm.trans q
  · rw [upd_ne (Ne.symm M.dne)]
    exact I1.hok.fresh M.new
theorem pmk1 {nm qual x1 msg : Str} {a1 a2 p0 p1 p2 p3 p4 p5 q1 q2 q3 q4 : Pos} {j : Nat} {a : Expr} {ta : TA} {p pos : Pos} {k : Nat} (T : ExT X.prog X.K X.mg C fI qual (argsS [argS "self" a1, argS x1 a2]) [supS p0 p1 p2 p3 p4 p5 msg j, stoS q1 q2 q3 q4 x1] (sc1 x1) [x1])
    (hmc : CallsSuper p0 p1 p2 p3 p4 msg j qual (sc1 x1) fI) (hx1 : x1 = "gap" ∨ x1 = "size") (htop : (X.prog.main.scope.names.lookup ("super" : Str)).isSome = false) (hC : X.mg nm = some (.ref C)) (hsup : X.mg "super" = none)
    (hr : Room k X.A) (ha : PA X [a] ta) (hg : Gl X nm := by rfl) (hdb : (nm == ("__debug__" : Str)) = false := by decide)
    (he : starEach (a :: []) X.env = (false, eval a X.env) :: starEach [] X.env := by rfl) (hpl : (backTo pos (starEach [] X.env)).any (·.1) = false := by rfl) :
    PMk X (.Call (.Name nm p) [a] [] pos) (tMk1 C x1 ta) := by
  intro pins s σ H Q I h
  refine wpAny_Call_Name_kw (ld_glob I hg hC ?_ hdb)
  refine PySem.W.callWith_K (h₀ := X.base) I.ok.mod.kin T.kC (thn (ha.run pos pins s σ H _ I h) fun us s1 hh => ?_) he hpl
  obtain ⟨vs, H1, I1, r1, v, ev, q1⟩ := hh
  subst ev
  refine ⟨I1.kIn, ?_⟩
  cases r1 with
  | cons rv rn =>
    rename_i v' us'
    cases rn
    show wpAny _ _ (call (.ref C) [v']) _ _ _
    obtain ⟨mb, b1, b2⟩ := I1.ok.mod.blt
    have hlim := I1.nolimit
    have hbk := I1.bk
    have hkin := I1.kIn
    obtain ⟨hp, g, dr, tk, os⟩ := s1
    refine wpAny_call (ex_made (m := fun y => if y = x1 then some v' else none) T hkin hlim (by have := hr.dp; omega) (one_len v') (fun A' s' x t0 R' X' hlim' k' hx hnx hroom hq => ?_) fun h' tk' e d M => ?_)
    · exact exi1 T hmc hx1 htop X' hlim' ((I1.ok.mod.glob.keeps hbk).keeps k') hsup ((b1.keeps hbk).keeps k') ((b2 _ (by decide +kernel)).trans (by decide +kernel)) hx hnx hroom hq
    · exact mk_laid I1 M (relO_1 rv) T.exC T.tyC q1
theorem pmk2 {nm qual x1 x2 msg : Str} {a1 a2 a3 p0 p1 p2 p3 p4 p5 q1 q2 q3 q4 r1 r2 r3 r4 : Pos} {j : Nat} {a b : Expr} {ta : TA} {p pos : Pos} {k : Nat} (T : ExT X.prog X.K X.mg C fI qual (argsS [argS "self" a1, argS x1 a2, argS x2 a3]) [supS p0 p1 p2 p3 p4 p5 msg j, stoS q1 q2 q3 q4 x1, stoS r1 r2 r3 r4 x2] (sc2 x1 x2) [x1, x2])
    (hmc : CallsSuper p0 p1 p2 p3 p4 msg j qual (sc2 x1 x2) fI) (hx1 : x1 = "operation" ∧ x2 = "index") (htop : (X.prog.main.scope.names.lookup ("super" : Str)).isSome = false) (hC : X.mg nm = some (.ref C)) (hsup : X.mg "super" = none)
    (hr : Room k X.A) (ha : PA X [a, b] ta) (hg : Gl X nm := by rfl) (hdb : (nm == ("__debug__" : Str)) = false := by decide)
    (he : starEach (a :: [b]) X.env = (false, eval a X.env) :: starEach [b] X.env := by rfl) (hpl : (backTo pos (starEach [b] X.env)).any (·.1) = false := by rfl) :
    PMk X (.Call (.Name nm p) [a, b] [] pos) (tMk2 C x1 x2 ta) := by
  intro pins s σ H Q I h
  refine wpAny_Call_Name_kw (ld_glob I hg hC ?_ hdb)
  refine PySem.W.callWith_K (h₀ := X.base) I.ok.mod.kin T.kC (thn (ha.run pos pins s σ H _ I h) fun us s1 hh => ?_) he hpl
  obtain ⟨vs, H1, I1, r1, v, u, ev, q1⟩ := hh
  subst ev
  refine ⟨I1.kIn, ?_⟩
  obtain ⟨v', u', rfl, rv, ru⟩ := vals2 r1
  show wpAny _ _ (call (.ref C) [v', u']) _ _ _
  obtain ⟨mb, b1, b2⟩ := I1.ok.mod.blt
  have hlim := I1.nolimit
  have hbk := I1.bk
  have hkin := I1.kIn
  obtain ⟨hp, g, dr, tk, os⟩ := s1
  refine wpAny_call (ex_made (m := fun y => if y = x2 then some u' else if y = x1 then some v' else none) T hkin hlim (by have := hr.dp; omega) (two_len v' u') (fun A' s' x t0 R' X' hlim' k' hx hnx hroom hq => ?_) fun h' tk' e d M => ?_)
  · exact exi2 T hmc hx1 htop X' hlim' ((I1.ok.mod.glob.keeps hbk).keeps k') hsup ((b1.keeps hbk).keeps k') ((b2 _ (by decide +kernel)).trans (by decide +kernel)) hx hnx hroom hq
  · exact mk_laid I1 M (relO_2 rv ru) T.exC T.tyC q1
end
end LL
namespace LL
open PySem PySem.Spec PyProof.Rows L2
/-! ### what the top has left; promises kept -/
/-- m is a staticmethod of the class at C: its record at p, its def at g -/
structure SmT (K : PySem.W.Frag) (C : Addr) (m : Str) (mc : Value) (p g : Addr) (rest : List Value) : Prop where
  rd : PySem.W.readsIn K C mc = true
  ga : PySem.W.specialIn K (.ref C) "__getattribute__" = some (some (.builtin "type.__getattribute__"))
  at_ : PySem.W.findCls K (.ref C) mc m = some (.get (.builtin "staticmethod.__get__") (.ref p) .none (.ref C))
  rc : PySem.W.recIn K p "staticmethod" = some (.ref g :: rest)
structure Tx (P : Program) (w : World) (K : PySem.W.Frag) (mg : Str → Option Value) (base : Heap) : Prop where
  df : ∀ (i : Nat) (d : He.DefD), fnl[i]? = some d → ∃ fd, FunD K d.name d.qual d.params d.body d.scope (d.dvs K) (d.kws K) (He.fAd K d.at_) fd
  fa : ∀ (i : Nat) (f : He.Fa), fal[i]? = some f → f.ok K = true
  kin : K.In base
  ns : base.Ns mainGlobals mg
  tsup : (P.main.scope.names.lookup ("super" : Str)).isSome = false
  xS : ∃ (mc : Value) (p g : Addr) (rest : List Value) (fd : FuncData), SmT K (He.ga K "Links") "built" mc p g rest ∧ FunD K "built" "Links.built" (defArgs (inClass (top 42) 2)) (defBody (inClass (top 42) 2)) (defScope (inClass (top 42) 2)) [] [] g fd
  xN : ∃ f, ExT P K mg (He.ga K "NotLost") f "NotLost.__init__" (defArgs (inClass (top 11) 0)) (defBody (inClass (top 11) 0)) (defScope (inClass (top 11) 0)) ["size"]
  xR : ∃ f, ExT P K mg (He.ga K "NotRepairable") f "NotRepairable.__init__" (defArgs (inClass (top 10) 0)) (defBody (inClass (top 10) 0)) (defScope (inClass (top 10) 0)) ["gap"]
  xB : ∃ f, ExT P K mg (He.ga K "BadOperation") f "BadOperation.__init__" (defArgs (inClass (top 4) 0)) (defBody (inClass (top 4) 0)) (defScope (inClass (top 4) 0)) ["operation", "index"]
  xI : ∃ f, ExT P K mg (He.ga K "Illegal") f "Illegal.__init__" (defArgs (inClass (top 5) 0)) (defBody (inClass (top 5) 0)) (defScope (inClass (top 5) 0)) ["operation", "index"]
  xL : PySem.W.findIn K (.ref (He.ga K "Links")) "__class__" = some (some (.builtin "object.__class__"))
  xM : PySem.W.mroIn K (He.ga K "Links") (.type "object") = some true
  xEN : ExcC K (He.ga K "NotLost")
  xER : ExcC K (He.ga K "NotRepairable")
  kN1 : PySem.W.kitOne K (.ref (He.ga K "NotLost")) (.ref (He.ga K "LinkError")) = some true
  kN2 : PySem.W.kitOne K (.ref (He.ga K "NotLost")) (.ref (He.ga K "NotRepairable")) = some false
  kR1 : PySem.W.kitOne K (.ref (He.ga K "NotRepairable")) (.ref (He.ga K "LinkError")) = some true
  kR2 : PySem.W.kitOne K (.ref (He.ga K "NotRepairable")) (.ref (He.ga K "LogError")) = some false
/-- a def of the module keeps its promise -/
structure Pr (P : Program) (w : World) (K : PySem.W.Frag) (mg : Str → Option Value) (base : Heap) (k : Nat) (x : Str) (sp : Sp) : Prop where
  ex : ∃ (f : Addr) (fd : FuncData) (ps : List Str), FnOk P w K mg base (L2.CX P w) k f fd ps sp ∧ mg x = some (.ref f) ∧ PySem.W.keepIn K (.ref f) = true ∧ Binds K fd ps []
/-- a method keeps its promise -/
structure Pm (P : Program) (w : World) (K : PySem.W.Frag) (mg : Str → Option Value) (base : Heap) (k : Nat) (C : Addr) (m : Str) (sp : Sp) : Prop where
  ex : ∃ (f : Addr) (fd : FuncData) (ps : List Str), Cls K C ∧ Meth K C m f ∧ FnOk P w K mg base (L2.CX P w) k f fd ps sp ∧ Binds K fd ps []
/-- a class is made by an __init__ that keeps its promise -/
structure Pi (P : Program) (w : World) (K : PySem.W.Frag) (mg : Str → Option Value) (base : Heap) (k : Nat) (x : Str) (C : Addr) (sp : Sp) : Prop where
  ex : ∃ (f : Addr) (fd : FuncData) (ps : List Str), Mk K C f ∧ FnOk P w K mg base (L2.CX P w) k f fd ps sp ∧ mg x = some (.ref C) ∧ Binds K fd ps []
section
variable {P : Program} {w : World} {K : PySem.W.Frag} {mg : Str → Option Value} {base : Heap}
theorem Tx.glo (Z : Tx P w K mg base) (i : Nat) {x : Str} (h : fal[i]? = some (.glo x) := by rfl) : mg x = some (.ref (He.ga K x)) := He.glo_ok Z.kin Z.ns (Z.fa i _ h)
theorem Tx.free (Z : Tx P w K mg base) (i : Nat) {x : Str} (h : fal[i]? = some (.free x) := by rfl) : mg x = none := He.free_ok Z.kin Z.ns (Z.fa i _ h)
/-- a def that lets nothing out -/
theorem Tx.pr0 (Z : Tx P w K mg base) (i j : Nat) {d : He.DefD} {x : Str} {N ps : List Str} {k : Nat} {sp : Sp} (hd : fnl[i]? = some d) (hj : fal[j]? = some (.glo x)) (hx : d.at_ = (x, none)) (h1 : d.dfl = []) (h2 : d.kwd = []) (S : FnScope N ps d.scope)
    (len : ∀ vs H Q E, sp vs H Q E → vs.length = ps.length)
    (hb : ∀ (kV doc pm : Value) (an : Option Addr) (cdv ct : Value) (us : List Value), us.length = ps.length → bindArgs (PySem.W.fnOf d.name d.qual d.params d.body d.scope .none kV doc pm an cdv ct) ⟨us, []⟩ = pure (ps.zip us))
    (body : ∀ (f : Addr) (cdv : Value) (A : Around) (outer : List Env) (s : Shared) (H : Hp) (vs : List V) (Q : VK) (E : XK), Room k (A.deeper (envOfC d.qual d.scope s.heap.objs.size f cdv)) → sp vs H Q E →
      ∃ t, PSs (cxOf (L2.CX P w) P w K mg base N d.qual d.scope f cdv A outer s H E).nox d.body t ∧ t { nx := fun _ H' => Q .non H', rt := Q } (start N vs) H) : Pr P w K mg base (k + 1) x sp := by
  obtain ⟨fd, F⟩ := Z.df i d hd
  obtain ⟨a, nm, ql, pr, bd, sc, dl, kw⟩ := d
  dsimp only at h1 h2 hx F
  subst h1 h2 hx
  exact ⟨_, fd, ps, F.ok S len (fun cdv A outer s H vs Q E hr h => let ⟨t, z, q⟩ := body _ cdv A outer s H vs Q E hr h; ⟨t, z.nox, q⟩), Z.glo j hj, F.kp, F.bindsN hb⟩
theorem Tx.prX (Z : Tx P w K mg base) (i j : Nat) {d : He.DefD} {x : Str} {N ps : List Str} {k : Nat} {sp : Sp} (hd : fnl[i]? = some d) (hj : fal[j]? = some (.glo x)) (hx : d.at_ = (x, none)) (h1 : d.dfl = []) (h2 : d.kwd = []) (S : FnScope N ps d.scope)
    (len : ∀ vs H Q E, sp vs H Q E → vs.length = ps.length)
    (hb : ∀ (kV doc pm : Value) (an : Option Addr) (cdv ct : Value) (us : List Value), us.length = ps.length → bindArgs (PySem.W.fnOf d.name d.qual d.params d.body d.scope .none kV doc pm an cdv ct) ⟨us, []⟩ = pure (ps.zip us))
    (body : ∀ (f : Addr) (cdv : Value) (A : Around) (outer : List Env) (s : Shared) (H : Hp) (vs : List V) (Q : VK) (E : XK), Room k (A.deeper (envOfC d.qual d.scope s.heap.objs.size f cdv)) → sp vs H Q E →
      ∃ t, PSs (cxOf (L2.CX P w) P w K mg base N d.qual d.scope f cdv A outer s H E) d.body t ∧ t { nx := fun _ H' => Q .non H', rt := Q } (start N vs) H) : Pr P w K mg base (k + 1) x sp := by
  obtain ⟨fd, F⟩ := Z.df i d hd
  obtain ⟨a, nm, ql, pr, bd, sc, dl, kw⟩ := d
  dsimp only at h1 h2 hx F
  subst h1 h2 hx
  exact ⟨_, fd, ps, F.ok S len (fun cdv A outer s H vs Q E hr h => body _ cdv A outer s H vs Q E hr h), Z.glo j hj, F.kp, F.bindsN hb⟩
/-- methods: C is the class's name, j the place of the fact that it is a method, c of the class's -/
theorem Tx.pm0 (Z : Tx P w K mg base) (i j c : Nat) {d : He.DefD} {x m : Str} {N ps : List Str} {k : Nat} {sp : Sp} (hd : fnl[i]? = some d) (hj : fal[j]? = some (.meth x m)) (hc : fal[c]? = some (.cls x)) (hx : d.at_ = (x, some m)) (h1 : d.dfl = []) (h2 : d.kwd = []) (S : FnScope N ps d.scope)
    (len : ∀ vs H Q E, sp vs H Q E → vs.length = ps.length)
    (hb : ∀ (kV doc pm : Value) (an : Option Addr) (cdv ct : Value) (us : List Value), us.length = ps.length → bindArgs (PySem.W.fnOf d.name d.qual d.params d.body d.scope .none kV doc pm an cdv ct) ⟨us, []⟩ = pure (ps.zip us))
    (body : ∀ (f : Addr) (cdv : Value) (A : Around) (outer : List Env) (s : Shared) (H : Hp) (vs : List V) (Q : VK) (E : XK), Room k (A.deeper (envOfC d.qual d.scope s.heap.objs.size f cdv)) → sp vs H Q E →
      ∃ t, PSs (cxOf (L2.CX P w) P w K mg base N d.qual d.scope f cdv A outer s H E).nox d.body t ∧ t { nx := fun _ H' => Q .non H', rt := Q } (start N vs) H) : Pm P w K mg base (k + 1) (He.ga K x) m sp := by
  obtain ⟨fd, F⟩ := Z.df i d hd
  obtain ⟨a, nm, ql, pr, bd, sc, dl, kw⟩ := d
  dsimp only at h1 h2 hx F
  subst h1 h2 hx
  exact ⟨_, fd, ps, He.cls_ok (Z.fa c _ hc), He.meth_ok (Z.fa j _ hj), F.ok S len (fun cdv A outer s H vs Q E hr h => let ⟨t, z, q⟩ := body _ cdv A outer s H vs Q E hr h; ⟨t, z.nox, q⟩), F.bindsN hb⟩
theorem Tx.pmX (Z : Tx P w K mg base) (i j c : Nat) {d : He.DefD} {x m : Str} {N ps : List Str} {k : Nat} {sp : Sp} (hd : fnl[i]? = some d) (hj : fal[j]? = some (.meth x m)) (hc : fal[c]? = some (.cls x)) (hx : d.at_ = (x, some m)) (h1 : d.dfl = []) (h2 : d.kwd = []) (S : FnScope N ps d.scope)
    (len : ∀ vs H Q E, sp vs H Q E → vs.length = ps.length)
    (hb : ∀ (kV doc pm : Value) (an : Option Addr) (cdv ct : Value) (us : List Value), us.length = ps.length → bindArgs (PySem.W.fnOf d.name d.qual d.params d.body d.scope .none kV doc pm an cdv ct) ⟨us, []⟩ = pure (ps.zip us))
    (body : ∀ (f : Addr) (cdv : Value) (A : Around) (outer : List Env) (s : Shared) (H : Hp) (vs : List V) (Q : VK) (E : XK), Room k (A.deeper (envOfC d.qual d.scope s.heap.objs.size f cdv)) → sp vs H Q E →
      ∃ t, PSs (cxOf (L2.CX P w) P w K mg base N d.qual d.scope f cdv A outer s H E) d.body t ∧ t { nx := fun _ H' => Q .non H', rt := Q } (start N vs) H) : Pm P w K mg base (k + 1) (He.ga K x) m sp := by
  obtain ⟨fd, F⟩ := Z.df i d hd
  obtain ⟨a, nm, ql, pr, bd, sc, dl, kw⟩ := d
  dsimp only at h1 h2 hx F
  subst h1 h2 hx
  exact ⟨_, fd, ps, He.cls_ok (Z.fa c _ hc), He.meth_ok (Z.fa j _ hj), F.ok S len (fun cdv A outer s H vs Q E hr h => body _ cdv A outer s H vs Q E hr h), F.bindsN hb⟩
/-- __init__: c the place of the fact that the class is made by it, g of its name -/
theorem Tx.pi0 (Z : Tx P w K mg base) (i c g : Nat) {d : He.DefD} {x : Str} {N ps : List Str} {k : Nat} {sp : Sp} (hd : fnl[i]? = some d) (hc : fal[c]? = some (.mkr x)) (hg : fal[g]? = some (.glo x)) (hx : d.at_ = (x, some ("__init__" : Str))) (h1 : d.dfl = []) (h2 : d.kwd = []) (S : FnScope N ps d.scope)
    (len : ∀ vs H Q E, sp vs H Q E → vs.length = ps.length)
    (hb : ∀ (kV doc pm : Value) (an : Option Addr) (cdv ct : Value) (us : List Value), us.length = ps.length → bindArgs (PySem.W.fnOf d.name d.qual d.params d.body d.scope .none kV doc pm an cdv ct) ⟨us, []⟩ = pure (ps.zip us))
    (body : ∀ (f : Addr) (cdv : Value) (A : Around) (outer : List Env) (s : Shared) (H : Hp) (vs : List V) (Q : VK) (E : XK), Room k (A.deeper (envOfC d.qual d.scope s.heap.objs.size f cdv)) → sp vs H Q E →
      ∃ t, PSs (cxOf (L2.CX P w) P w K mg base N d.qual d.scope f cdv A outer s H E).nox d.body t ∧ t { nx := fun _ H' => Q .non H', rt := Q } (start N vs) H) : Pi P w K mg base (k + 1) x (He.ga K x) sp := by
  obtain ⟨fd, F⟩ := Z.df i d hd
  obtain ⟨a, nm, ql, pr, bd, sc, dl, kw⟩ := d
  dsimp only at h1 h2 hx F
  subst h1 h2 hx
  exact ⟨_, fd, ps, He.mkr_ok (Z.fa c _ hc), F.ok S len (fun cdv A outer s H vs Q E hr h => let ⟨t, z, q⟩ := body _ cdv A outer s H vs Q E hr h; ⟨t, z.nox, q⟩), Z.glo g hg, F.bindsN hb⟩
end
/-- a staticmethod of a class keeps its promise -/
structure Pt (P : Program) (w : World) (K : PySem.W.Frag) (mg : Str → Option Value) (base : Heap) (k : Nat) (x m : Str) (sp : Sp) : Prop where
  ex : ∃ (mc : Value) (p g : Addr) (rest : List Value) (fd : FuncData) (ps : List Str), SmT K (He.ga K x) m mc p g rest ∧ FnOk P w K mg base (L2.CX P w) k g fd ps sp ∧ PySem.W.keepIn K (.ref g) = true ∧ Binds K fd ps [] ∧ mg x = some (.ref (He.ga K x))
/-! ### calls by their promises -/
section
variable {X : Cx} {k j : Nat} {C : Addr} {sp : Sp} {x m : Str} {p pos apos : Pos} {e o : Expr} {es : List Expr} {ta : TE} {t : TA} {E : XK}
/-- f(..), nothing comes out -/
theorem pc (c : Pr X.prog X.w X.K X.mg X.base k x sp) (hr : Room j X.A) (ha : PA X (e :: es) t) (hk : k ≤ j := by decide) (hg : Gl X x := by rfl) (hdb : (x == ("__debug__" : Str)) = false := by decide)
    (he : starEach (e :: es) X.env = (false, eval e X.env) :: starEach es X.env := by rfl) (hpl : (backTo pos (starEach es X.env)).any (·.1) = false := by rfl) : PE X (.Call (.Name x p) (e :: es) [] pos) (tCall sp [] E0 t) := by
  obtain ⟨f, fd, ps, F, hm, kp, b⟩ := c.ex
  exact pe_call F (hr.mono hk) hg hm kp b .nil passL ha hdb he hpl
/-- f(..), what comes out leaves the def too -/
theorem pcX {W : WX} (c : Pr X.prog X.w X.K X.mg X.base k x sp) (hr : Room j X.A) (tk : Takes X W) (hW : ∀ cls d σ H, E cls d H → W cls d σ H) (ha : PA X (e :: es) t) (hk : k ≤ j := by decide) (hg : Gl X x := by rfl) (hdb : (x == ("__debug__" : Str)) = false := by decide)
    (he : starEach (e :: es) X.env = (false, eval e X.env) :: starEach es X.env := by rfl) (hpl : (backTo pos (starEach es X.env)).any (·.1) = false := by rfl) : PE X (.Call (.Name x p) (e :: es) [] pos) (tCall sp [] E t) := by
  obtain ⟨f, fd, ps, F, hm, kp, b⟩ := c.ex
  exact pe_call F (hr.mono hk) hg hm kp b .nil (passes_call tk hW) ha hdb he hpl
/-- f(..) in a try's body -/
theorem pcS {Es : L2.St → XK} (c : Pr X.prog X.w X.K X.mg X.base k x sp) (hr : Room j X.A) (hx : ∀ σ, PassesAt (L2.CX X.prog X.w) X σ (Es σ)) (ha : PA X (e :: es) t) (hk : k ≤ j := by decide) (hg : Gl X x := by rfl) (hdb : (x == ("__debug__" : Str)) = false := by decide)
    (he : starEach (e :: es) X.env = (false, eval e X.env) :: starEach es X.env := by rfl) (hpl : (backTo pos (starEach es X.env)).any (·.1) = false := by rfl) : PE X (.Call (.Name x p) (e :: es) [] pos) (tCallS sp Es t) := by
  obtain ⟨f, fd, ps, F, hm, kp, b⟩ := c.ex
  exact pe_callS F (hr.mono hk) hg hm kp b hx ha hdb he hpl
/-- o.m(e, ..) -/
theorem pm {pl : Sem Bool} (c : Pm X.prog X.w X.K X.mg X.base k C m sp) (hr : Room j X.A) (ho : PE X o ta) (ha : PA X (e :: es) t) (hk : k ≤ j := by decide)
    (hst : starEach (e :: es) X.env = (false, eval e X.env) :: starEach es X.env := by rfl) (hpl : (backTo pos (starEach es X.env)).any (·.1) = false := by rfl)
    (ht : eval (.Call (.Attribute o m apos) (e :: es) [] pos) X.env = (do
      let ov ← eval o X.env
      standAt apos.atName
      let (f, first) ← holding [ov] (getMethod ov m pl)
      callWith pos f first (backTo pos (starEach (e :: es) X.env)) (backToKw pos (keywordEach [] X.env))) := by rfl) : PE X (.Call (.Attribute o m apos) (e :: es) [] pos) (tMeth C m sp [] E0 ta t) := by
  obtain ⟨f, fd, ps, cl, me, F, b⟩ := c.ex
  exact pe_meth ho cl me F (hr.mono hk) b .nil passL ha hst hpl ht
theorem pmX {pl : Sem Bool} {W : WX} (c : Pm X.prog X.w X.K X.mg X.base k C m sp) (hr : Room j X.A) (tk : Takes X W) (hW : ∀ cls d σ H, E cls d H → W cls d σ H) (ho : PE X o ta) (ha : PA X (e :: es) t) (hk : k ≤ j := by decide)
    (hst : starEach (e :: es) X.env = (false, eval e X.env) :: starEach es X.env := by rfl) (hpl : (backTo pos (starEach es X.env)).any (·.1) = false := by rfl)
    (ht : eval (.Call (.Attribute o m apos) (e :: es) [] pos) X.env = (do
      let ov ← eval o X.env
      standAt apos.atName
      let (f, first) ← holding [ov] (getMethod ov m pl)
      callWith pos f first (backTo pos (starEach (e :: es) X.env)) (backToKw pos (keywordEach [] X.env))) := by rfl) : PE X (.Call (.Attribute o m apos) (e :: es) [] pos) (tMeth C m sp [] E ta t) := by
  obtain ⟨f, fd, ps, cl, me, F, b⟩ := c.ex
  exact pe_meth ho cl me F (hr.mono hk) b .nil (passes_call tk hW) ha hst hpl ht
/-- o.m() -/
theorem pm0 {pl : Sem Bool} (c : Pm X.prog X.w X.K X.mg X.base k C m sp) (hr : Room j X.A) (ho : PE X o ta) (hk : k ≤ j := by decide)
    (ht : eval (.Call (.Attribute o m apos) [] [] pos) X.env = (do
      let ov ← eval o X.env
      standAt apos.atName
      let (f, first) ← holding [ov] (getMethod ov m pl)
      callWith pos f first (backTo pos (starEach [] X.env)) (backToKw pos (keywordEach [] X.env))) := by rfl) : PE X (.Call (.Attribute o m apos) [] [] pos) (tMeth C m sp [] E0 ta tNil) := by
  obtain ⟨f, fd, ps, cl, me, F, b⟩ := c.ex
  exact pe_meth0 ho cl me F (hr.mono hk) b .nil passL ht
/-- C(e, ..) -/
theorem pmk (c : Pi X.prog X.w X.K X.mg X.base k x C sp) (hr : Room j X.A) (ha : PA X (e :: es) t) (hk : k + 1 ≤ j := by decide) (hg : Gl X x := by rfl) (hdb : (x == ("__debug__" : Str)) = false := by decide)
    (he : starEach (e :: es) X.env = (false, eval e X.env) :: starEach es X.env := by rfl) (hpl : (backTo pos (starEach es X.env)).any (·.1) = false := by rfl) : PE X (.Call (.Name x p) (e :: es) [] pos) (tMake C sp [] E0 t) := by
  obtain ⟨f, fd, ps, M, F, hm, b⟩ := c.ex
  exact pe_make M F (hr.mono hk) hg hm b .nil passL ha hdb he hpl
end
/-- C.m(e, ..), m a staticmethod -/
theorem pe_stat {X : Cx} {k j : Nat} {x m : Str} {sp : Sp} {pl : Sem Bool} {p pos apos : Pos} {e : Expr} {es : List Expr} {t : TA} (c : Pt X.prog X.w X.K X.mg X.base k x m sp) (hr : Room j X.A) (ha : PA X (e :: es) t) (hk : k ≤ j := by decide) (hg : Gl X x := by rfl) (hdb : (x == ("__debug__" : Str)) = false := by decide)
    (hst : starEach (e :: es) X.env = (false, eval e X.env) :: starEach es X.env := by rfl) (hpl : (backTo pos (starEach es X.env)).any (·.1) = false := by rfl)
    (ht : eval (.Call (.Attribute (.Name x p) m apos) (e :: es) [] pos) X.env = (do
      let ov ← eval (.Name x p) X.env
      standAt apos.atName
      let (f, first) ← holding [ov] (getMethod ov m pl)
      callWith pos f first (backTo pos (starEach (e :: es) X.env)) (backToKw pos (keywordEach [] X.env))) := by rfl) :
    PE X (.Call (.Attribute (.Name x p) m apos) (e :: es) [] pos) (tCall sp [] E0 t) := by
  obtain ⟨mc, pr, g, rest, fd, ps, S, F, kp, b, hm⟩ := c.ex
  refine ⟨fun pins s σ H Q I h => ?_⟩
  refine PySem.W.methodCall_KW (pl := pl) (ld_glob I hg hm ?_ hdb) ht
  refine PySem.W.method_cls I.kIn S.ga (PySem.W.cls_bind I.kIn S.rd S.at_ ?_)
  refine wpAny_call (PySem.W.sm_get (s := { s with toks := s.toks + 1 }) I.kIn S.rc (PySem.W.handed_on rfl ?_))
  have I1 : Inv X pins σ H { s with toks := s.toks + 1 } := I.tok _
  refine PySem.W.callWith_K (h₀ := X.base) I.ok.mod.kin kp (thn (ha.run pos pins _ σ H _ I1 h) fun us s1 ⟨vs, H1, I2, r, q⟩ => ⟨I2.kIn, ?_⟩) hst hpl
  exact run_fn F (hr.mono hk) b .nil passL I2 r q
theorem Tx.pt0 {P : Program} {w : World} {K : PySem.W.Frag} {mg : Str → Option Value} {base : Heap} (Z : Tx P w K mg base) {N : List Str} {k : Nat} {sp : Sp} (S : FnScope N ["size", "lefts", "rights", "flags"] (defScope (inClass (top 42) 2)))
    (len : ∀ vs H Q E, sp vs H Q E → vs.length = 4)
    (body : ∀ (f : Addr) (cdv : Value) (A : Around) (outer : List Env) (s : Shared) (H : Hp) (vs : List V) (Q : VK) (E : XK), Room k (A.deeper (envOfC "Links.built" (defScope (inClass (top 42) 2)) s.heap.objs.size f cdv)) → sp vs H Q E →
      ∃ t, PSs (cxOf (L2.CX P w) P w K mg base N "Links.built" (defScope (inClass (top 42) 2)) f cdv A outer s H E).nox (defBody (inClass (top 42) 2)) t ∧ t { nx := fun _ H' => Q .non H', rt := Q } (start N vs) H) : Pt P w K mg base (k + 1) "Links" "built" sp := by
  obtain ⟨mc, p, g, rest, fd, S1, F⟩ := Z.xS
  exact ⟨mc, p, g, rest, fd, _, S1, F.ok S len (fun cdv A outer s H vs Q E hr h => let ⟨t, z, q⟩ := body _ cdv A outer s H vs Q E hr h; ⟨t, z.nox, q⟩), F.kp, F.bindsN (fun _ _ _ _ _ _ us hl => match us, hl with | [_, _, _, _], _ => rfl), Z.glo 58⟩
/-! ### the program's own errors made -/
section
variable {X : Cx} {k : Nat} {a b : Expr} {ta : TA} {p pos : Pos} {w : World}
theorem pmk_NotLost (Z : Tx X.prog w X.K X.mg X.base) (hr : Room k X.A) (ha : PA X [a] ta) (hg : Gl X "NotLost" := by rfl)
    (he : starEach (a :: []) X.env = (false, eval a X.env) :: starEach [] X.env := by rfl) (hpl : (backTo pos (starEach [] X.env)).any (·.1) = false := by rfl) : PMk X (.Call (.Name "NotLost" p) [a] [] pos) (tMk1 (He.ga X.K "NotLost") "size" ta) := by
  obtain ⟨f, T⟩ := Z.xN
  exact pmk1 (x1 := "size") T (fun _ _ _ => rfl) (Or.inr rfl) Z.tsup (Z.glo 57) (Z.free 71) hr ha hg (by decide) he hpl
theorem pmk_NotRepairable (Z : Tx X.prog w X.K X.mg X.base) (hr : Room k X.A) (ha : PA X [a] ta) (hg : Gl X "NotRepairable" := by rfl)
    (he : starEach (a :: []) X.env = (false, eval a X.env) :: starEach [] X.env := by rfl) (hpl : (backTo pos (starEach [] X.env)).any (·.1) = false := by rfl) : PMk X (.Call (.Name "NotRepairable" p) [a] [] pos) (tMk1 (He.ga X.K "NotRepairable") "gap" ta) := by
  obtain ⟨f, T⟩ := Z.xR
  exact pmk1 (x1 := "gap") T (fun _ _ _ => rfl) (Or.inl rfl) Z.tsup (Z.glo 56) (Z.free 71) hr ha hg (by decide) he hpl
theorem pmk_BadOperation (Z : Tx X.prog w X.K X.mg X.base) (hr : Room k X.A) (ha : PA X [a, b] ta) (hg : Gl X "BadOperation" := by rfl)
    (he : starEach (a :: [b]) X.env = (false, eval a X.env) :: starEach [b] X.env := by rfl) (hpl : (backTo pos (starEach [b] X.env)).any (·.1) = false := by rfl) : PMk X (.Call (.Name "BadOperation" p) [a, b] [] pos) (tMk2 (He.ga X.K "BadOperation") "operation" "index" ta) := by
  obtain ⟨f, T⟩ := Z.xB
  exact pmk2 (x1 := "operation") (x2 := "index") T (fun _ _ _ => rfl) ⟨rfl, rfl⟩ Z.tsup (Z.glo 54) (Z.free 71) hr ha hg (by decide) he hpl
theorem pmk_Illegal (Z : Tx X.prog w X.K X.mg X.base) (hr : Room k X.A) (ha : PA X [a, b] ta) (hg : Gl X "Illegal" := by rfl)
    (he : starEach (a :: [b]) X.env = (false, eval a X.env) :: starEach [b] X.env := by rfl) (hpl : (backTo pos (starEach [b] X.env)).any (·.1) = false := by rfl) : PMk X (.Call (.Name "Illegal" p) [a, b] [] pos) (tMk2 (He.ga X.K "Illegal") "operation" "index" ta) := by
  obtain ⟨f, T⟩ := Z.xI
  exact pmk2 (x1 := "operation") (x2 := "index") T (fun _ _ _ => rfl) ⟨rfl, rfl⟩ Z.tsup (Z.glo 55) (Z.free 71) hr ha hg (by decide) he hpl
end
/-! ### within a comprehension's block: the readings may not speak of the block -/
section
variable {X : Cx} {K : PySem.W.Frag} {e : Expr} {f : Str} {pos : Pos} {ta : TE}
theorem pe_fldK (hK : X.K = K) (he : PE X e ta) (hb : attributeBase e f X.env (eval e X.env) = eval e X.env) : PE X (.Attribute e f pos) (tFld K ta f) := by
  subst hK
  exact pe_fld he hb
theorem ix_listK (hK : X.K = K) : IxR X (rIxL K) := by
  subst hK
  exact ix_list
end
theorem Pr.mono {P : Program} {w : World} {K : PySem.W.Frag} {mg : Str → Option Value} {base : Heap} {k j : Nat} {x : Str} {sp : Sp} (c : Pr P w K mg base k x sp) (h : k ≤ j := by decide) : Pr P w K mg base j x sp := by
  obtain ⟨f, fd, ps, F, r⟩ := c.ex
  exact ⟨f, fd, ps, F.mono h, r⟩
end LL
namespace LL
open PySem PySem.W PySem.Spec PySem.Calls PyProof.Rows PySem.HandSPX
open L2 (defArgs defBody defScope inClass)
/-! ### what is looked at when the top has run -/
abbrev RR : OpenRow := OpenLaw.row PySem.Challenge.rw_latelink_k48_whole_log_and_first_repair
/-- a def with its closure's names -/
abbrev FnY : Type := Option (Str × Str × Arguments × FuncBody × Scope × Addr × List Str × Addr)
def fnY (K : Frag) (f : Addr) : FnY := match K.lookup f with
  | some ⟨_, _, .func y, _⟩ => some (y.name, y.qualname, y.params, y.body, y.scope, y.globals, y.closure.map Prod.fst, y.builtins)
  | _ => none
def mkY (nm q : Str) (ps : Arguments) (bd : List Stmt) (sc : Scope) (cl : List Str) : FnY := some (nm, q, ps, .stmts bd, sc, mainGlobals, cl, builtinsNs)
def fileIs (file : Str) (v : Option Value) : Bool := match v with
  | some (.str z _) => file == z
  | _ => false
theorem fileIs_ok {file : Str} {v : Option Value} (h : fileIs file v = true) : ∃ z tf, v = some (.str z tf) ∧ (file == z) = true := by
  unfold fileIs at h
  split at h
  · exact ⟨_, _, rfl, h⟩
  · cases h
/-- such a class, as an object -/
def clsB (K : Frag) (C : Addr) : Bool := match K.lookup C with
  | some ⟨.type ty, _, .cls y, sl⟩ => ty == "type" && (match y.mro, sl.toList with
    | .ref C1 :: more, [_, _, _, _, some (.builtin nw), _] => C1 == C && (nw == "ValueError.__new__" && (!y.hasDel && (y.hasDict && (refsVE more && He.eqO (alongIn K "__init__" (((Value.ref C :: more).dropWhile (· != .ref C)).drop 1)) (some (some (.builtin vInit)))))))
    | _, _ => false)
  | _ => false
theorem clsB_ok {K : Frag} {C : Addr} (h : clsB K C = true) : ∃ nm q N bs bm sn sub ab col dd k0 k1 k2 k3 k5, K.lookup C = some (excClassObj nm q C N bs bm true sn sub ab col dd k0 k1 k2 k3 k5 "ValueError.__new__") ∧ refsVE bm = true ∧ alongIn K "__init__" (((Value.ref C :: bm).dropWhile (· != .ref C)).drop 1) = some (some (.builtin vInit)) := by
  unfold clsB at h
  split at h
  · rename_i ty dd y sl lk
    rw [Bool.and_eq_true, beq_iff_eq] at h
    obtain ⟨rfl, h⟩ := h
    split at h
    · rename_i C1 more k0 k1 k2 k3 nw k5 em es
      rw [Bool.and_eq_true, Bool.and_eq_true, Bool.and_eq_true, Bool.and_eq_true, Bool.and_eq_true, beq_iff_eq, beq_iff_eq] at h
      obtain ⟨rfl, rfl, h3, h4, h5, h6⟩ := h
      obtain ⟨a1, a2, a3, a4, a5, a6, a7, a8, a9, a10, a11⟩ := y
      dsimp only at em h3 h4
      subst em
      subst h4
      have e11 : a11 = false := by simpa using h3
      subst e11
      have e : sl = #[k0, k1, k2, k3, some (.builtin "ValueError.__new__"), k5] := by
        cases sl with
        | mk l => exact congrArg Array.mk es
      subst e
      exact ⟨a1, a5, a4, a2, more, a7, a8, a9, a10, dd, k0, k1, k2, k3, k5, lk, h5, He.eqO_ok h6⟩
    · cases h
  · cases h
/-- its __init__'s object: code, file, the cell of __class__ -/
def iniB (file : Str) (K : Frag) (C f : Addr) (q : Str) : Bool := match K.lookup f with
  | some ⟨_, _, .func y, _⟩ => decide (y.defaults = .none) && ((match y.code with
    | .ref c => codeIn K (.ref c) q && (match K.lookup c with
      | some ⟨_, _, .fields vs, _⟩ => fileIs file vs[2]?
      | _ => false)
    | _ => false) && (match y.closure with
    | [(_, c)] => (match K.lookup c with
      | some ⟨_, _, .cell (some (.ref D)), _⟩ => D == C
      | _ => false)
    | _ => false))
  | _ => false
theorem iniB_ok {P : Program} {K : Frag} {C f : Addr} {q : Str} {ps : Arguments} {bd : List Stmt} {sc : Scope} (e : fnY K f = mkY "__init__" q ps bd sc ["__class__"]) (h : iniB P.main.file K C f q = true) :
    ∃ (oc kV doc pm ct : Value) (od an : Option Addr) (osl : Array (Option Value)) (cc cda : Addr) (ccl cl : Value) (cdd cld : Option Addr) (vs : Array Value) (ccs csl : Array (Option Value)) (file : Str) (tf : Tok),
      K.lookup f = some ⟨oc, od, .func (ksFn "__init__" q ps bd sc .none kV doc pm an (.ref cda) ct cc), osl⟩ ∧ codeIn K (.ref cda) q = true ∧
      K.lookup cda = some ⟨ccl, cdd, .fields vs, ccs⟩ ∧ vs[2]? = some (.str file tf) ∧ ((P.main.file : Str) == file) = true ∧ K.lookup cc = some ⟨cl, cld, .cell (some (.ref C)), csl⟩ := by
  unfold iniB at h
  unfold fnY at e
  split at h
  · rename_i oc od y osl lk
    rw [lk] at e
    obtain ⟨n1, n2, n3, n4, n5, n6, n7, n8, n9, n10, n11, n12, n13, n14, n15⟩ := y
    have e2 : (some (n1, n2, n3, n4, n5, n6, n7.map Prod.fst, n15) : FnY) = mkY "__init__" q ps bd sc ["__class__"] := e
    unfold mkY at e2
    simp only [Option.some.injEq, Prod.mk.injEq] at e2
    obtain ⟨rfl, rfl, rfl, rfl, rfl, rfl, h7, rfl⟩ := e2
    dsimp only at h
    rw [Bool.and_eq_true, Bool.and_eq_true, decide_eq_true_eq] at h
    obtain ⟨rfl, h8, h9⟩ := h
    split at h8
    · rename_i cda
      rw [Bool.and_eq_true] at h8
      obtain ⟨h10, h11⟩ := h8
      split at h11
      · rename_i ccl cdd vs ccs lc
        obtain ⟨z, tf, ev, h12⟩ := fileIs_ok h11
        split at h9
        · rename_i nm cc
          split at h9
          · rename_i cl cld D csl lcc
            rw [beq_iff_eq] at h9
            subst h9
            have en : nm = "__class__" := by
              have q : [nm] = [("__class__" : Str)] := h7
              injection q
            subst en
            exact ⟨oc, n9, n10, n11, n14, od, n12, osl, cc, cda, ccl, cl, cdd, cld, vs, ccs, csl, z, tf, lk, h10, lc, ev, h12, lcc⟩
          · cases h9
        · cases h9
      · cases h11
    · cases h8
  · cases h
/-- an own error of the name x, its __init__ of the qualified name q, its attributes -/
def exB (file : Str) (K : Frag) (x q : Str) (atts : List Str) : Bool :=
  clsB K (He.ga K x) && (He.eqO (findIn K (.ref (He.ga K x)) "__setattr__") (some (some (.builtin "object.__setattr__"))) && ((atts.all fun z => He.eqO (findIn K (.ref (He.ga K x)) z) (some none)) && (He.eqO (findIn K (.ref (He.ga K x)) "__init__") (some (some (.ref (He.ma K (He.ga K x) "__init__")))) &&
    (decide (typeIn K (.ref (He.ma K (He.ga K x) "__init__")) = some (.type "function")) && (decide (subIn K (.ref (He.ga K x)) (.type "BaseException") = some true) && (decide (subIn K (.ref (He.ga K x)) (.type "ValueError") = some true) && (decide (mroIn K (He.ga K x) (.ref (He.ga K x)) = some true) &&
    (decide (typeIn K (.ref (He.ga K x)) = some (.type "type")) && (keepIn K (.ref (He.ga K x)) && (He.eqO (nsIn K cStatics "thirdparty.any") (some none) && (He.eqO (nsIn K mainGlobals "super") (some none) && iniB file K (He.ga K x) (He.ma K (He.ga K x) "__init__") q)))))))))))
theorem exB_ok {P : Program} {K : Frag} {mg : Str → Option Value} {x q : Str} {atts : List Str} {ps : Arguments} {bd : List Stmt} {sc : Scope} (h : exB P.main.file K x q atts = true) (e : fnY K (He.ma K (He.ga K x) "__init__") = mkY "__init__" q ps bd sc ["__class__"]) :
    ∃ f, ExT P K mg (He.ga K x) f q ps bd sc atts := by
  unfold exB at h
  obtain ⟨h1, h⟩ := He.ba h
  obtain ⟨h2, h⟩ := He.ba h
  obtain ⟨h3, h⟩ := He.ba h
  obtain ⟨h4, h⟩ := He.ba h
  obtain ⟨h5, h⟩ := He.ba h
  obtain ⟨h6, h⟩ := He.ba h
  obtain ⟨h7, h⟩ := He.ba h
  obtain ⟨h8, h⟩ := He.ba h
  obtain ⟨h9, h⟩ := He.ba h
  obtain ⟨h10, h⟩ := He.ba h
  obtain ⟨h11, h⟩ := He.ba h
  obtain ⟨h12, h13⟩ := He.ba h
  exact ⟨_, clsB_ok h1, He.eqO_ok h2, fun z hz => He.eqO_ok (List.all_eq_true.mp h3 z hz), He.eqO_ok h4, of_decide_eq_true h5, of_decide_eq_true h6, of_decide_eq_true h7, of_decide_eq_true h8, of_decide_eq_true h9, h10, He.eqO_ok h11, He.eqO_ok h12, iniB_ok e h13⟩
/-- the staticmethod Links.built -/
def stP (K : Frag) : Addr := match findCls K (.ref (He.ga K "Links")) (.type "type") "built" with
  | some (.get _ (.ref p) _ _) => p
  | _ => 0
def stG (K : Frag) : Addr := match recIn K (stP K) "staticmethod" with
  | some (.ref g :: _) => g
  | _ => 0
def stB (K : Frag) : Bool := readsIn K (He.ga K "Links") (.type "type") && (He.eqO (specialIn K (.ref (He.ga K "Links")) "__getattribute__") (some (some (.builtin "type.__getattribute__"))) && ((match findCls K (.ref (He.ga K "Links")) (.type "type") "built" with
    | some (.get a (.ref _) b c) => decide (a = .builtin "staticmethod.__get__") && (decide (b = .none) && decide (c = .ref (He.ga K "Links")))
    | _ => false) && ((match recIn K (stP K) "staticmethod" with
    | some (.ref _ :: _) => true
    | _ => false) && (keepIn K (.ref (stG K)) && (match K.lookup (stG K) with
    | some ⟨_, _, .func y, _⟩ => decide (y.defaults = .none) && (decide (y.kwdefaults = .none) && codeIn K y.code "Links.built")
    | _ => false)))))
theorem stB_ok {K : Frag} {ps : Arguments} {bd : List Stmt} {sc : Scope} (h : stB K = true) (e : fnY K (stG K) = mkY "built" "Links.built" ps bd sc []) :
    ∃ (mc : Value) (p g : Addr) (rest : List Value) (fd : FuncData), SmT K (He.ga K "Links") "built" mc p g rest ∧ L2.FunD K "built" "Links.built" ps bd sc [] [] g fd := by
  unfold stB at h
  obtain ⟨h1, h⟩ := He.ba h
  obtain ⟨h2, h⟩ := He.ba h
  obtain ⟨h3, h⟩ := He.ba h
  obtain ⟨h4, h⟩ := He.ba h
  obtain ⟨h5, h6⟩ := He.ba h
  have f1 : findCls K (.ref (He.ga K "Links")) (.type "type") "built" = some (.get (.builtin "staticmethod.__get__") (.ref (stP K)) .none (.ref (He.ga K "Links"))) := by
    unfold stP
    split at h3
    · rename_i a p b c ef
      rw [Bool.and_eq_true, Bool.and_eq_true, decide_eq_true_eq, decide_eq_true_eq, decide_eq_true_eq] at h3
      obtain ⟨rfl, rfl, rfl⟩ := h3
      rw [ef]
    · cases h3
  have f2 : ∃ rest, recIn K (stP K) "staticmethod" = some (.ref (stG K) :: rest) := by
    unfold stG
    split at h4
    · rename_i g rest ef
      rw [ef]
      exact ⟨rest, rfl⟩
    · cases h4
  obtain ⟨rest, f2⟩ := f2
  unfold fnY at e
  split at h6
  · rename_i oc od y osl lk
    rw [lk] at e
    obtain ⟨n1, n2, n3, n4, n5, n6, n7, n8, n9, n10, n11, n12, n13, n14, n15⟩ := y
    have e2 : (some (n1, n2, n3, n4, n5, n6, n7.map Prod.fst, n15) : FnY) = mkY "built" "Links.built" ps bd sc [] := e
    unfold mkY at e2
    simp only [Option.some.injEq, Prod.mk.injEq] at e2
    obtain ⟨rfl, rfl, rfl, rfl, rfl, rfl, h7, rfl⟩ := e2
    have h7 : n7 = [] := List.map_eq_nil_iff.mp h7
    subst h7
    dsimp only at h6
    rw [Bool.and_eq_true, Bool.and_eq_true, decide_eq_true_eq, decide_eq_true_eq] at h6
    obtain ⟨rfl, rfl, h8⟩ := h6
    exact ⟨_, _, _, rest, _, ⟨h1, He.eqO_ok h2, f1, f2⟩, ⟨oc, od, .none, .none, n10, n11, n12, n13, n14, osl, rfl, lk, h8, .inl ⟨rfl, rfl⟩, .inl rfl⟩, h5⟩
  · cases h6
/-- what isinstance asks -/
def excB (K : Frag) (D : Addr) : Bool := He.eqO (findIn K (.ref D) "__getattribute__") (some (some (.builtin "BaseException.__getattribute__"))) && (He.eqO (findIn K (.ref D) "__getattr__") (some none) && (decide (subIn K (.ref D) (.type "BaseException") = some true) && (hasDictIn K D &&
  (He.eqO (findIn K (.ref D) "__class__") (some (some (.builtin "object.__class__"))) && (He.eqO (specialIn K (.builtin "object.__class__") "__get__") (some (some (.builtin "getset_descriptor.__get__"))) && (decide (takesIn K (.builtin "object.__class__") = some true) && decide (mroIn K D (.type "object") = some true)))))))
theorem excB_ok {K : Frag} {D : Addr} (h : excB K D = true) : L2.ExcC K D := by
  unfold excB at h
  obtain ⟨h1, h⟩ := He.ba h
  obtain ⟨h2, h⟩ := He.ba h
  obtain ⟨h3, h⟩ := He.ba h
  obtain ⟨h4, h⟩ := He.ba h
  obtain ⟨h5, h⟩ := He.ba h
  obtain ⟨h6, h⟩ := He.ba h
  obtain ⟨h7, h8⟩ := He.ba h
  exact ⟨He.eqO_ok h1, He.eqO_ok h2, of_decide_eq_true h3, h4, He.eqO_ok h5, He.eqO_ok h6, of_decide_eq_true h7, of_decide_eq_true h8⟩
def ownB (K : Frag) : Bool := exB RR.prog.main.file K "NotLost" "NotLost.__init__" ["size"] && (exB RR.prog.main.file K "NotRepairable" "NotRepairable.__init__" ["gap"] && (exB RR.prog.main.file K "BadOperation" "BadOperation.__init__" ["operation", "index"] && (exB RR.prog.main.file K "Illegal" "Illegal.__init__" ["operation", "index"] &&
  (stB K && (He.eqO (findIn K (.ref (He.ga K "Links")) "__class__") (some (some (.builtin "object.__class__"))) && (decide (mroIn K (He.ga K "Links") (.type "object") = some true) && (excB K (He.ga K "NotLost") && (excB K (He.ga K "NotRepairable") &&
  (decide (kitOne K (.ref (He.ga K "NotLost")) (.ref (He.ga K "LinkError")) = some true) && (decide (kitOne K (.ref (He.ga K "NotLost")) (.ref (He.ga K "NotRepairable")) = some false) && (decide (kitOne K (.ref (He.ga K "NotRepairable")) (.ref (He.ga K "LinkError")) = some true) && decide (kitOne K (.ref (He.ga K "NotRepairable")) (.ref (He.ga K "LogError")) = some false))))))))))))
def ownY (K : Frag) : List FnY := [fnY K (He.ma K (He.ga K "NotLost") "__init__"), fnY K (He.ma K (He.ga K "NotRepairable") "__init__"), fnY K (He.ma K (He.ga K "BadOperation") "__init__"), fnY K (He.ma K (He.ga K "Illegal") "__init__"), fnY K (stG K)]
def valY : List FnY := [mkY "__init__" "NotLost.__init__" (defArgs (inClass (top 11) 0)) (defBody (inClass (top 11) 0)) (defScope (inClass (top 11) 0)) ["__class__"],
  mkY "__init__" "NotRepairable.__init__" (defArgs (inClass (top 10) 0)) (defBody (inClass (top 10) 0)) (defScope (inClass (top 10) 0)) ["__class__"],
  mkY "__init__" "BadOperation.__init__" (defArgs (inClass (top 4) 0)) (defBody (inClass (top 4) 0)) (defScope (inClass (top 4) 0)) ["__class__"],
  mkY "__init__" "Illegal.__init__" (defArgs (inClass (top 5) 0)) (defBody (inClass (top 5) 0)) (defScope (inClass (top 5) 0)) ["__class__"],
  mkY "built" "Links.built" (defArgs (inClass (top 42) 2)) (defBody (inClass (top 42) 2)) (defScope (inClass (top 42) 2)) []]
abbrev AlL : Type := He.AlD × Bool × List FnY
def obsK (K : Frag) : AlL := (He.obsD fal fnl K, ownB K, ownY K)
def valL : AlL := (He.valD fnl, true, valY)
theorem tx_of {w : World} {K : Frag} {mg : Str → Option Value} {base : Heap} (h : obsK K = valL) (X : K.In base) (G : base.Ns mainGlobals mg) : Tx RR.prog w K mg base := by
  have c : He.SaysD fal fnl K := congrArg (fun z : AlL => z.1) h
  have b : ownB K = true := congrArg (fun z : AlL => z.2.1) h
  have y : ownY K = valY := congrArg (fun z : AlL => z.2.2) h
  unfold ownB at b
  obtain ⟨b1, b⟩ := He.ba b
  obtain ⟨b2, b⟩ := He.ba b
  obtain ⟨b3, b⟩ := He.ba b
  obtain ⟨b4, b⟩ := He.ba b
  obtain ⟨b5, b⟩ := He.ba b
  obtain ⟨b6, b⟩ := He.ba b
  obtain ⟨b7, b⟩ := He.ba b
  obtain ⟨b8, b⟩ := He.ba b
  obtain ⟨b9, b⟩ := He.ba b
  obtain ⟨b10, b⟩ := He.ba b
  obtain ⟨b11, b⟩ := He.ba b
  obtain ⟨b12, b13⟩ := He.ba b
  unfold ownY valY at y
  injection y with y1 y
  injection y with y2 y
  injection y with y3 y
  injection y with y4 y
  injection y with y5 _
  exact { df := fun i d hd => c.def_ i hd, fa := fun i f hf => c.fact i hf, kin := X, ns := G, tsup := by kernel_rfl, xS := stB_ok b5 y5, xN := exB_ok b1 y1, xR := exB_ok b2 y2, xB := exB_ok b3 y3, xI := exB_ok b4 y4,
          xL := He.eqO_ok b6, xM := of_decide_eq_true b7, xEN := excB_ok b8, xER := excB_ok b9, kN1 := of_decide_eq_true b10, kN2 := of_decide_eq_true b11, kR1 := of_decide_eq_true b12, kR2 := of_decide_eq_true b13 }
/-! ### the heap's objects, one by one -/
def frc {α : Type} : List (Addr × Obj) → (List (Addr × Obj) → α) → α
  | [], k => k []
  | (a, ⟨c, d, dt, sl⟩) :: r, k => HandSHeadRun.frNat a fun a => frc r fun r => k ((a, ⟨c, d, dt, sl⟩) :: r)
theorem frc_eq {α : Type} : ∀ (l : List (Addr × Obj)) (k : List (Addr × Obj) → α), frc l k = k l
  | [], k => rfl
  | (a, ⟨c, d, dt, sl⟩) :: r, k => by
    show HandSHeadRun.frNat a (fun a => frc r fun r => k ((a, ⟨c, d, dt, sl⟩) :: r)) = _
    rw [HandSHeadRun.frNat_eq, frc_eq]
def addrs (n : Nat) : List Addr := mainGlobals :: List.range n
def obsL (g : Addr → Option Obj) (n : Nat) : AlL := frc (He.frG g (addrs n)) obsK
def hkL : Hook where
  α := AlL
  obs := fun s => obsL s.heap.get? s.heap.objs.size
  val := fun _ => valL
  says := fun _ h => ∃ K : Frag, K.In h ∧ obsK K = valL
  of := fun w s e => ⟨He.frG s.heap.get? (addrs s.heap.objs.size), He.frG_in, by
    have e : obsL s.heap.get? s.heap.objs.size = valL := e
    unfold obsL at e
    rw [frc_eq] at e
    exact e⟩
  keeps := fun _ _ _ ⟨K, hK, c⟩ k => ⟨K, hK.keeps k, c⟩
def obT (s : SharedT) : AlL := obsL (HandSHeadRun.getT s) s.n
theorem obT_eq (s : SharedT) : obT s = hkL.obs s.abs := by
  have e : HandSHeadRun.getT s = s.abs.heap.get? := funext (HandSHeadRun.getT_eq s)
  have n : s.abs.heap.objs.size = s.n := absHeap_size _ _ _
  show obsL (HandSHeadRun.getT s) s.n = obsL s.abs.heap.get? s.abs.heap.objs.size
  rw [e, n]
end LL
namespace LL
open PySem PySem.W PySem.Spec PySem.Calls PyProof.Rows
/-! ### the top runs -/
set_option maxHeartbeats 0 in
theorem run (w : World) : HandSHeadRun.RunEq RR (view RR.prog [83]) hkL obT 40000 loo w := by
  intro os
  kernel_rfl
end LL
namespace LL
open PySem PySem.Spec PyProof.Rows L2
/-! ### a standing in the heap -/
def mk (n : Nat) (f : Nat → V) : List V := (List.range n).map f
theorem mk_len (n : Nat) (f : Nat → V) : (mk n f).length = n := by
  unfold mk
  rw [List.length_map, List.length_range]
theorem mk_at {n i : Nat} (f : Nat → V) (h : i < n) : (mk n f)[i]? = some (f i) := by
  unfold mk
  rw [List.getElem?_map, List.getElem?_range h] <;> rfl
theorem mk_get {n : Nat} {f : Nat → V} {i : Nat} {v : V} (h : (mk n f)[i]? = some v) : i < n ∧ v = f i := by
  have hi := (List.getElem?_eq_some_iff.mp h).1
  rw [mk_len] at hi
  rw [mk_at f hi] at h
  exact ⟨hi, (Option.some.inj h).symm⟩
theorem mk_congr {n : Nat} {f g : Nat → V} (h : ∀ i, i < n → f i = g i) : mk n f = mk n g := by
  unfold mk
  exact List.map_congr_left fun i hi => h i (List.mem_range.mp hi)
theorem mk_snoc (n : Nat) (f : Nat → V) : mk (n + 1) f = mk n f ++ [f n] := by
  unfold mk
  rw [List.range_succ, List.map_append] <;> rfl
theorem mk_set {n j : Nat} (f : Nat → V) (y : V) : (mk n f).set j y = mk n (updN f j y) := by
  refine List.ext_getElem? fun i => ?_
  by_cases h : i < n
  · rw [mk_at _ h]
    by_cases e : i = j
    · subst e
      rw [List.getElem?_set_self (by rw [mk_len]; exact h), updN_same]
    · rw [List.getElem?_set_ne (fun z => e z.symm), mk_at f h, updN_ne _ _ e]
  · rw [List.getElem?_eq_none (by rw [List.length_set, mk_len]; omega), List.getElem?_eq_none (by rw [mk_len]; omega)]
theorem mk_atI {n j : Nat} {i : Int} (f : Nat → V) (e : i = (j : Int)) (h : j < n) : atI (mk n f) i = some (f j) := by
  rw [e]
  exact atI_nat (mk_at f h)
theorem mk_ixN {n j : Nat} {i : Int} (f : Nat → V) (e : i = (j : Int)) (h : j < n) : ixN (mk n f).length i = some j := by
  rw [e, mk_len]
  unfold ixN
  rw [if_pos (by omega), if_pos (by omega)]
  simp
def lz (S : Sd) (i : Nat) : Int := if i = 0 then -1 else (S.L i : Int)
def vl (S : Sd) : List V := mk (S.n + 2) fun i => .int (lz S i)
def vr (S : Sd) : List V := mk (S.n + 2) fun i => .int (S.R i : Int)
def vf (S : Sd) : List V := mk (S.n + 2) fun i => .bl (S.F i)
/-- the law's own row of right links -/
def vq (S : Sd) : List V := mk (S.n + 1) fun i => .int (S.R i : Int)
theorem lz_pos {S : Sd} {i : Nat} (h : 1 ≤ i) : lz S i = (S.L i : Int) := by
  unfold lz
  rw [if_neg (by omega)]
def gstr : G → Str
  | .joined => "joined"
  | .left => "left"
  | .right => "right"
  | .lost => "lost"
theorem gstr_eq {a b : G} : decide (V.str (gstr a) = V.str (gstr b)) = decide (a = b) := by
  cases a <;> cases b <;> decide +kernel
theorem gstr_left {a : G} : decide (V.str (gstr a) = V.str "left") = decide (a = .left) := gstr_eq (b := .left)
theorem gstr_right {a : G} : decide (V.str (gstr a) = V.str "right") = decide (a = .right) := gstr_eq (b := .right)
theorem gstr_lost {a : G} : decide (V.str (gstr a) = V.str "lost") = decide (a = .lost) := gstr_eq (b := .lost)
theorem gstr_joined {a : G} : decide (V.str (gstr a) = V.str "joined") = decide (a = .joined) := gstr_eq (b := .joined)
/-- where the parts of a Links object stand -/
structure LA where
  p : Addr
  dx : Addr
  l : Addr
  r : Addr
  f : Addr
def lfs (n : Nat) (a : LA) : List (Str × V) := [("size", .int n), ("_lefts", .ref a.l), ("_rights", .ref a.r), ("_flags", .ref a.f)]
theorem lfs_size (n : Nat) (a : LA) : (lfs n a).lookup ("size" : Str) = some (.int n) := rfl
theorem lfs_lefts (n : Nat) (a : LA) : (lfs n a).lookup ("_lefts" : Str) = some (.ref a.l) := rfl
theorem lfs_rights (n : Nat) (a : LA) : (lfs n a).lookup ("_rights" : Str) = some (.ref a.r) := rfl
theorem lfs_flags (n : Nat) (a : LA) : (lfs n a).lookup ("_flags" : Str) = some (.ref a.f) := rfl
structure LinksAt (C : Addr) (H : Hp) (a : LA) (S : Sd) : Prop where
  ob : H a.p = some (.ins C a.dx (lfs S.n a))
  hl : H a.l = some (.lst (vl S))
  hr : H a.r = some (.lst (vr S))
  hf : H a.f = some (.lst (vf S))
  lr : a.l ≠ a.r
  lf : a.l ≠ a.f
  rf : a.r ≠ a.f
theorem LinksAt.same {C : Addr} {H H' : Hp} {a : LA} {S : Sd} (L : LinksAt C H a S) (e : Same H H') : LinksAt C H' a S :=
  ⟨e _ _ L.ob, e _ _ L.hl, e _ _ L.hr, e _ _ L.hf, L.lr, L.lf, L.rf⟩
/-- all but the three lists of a -/
def Keep (a : LA) (H H' : Hp) : Prop := ∀ b o, H b = some o → b ≠ a.l → b ≠ a.r → b ≠ a.f → H' b = some o
theorem Same.keep {H H' : Hp} {a : LA} (e : Same H H') : Keep a H H' := fun b o h _ _ _ => e b o h
theorem Keep.trans {a : LA} {H H1 H2 : Hp} (x : Keep a H H1) (y : Keep a H1 H2) : Keep a H H2 := fun b o h h1 h2 h3 => y b o (x b o h h1 h2 h3) h1 h2 h3
/-- a's lists came later than H: nothing of H is touched -/
theorem Keep.old {a : LA} {H H1 H2 : Hp} (x : Same H H1) (y : Keep a H1 H2) (n1 : H a.l = none) (n2 : H a.r = none) (n3 : H a.f = none) : Same H H2 := fun b o h =>
  y b o (x b o h) (ne_of_none h n1) (ne_of_none h n2) (ne_of_none h n3)
theorem Same.up {H : Hp} {p : Addr} {o : HO} (h : H p = none) : Same H (upd H p o) := fun b u e => by
  rw [upd_ne (ne_of_none e h)]
  exact e
theorem Same.new {H H' : Hp} {p : Addr} {o : HO} (e : Same H H') (h : H' p = none) : Same H (upd H' p o) := fun b u q => by
  rw [upd_ne (ne_of_none (e b u q) h)]
  exact e b u q
/-- an object that H does not know is written -/
theorem Same.mut {H H' : Hp} {p : Addr} {o : HO} (e : Same H H') (h : H p = none) : Same H (upd H' p o) := fun b u q => by
  rw [upd_ne (ne_of_none q h)]
  exact e b u q
theorem upd_free {H : Hp} {a b : Addr} {o : HO} (h : upd H a o b = none) : H b = none := by
  by_cases e : b = a
  · rw [e, upd_same] at h
    cases h
  · rw [upd_ne e] at h
    exact h
theorem upd_away {H : Hp} {a b : Addr} {o : HO} (h : upd H a o b = none) : b ≠ a := fun e => by
  rw [e, upd_same] at h
  cases h
theorem iteB {c : Bool} {A B : Prop} (h1 : c = true → A) (h2 : c = false → B) : if c = true then A else B := by
  cases c with
  | true => exact h1 rfl
  | false => exact h2 rfl
/-- a test that is known to be true, false -/
theorem iteK {c : Bool} {A B : Prop} (hc : c = true) (h : A) : if c = true then A else B := by
  subst hc
  exact h
theorem iteN {c : Bool} {A B : Prop} (hc : c = false) (h : B) : if c = true then A else B := by
  subst hc
  exact h
theorem sz60 {n : Nat} (h : n ≤ 100000) : n ≤ sizeLine := Nat.le_trans h (by decide)
theorem szlt {n : Nat} (h : n < 100000) : n < sizeLine := Nat.lt_of_lt_of_le h (by decide)
/-! ### MOST_NODES -/
section
variable {P : Program} {w : World} {K : PySem.W.Frag} {mg : Str → Option Value} {base : Heap}
theorem Tx.most (Z : Tx P w K mg base) : ∃ u, mg "MOST_NODES" = some u ∧ RelV (.int 60) u := by
  obtain ⟨t, h⟩ := He.int_ok Z.kin Z.ns (Z.fa 76 _ rfl)
  exact ⟨_, h, t, rfl⟩
end
theorem pe_most {X : Cx} {pos : Pos} {w : World} (Z : Tx X.prog w X.K X.mg X.base) (hg : Gl X "MOST_NODES" := by rfl) : PE X (.Name "MOST_NODES" pos) (tC (.int 60)) := by
  obtain ⟨u, h, r⟩ := Z.most
  exact pe_glob hg h r
end LL
namespace LL
open PySem PySem.Spec PyProof.Rows L2
/-! ### sizes, gaps, reading of links: promises -/
def sp_check_size : Sp := fun vs H Q _ => ∃ n : Int, vs = [.int n] ∧ 0 ≤ n ∧ n ≤ 60 ∧ Q .non H
def sp_check_gap : Sp := fun vs H Q _ => ∃ n g : Int, vs = [.int n, .int g] ∧ 0 ≤ g ∧ g ≤ n ∧ Q .non H
def sp_left (C : Addr) : Sp := fun vs H Q _ => ∃ (a : LA) (S : Sd) (i : Int) (v : Nat), vs = [.ref a.p, .int i] ∧ i = (v : Int) ∧ LinksAt C H a S ∧ 1 ≤ v ∧ v ≤ S.n + 1 ∧ Q (.int (S.L v : Int)) H
def sp_right (C : Addr) : Sp := fun vs H Q _ => ∃ (a : LA) (S : Sd) (i : Int) (v : Nat), vs = [.ref a.p, .int i] ∧ i = (v : Int) ∧ LinksAt C H a S ∧ v ≤ S.n ∧ Q (.int (S.R v : Int)) H
def sp_is_out (C : Addr) : Sp := fun vs H Q _ => ∃ (a : LA) (S : Sd) (i : Int) (v : Nat), vs = [.ref a.p, .int i] ∧ i = (v : Int) ∧ LinksAt C H a S ∧ v ≤ S.n + 1 ∧ Q (.bl (S.F v)) H
def sp_left_holds (C : Addr) : Sp := fun vs H Q _ => ∃ (a : LA) (S : Sd) (i : Int) (v : Nat), vs = [.ref a.p, .int i] ∧ i = (v : Int) ∧ LinksAt C H a S ∧ v ≤ S.n ∧ Q (.bl (lh S v)) H
def sp_right_holds (C : Addr) : Sp := fun vs H Q _ => ∃ (a : LA) (S : Sd) (i : Int) (v : Nat), vs = [.ref a.p, .int i] ∧ i = (v : Int) ∧ LinksAt C H a S ∧ v ≤ S.n ∧ Q (.bl (rh S v)) H
def sp_gap_state (C : Addr) : Sp := fun vs H Q _ => ∃ (a : LA) (S : Sd) (i : Int) (v : Nat), vs = [.ref a.p, .int i] ∧ i = (v : Int) ∧ LinksAt C H a S ∧ v ≤ S.n ∧ Q (.str (gstr (gst S v))) H
section
variable {P : Program} {w : World} {K : PySem.W.Frag} {mg : Str → Option Value} {base : Heap}
theorem Tx.cL (Z : Tx P w K mg base) : Cls K (He.ga K "Links") := He.cls_ok (Z.fa 77 _ rfl)
theorem Tx.nSize (Z : Tx P w K mg base) : NoAttr K (He.ga K "Links") "size" := He.noat_ok (Z.fa 79 _ rfl)
theorem Tx.nLefts (Z : Tx P w K mg base) : NoAttr K (He.ga K "Links") "_lefts" := He.noat_ok (Z.fa 80 _ rfl)
theorem Tx.nRights (Z : Tx P w K mg base) : NoAttr K (He.ga K "Links") "_rights" := He.noat_ok (Z.fa 81 _ rfl)
theorem Tx.nFlags (Z : Tx P w K mg base) : NoAttr K (He.ga K "Links") "_flags" := He.noat_ok (Z.fa 82 _ rfl)
theorem sc_check_size : FnScope ["size"] ["size"] (defScope (top 15)) := ⟨rfl, rfl, rfl, by decide +kernel, rfl, by decide +kernel, by decide +kernel⟩
theorem ok_check_size (Z : Tx P w K mg base) : Pr P w K mg base 1 "check_size" sp_check_size := by
  refine Z.pr0 0 0 (d := d_check_size) rfl rfl rfl rfl rfl sc_check_size (fun vs H Q E h => ?_) (fun _ _ _ _ _ _ us hl => match us, hl with | [_], _ => rfl) (fun f cdv A outer s H vs Q E hr h => ?_)
  · obtain ⟨n, rfl, _⟩ := h
    rfl
  · obtain ⟨n, rfl, h0, h1, k⟩ := h
    refine ⟨_, (pss_one (ps_if (pt_not (pt_chain op_le op_le pe_int (pv 0) (pe_most Z))) (pss_one ps_never) pss_nil)), ?_⟩
    refine ⟨_, rfl, _, _, rfl, rfl, _, rfl, iteK (decide_eq_true h0) ?_⟩
    refine ⟨_, _, rfl, rfl, _, rfl, iteN (by rw [decide_eq_true h1] <;> rfl) ?_⟩
    exact k
theorem sc_check_gap : FnScope ["size", "gap"] ["size", "gap"] (defScope (top 21)) := ⟨rfl, rfl, rfl, by decide +kernel, rfl, by decide +kernel, by decide +kernel⟩
theorem ok_check_gap (Z : Tx P w K mg base) : Pr P w K mg base 1 "check_gap" sp_check_gap := by
  refine Z.pr0 4 4 (d := d_check_gap) rfl rfl rfl rfl rfl sc_check_gap (fun vs H Q E h => ?_) (fun _ _ _ _ _ _ us hl => match us, hl with | [_, _], _ => rfl) (fun f cdv A outer s H vs Q E hr h => ?_)
  · obtain ⟨n, g, rfl, _⟩ := h
    rfl
  · obtain ⟨n, g, rfl, h0, h1, k⟩ := h
    refine ⟨_, (pss_one (ps_if (pt_not (pt_chain op_le op_le pe_int (pv 1) (pv 0))) (pss_one ps_never) pss_nil)), ?_⟩
    refine ⟨_, rfl, _, _, rfl, rfl, _, rfl, iteK (decide_eq_true h0) ?_⟩
    refine ⟨_, rfl, _, _, rfl, rfl, _, rfl, iteN (by rw [decide_eq_true h1] <;> rfl) ?_⟩
    exact k
theorem sc_Links_left : FnScope ["self", "node"] ["self", "node"] (defScope (inClass (top 42) 4)) := ⟨rfl, rfl, rfl, by decide +kernel, rfl, by decide +kernel, by decide +kernel⟩
theorem ok_Links_left (Z : Tx P w K mg base) : Pm P w K mg base 1 (He.ga K "Links") "left" (sp_left (He.ga K "Links")) := by
  refine Z.pm0 19 83 77 (d := d_Links_left) rfl rfl rfl rfl rfl rfl sc_Links_left (fun vs H Q E h => ?_) (fun _ _ _ _ _ _ us hl => match us, hl with | [_, _], _ => rfl) (fun f cdv A outer s H vs Q E hr h => ?_)
  · obtain ⟨a, S, i, v, rfl, _⟩ := h
    rfl
  · obtain ⟨a, S, i, v, rfl, rfl, L, h1, h2, k⟩ := h
    refine ⟨_, (pss_cons (ps_if (pt_not (pt_chain op_le op_le pe_int (pv 1) (pe_op op_add (pe_fld (pv 0) rfl) pe_int))) (pss_one ps_never) pss_nil) (pss_one (ps_ret (pe_ix ix_list (pe_fld (pv 0) rfl) (pv 1) (fun _ _ => rfl))))), ?_⟩
    refine ⟨_, rfl, _, _, rfl, rfl, _, rfl, iteK (decide_eq_true (by omega)) ?_⟩
    refine ⟨_, rfl, _, _, _, _, _, rfl, L.ob, Z.cL, Z.nSize, lfs_size _ _, _, _, rfl, rfl, _, _, rfl, rfl, _, rfl, iteN (by rw [decide_eq_true (by omega)] <;> rfl) ?_⟩
    refine ⟨_, rfl, _, _, _, _, _, rfl, L.ob, Z.cL, Z.nLefts, lfs_lefts _ _, _, rfl, _, _, _, _, rfl, rfl, SqL.of L.hl, mk_atI _ rfl (by omega), ?_⟩
    show Q (.int (lz S v)) H
    rw [lz_pos h1]
    exact k
theorem sc_Links_right : FnScope ["self", "node"] ["self", "node"] (defScope (inClass (top 42) 5)) := ⟨rfl, rfl, rfl, by decide +kernel, rfl, by decide +kernel, by decide +kernel⟩
theorem ok_Links_right (Z : Tx P w K mg base) : Pm P w K mg base 1 (He.ga K "Links") "right" (sp_right (He.ga K "Links")) := by
  refine Z.pm0 20 84 77 (d := d_Links_right) rfl rfl rfl rfl rfl rfl sc_Links_right (fun vs H Q E h => ?_) (fun _ _ _ _ _ _ us hl => match us, hl with | [_, _], _ => rfl) (fun f cdv A outer s H vs Q E hr h => ?_)
  · obtain ⟨a, S, i, v, rfl, _⟩ := h
    rfl
  · obtain ⟨a, S, i, v, rfl, rfl, L, h2, k⟩ := h
    refine ⟨_, (pss_cons (ps_if (pt_not (pt_chain op_le op_le pe_int (pv 1) (pe_fld (pv 0) rfl))) (pss_one ps_never) pss_nil) (pss_one (ps_ret (pe_ix ix_list (pe_fld (pv 0) rfl) (pv 1) (fun _ _ => rfl))))), ?_⟩
    refine ⟨_, rfl, _, _, rfl, rfl, _, rfl, iteK (decide_eq_true (by omega)) ?_⟩
    refine ⟨_, rfl, _, _, _, _, _, rfl, L.ob, Z.cL, Z.nSize, lfs_size _ _, _, _, rfl, rfl, _, rfl, iteN (by rw [decide_eq_true (by omega)] <;> rfl) ?_⟩
    refine ⟨_, rfl, _, _, _, _, _, rfl, L.ob, Z.cL, Z.nRights, lfs_rights _ _, _, rfl, _, _, _, _, rfl, rfl, SqL.of L.hr, mk_atI _ rfl (by omega), ?_⟩
    exact k
theorem sc_Links_is_out : FnScope ["self", "node"] ["self", "node"] (defScope (inClass (top 42) 6)) := ⟨rfl, rfl, rfl, by decide +kernel, rfl, by decide +kernel, by decide +kernel⟩
theorem ok_Links_is_out (Z : Tx P w K mg base) : Pm P w K mg base 1 (He.ga K "Links") "is_out" (sp_is_out (He.ga K "Links")) := by
  refine Z.pm0 21 85 77 (d := d_Links_is_out) rfl rfl rfl rfl rfl rfl sc_Links_is_out (fun vs H Q E h => ?_) (fun _ _ _ _ _ _ us hl => match us, hl with | [_, _], _ => rfl) (fun f cdv A outer s H vs Q E hr h => ?_)
  · obtain ⟨a, S, i, v, rfl, _⟩ := h
    rfl
  · obtain ⟨a, S, i, v, rfl, rfl, L, h2, k⟩ := h
    refine ⟨_, (pss_cons (ps_if (pt_not (pt_chain op_le op_le pe_int (pv 1) (pe_op op_add (pe_fld (pv 0) rfl) pe_int))) (pss_one ps_never) pss_nil) (pss_one (ps_ret (pe_ix ix_list (pe_fld (pv 0) rfl) (pv 1) (fun _ _ => rfl))))), ?_⟩
    refine ⟨_, rfl, _, _, rfl, rfl, _, rfl, iteK (decide_eq_true (by omega)) ?_⟩
    refine ⟨_, rfl, _, _, _, _, _, rfl, L.ob, Z.cL, Z.nSize, lfs_size _ _, _, _, rfl, rfl, _, _, rfl, rfl, _, rfl, iteN (by rw [decide_eq_true (by omega)] <;> rfl) ?_⟩
    refine ⟨_, rfl, _, _, _, _, _, rfl, L.ob, Z.cL, Z.nFlags, lfs_flags _ _, _, rfl, _, _, _, _, rfl, rfl, SqL.of L.hf, mk_atI _ rfl (by omega), ?_⟩
    exact k
theorem dec_int_nat {a b : Nat} : decide (V.int (a : Int) = V.int (b : Int)) = decide (a = b) := by
  refine decide_eq_decide.mpr ⟨fun h => ?_, fun h => by rw [h]⟩
  injection h with h
  omega
theorem sc_left_holds : FnScope ["links", "gap"] ["links", "gap"] (defScope (top 22)) := ⟨rfl, rfl, rfl, by decide +kernel, rfl, by decide +kernel, by decide +kernel⟩
theorem ok_left_holds (Z : Tx P w K mg base) : Pr P w K mg base 2 "left_holds" (sp_left_holds (He.ga K "Links")) := by
  refine Z.pr0 5 5 (d := d_left_holds) rfl rfl rfl rfl rfl sc_left_holds (fun vs H Q E h => ?_) (fun _ _ _ _ _ _ us hl => match us, hl with | [_, _], _ => rfl) (fun f cdv A outer s H vs Q E hr h => ?_)
  · obtain ⟨a, S, i, v, rfl, _⟩ := h
    rfl
  · obtain ⟨a, S, i, v, rfl, rfl, L, h2, k⟩ := h
    refine ⟨_, (pss_one (ps_ret (pe_cmpR op_eq (pm (ok_Links_right Z) hr (pv 0) (pa_cons (pv 1) pa_nil)) (pe_op op_add (pv 1) pe_int) (nomark _)))), ?_⟩
    refine ⟨_, rfl, _, _, _, rfl, L.ob, rfl, _, rfl, a, S, _, v, rfl, rfl, L, h2, _, rfl, _, _, rfl, rfl, rfl, ?_⟩
    have e : decide (V.int (S.R v : Int) = V.int ((v : Int) + 1)) = lh S v := dec_int_nat (b := v + 1)
    show Q (.bl (decide (V.int (S.R v : Int) = V.int ((v : Int) + 1)))) H
    rw [e]
    exact k
theorem sc_right_holds : FnScope ["links", "gap"] ["links", "gap"] (defScope (top 23)) := ⟨rfl, rfl, rfl, by decide +kernel, rfl, by decide +kernel, by decide +kernel⟩
theorem ok_right_holds (Z : Tx P w K mg base) : Pr P w K mg base 2 "right_holds" (sp_right_holds (He.ga K "Links")) := by
  refine Z.pr0 6 6 (d := d_right_holds) rfl rfl rfl rfl rfl sc_right_holds (fun vs H Q E h => ?_) (fun _ _ _ _ _ _ us hl => match us, hl with | [_, _], _ => rfl) (fun f cdv A outer s H vs Q E hr h => ?_)
  · obtain ⟨a, S, i, v, rfl, _⟩ := h
    rfl
  · obtain ⟨a, S, i, v, rfl, rfl, L, h2, k⟩ := h
    refine ⟨_, (pss_one (ps_ret (pe_cmpR op_eq (pm (ok_Links_left Z) hr (pv 0) (pa_cons (pe_op op_add (pv 1) pe_int) pa_nil)) (pv 1) (nomark _)))), ?_⟩
    refine ⟨_, rfl, _, _, _, rfl, L.ob, rfl, _, rfl, _, _, rfl, rfl, a, S, _, v + 1, rfl, rfl, L, by omega, by omega, _, rfl, rfl, ?_⟩
    have e : decide (V.int (S.L (v + 1) : Int) = V.int (v : Int)) = rh S v := dec_int_nat
    show Q (.bl (decide (V.int (S.L (v + 1) : Int) = V.int (v : Int)))) H
    rw [e]
    exact k
theorem sc_gap_state : FnScope ["links", "gap"] ["links", "gap"] (defScope (top 24)) := ⟨rfl, rfl, rfl, by decide +kernel, rfl, by decide +kernel, by decide +kernel⟩
theorem ok_gap_state (Z : Tx P w K mg base) : Pr P w K mg base 3 "gap_state" (sp_gap_state (He.ga K "Links")) := by
  refine Z.pr0 7 7 (d := d_gap_state) rfl rfl rfl rfl rfl sc_gap_state (fun vs H Q E h => ?_) (fun _ _ _ _ _ _ us hl => match us, hl with | [_, _], _ => rfl) (fun f cdv A outer s H vs Q E hr h => ?_)
  · obtain ⟨a, S, i, v, rfl, _⟩ := h
    rfl
  · obtain ⟨a, S, i, v, rfl, rfl, L, h2, k⟩ := h
    refine ⟨_, (pss_cons (ps_expr (pc (ok_check_gap Z) hr (pa_cons (pe_fld (pv 0) rfl) (pa_cons (pv 1) pa_nil)))) (pss_cons (ps_if (pt_val (pc (ok_left_holds Z) hr (pa_cons (pv 0) (pa_cons (pv 1) pa_nil)))) (pss_one (ps_ret (pe_ifExp (pt_val (pc (ok_right_holds Z) hr (pa_cons (pv 0) (pa_cons (pv 1) pa_nil)))) pe_str pe_str))) pss_nil) (pss_one (ps_ret (pe_ifExp (pt_val (pc (ok_right_holds Z) hr (pa_cons (pv 0) (pa_cons (pv 1) pa_nil)))) pe_str pe_str))))), ?_⟩
    refine ⟨_, rfl, _, _, _, _, _, rfl, L.ob, Z.cL, Z.nSize, lfs_size _ _, _, rfl, _, _, rfl, by omega, by omega, ?_⟩
    unfold gst at k
    refine ⟨_, rfl, _, rfl, a, S, _, v, rfl, rfl, L, h2, _, rfl, iteB (fun e => ?_) (fun e => ?_)⟩
    · rw [e, if_pos rfl] at k
      refine ⟨_, rfl, _, rfl, a, S, _, v, rfl, rfl, L, h2, _, rfl, iteB (fun e2 => ?_) (fun e2 => ?_)⟩
      · rw [e2, if_pos rfl] at k
        exact k
      · rw [e2, if_neg (by decide)] at k
        exact k
    · rw [e, if_neg (by decide)] at k
      refine ⟨_, rfl, _, rfl, a, S, _, v, rfl, rfl, L, h2, _, rfl, iteB (fun e2 => ?_) (fun e2 => ?_)⟩
      · rw [e2, if_pos rfl] at k
        exact k
      · rw [e2, if_neg (by decide)] at k
        exact k
end
end LL
namespace LL
open PySem PySem.Spec PyProof.Rows L2
open Evl (given given_yes given_no given_len)
/-- a new list comes back, what stood stands -/
def RetN (xs : List V) (H : Hp) (Q : VK) : Prop := ∀ p H', H p = none → Same H H' → H' p = some (.lst xs) → Q (.ref p) H'
/-- a value comes back, what stood stands -/
def RetS (v : V) (H : Hp) (Q : VK) : Prop := ∀ H', Same H H' → Q v H'
def nvs (l : List Nat) : List V := l.map fun v : Nat => V.int (v : Int)
theorem nodes_given (n : Nat) (c : Nat → Bool) (f : Nat → V) : ((nodes n).filter c).map f = given n (fun i => c (i + 1)) (fun i => f (i + 1)) := by
  unfold nodes given
  rw [List.filter_map, List.map_map] <;> rfl
/-! ### promises -/
def sp_gap_states (C : Addr) : Sp := fun vs H Q _ => ∃ (a : LA) (S : Sd), vs = [.ref a.p] ∧ LinksAt C H a S ∧ S.n ≤ 60 ∧ RetN (mk (S.n + 1) fun v => .str (gstr (gst S v))) H Q
def sp_lost_gaps (C : Addr) : Sp := fun vs H Q _ => ∃ (a : LA) (S : Sd), vs = [.ref a.p] ∧ LinksAt C H a S ∧ S.n ≤ 60 ∧ RetN (nvs (lostL S)) H Q
def sp_is_due (C : Addr) : Sp := fun vs H Q _ => ∃ (a : LA) (S : Sd) (i : Int) (v : Nat), vs = [.ref a.p, .int i] ∧ i = (v : Int) ∧ LinksAt C H a S ∧ 1 ≤ v ∧ v ≤ S.n ∧ Q (.bl (due S v)) H
def sp_share (C : Addr) : Sp := fun vs H Q _ => ∃ (a : LA) (S : Sd) (i : Int) (v : Nat), vs = [.ref a.p, .int i] ∧ i = (v : Int) ∧ LinksAt C H a S ∧ v ≤ S.n ∧ Q (.int (share S v : Int)) H
def sp_is_repairable (C : Addr) : Sp := fun vs H Q _ => ∃ (a : LA) (S : Sd), vs = [.ref a.p] ∧ LinksAt C H a S ∧ S.n ≤ 60 ∧ RetS (.bl (lostL S).isEmpty) H Q
def sp_due_nodes (C : Addr) : Sp := fun vs H Q _ => ∃ (a : LA) (S : Sd), vs = [.ref a.p] ∧ LinksAt C H a S ∧ S.n ≤ 60 ∧ RetN (nvs (dueL S)) H Q
def sp_settled_debt (C : Addr) : Sp := fun vs H Q _ => ∃ (a : LA) (S : Sd), vs = [.ref a.p] ∧ LinksAt C H a S ∧ S.n ≤ 60 ∧ RetS (if (lostL S).isEmpty = true then .int (debt S : Int) else .non) H Q
def sp_outs (C : Addr) : Sp := fun vs H Q _ => ∃ (a : LA) (S : Sd), vs = [.ref a.p] ∧ LinksAt C H a S ∧ S.n ≤ 60 ∧ RetN (nvs (outs S)) H Q
def sp_operation_on (C : Addr) : Sp := fun vs H Q _ => ∃ (a : LA) (S : Sd) (i : Int) (v : Nat), vs = [.ref a.p, .int i] ∧ i = (v : Int) ∧ LinksAt C H a S ∧ v ≤ S.n ∧ Q (.int (opOn S v)) H
section
variable {P : Program} {w : World} {K : PySem.W.Frag} {mg : Str → Option Value} {base : Heap}
theorem sc_gap_states : FnScope ["links", "gap"] ["links"] (defScope (top 25)) := ⟨rfl, rfl, rfl, by decide +kernel, rfl, by decide +kernel, by decide +kernel⟩
theorem ok_gap_states (Z : Tx P w K mg base) : Pr P w K mg base 4 "gap_states" (sp_gap_states (He.ga K "Links")) := by
  refine Z.pr0 8 8 (d := d_gap_states) rfl rfl rfl rfl rfl sc_gap_states (fun vs H Q E h => ?_) (fun _ _ _ _ _ _ us hl => match us, hl with | [_], _ => rfl) (fun f cdv A outer s H vs Q E hr h => ?_)
  · obtain ⟨a, S, rfl, _⟩ := h
    rfl
  · obtain ⟨a, S, rfl, L, hn, k⟩ := h
    refine ⟨_, (pss_one (ps_ret (pe_lc (own := [("gap", 1)]) (g := gName 1) rfl sc_gap_states.nd (pi_range1 rfl (Z.free 61) (pa_cons (pe_op op_add (pe_fld (pv 0) rfl) pe_int) pa_nil)) (blkOk_by (own := [("gap", 1)]) (N := ["links", "gap"]) (sc := defScope (top 25)) (by decide +kernel)) (fun _ _ _ _ _ => pg_name (i := 1) sc_gap_states.nd rfl (Or.inl rfl)) (fun _ _ _ _ _ => pts_nil) (fun _ _ _ _ _ => (by exact (pc (ok_gap_state Z) hr (pa_cons (pv 0) (pa_cons (pv 1) pa_nil)))))))), ?_⟩
    refine ⟨_, rfl, _, _, _, _, _, rfl, L.ob, Z.cL, Z.nSize, lfs_size _ _, _, _, rfl, rfl, _, rfl, by omega, by omega, fun D hD => ?_⟩
    refine lc_range (lo := 0) (n := ((S.n : Int) + 1).toNat) (fun i H' => Same H H' ∧ H' D = some (.lst (mk i fun v => .str (gstr (gst S v))))) ⟨Same.up hD, upd_same⟩ ?_ ?_
    · rintro i H' hi ⟨s1, e1⟩
      refine ⟨rfl, _, rfl, _, rfl, a, S, _, i, rfl, Int.zero_add _, L.same s1, by omega, _, e1, szlt (by rw [mk_len]; omega), Same.mut s1 hD, ?_⟩
      rw [mk_snoc]
      exact upd_same
    · rintro H' ⟨s1, e1⟩
      rw [show ((S.n : Int) + 1).toNat = S.n + 1 by omega] at e1
      exact k D H' hD s1 e1
theorem sc_lost_gaps : FnScope ["links", "states", "gap", "state"] ["links"] (defScope (top 26)) := ⟨rfl, rfl, rfl, by decide +kernel, rfl, by decide +kernel, by decide +kernel⟩
theorem ok_lost_gaps (Z : Tx P w K mg base) : Pr P w K mg base 5 "lost_gaps" (sp_lost_gaps (He.ga K "Links")) := by
  refine Z.pr0 9 9 (d := d_lost_gaps) rfl rfl rfl rfl rfl sc_lost_gaps (fun vs H Q E h => ?_) (fun _ _ _ _ _ _ us hl => match us, hl with | [_], _ => rfl) (fun f cdv A outer s H vs Q E hr h => ?_)
  · obtain ⟨a, S, rfl, _⟩ := h
    rfl
  · obtain ⟨a, S, rfl, L, hn, k⟩ := h
    refine ⟨_, (pss_cons (ps_set (i := 1) sc_lost_gaps.nd rfl (Or.inl rfl) (pc (ok_gap_states Z) hr (pa_cons (pv 0) pa_nil))) (pss_one (ps_ret (pe_lc (own := [("gap", 2), ("state", 3)]) (g := gTup K 2 (gCons (gName 2) (gCons (gName 3) gNil))) rfl sc_lost_gaps.nd (pi_enum rfl (Z.free 70) (pa_cons (pv 1) pa_nil)) (blkOk_by (own := [("gap", 2), ("state", 3)]) (N := ["links", "states", "gap", "state"]) (sc := defScope (top 26)) (by decide +kernel)) (fun _ _ _ _ _ => pg_tup rfl (pgs_cons (pg_name (i := 2) sc_lost_gaps.nd rfl (Or.inl rfl)) (pgs_cons (pg_name (i := 3) sc_lost_gaps.nd rfl (Or.inl rfl)) pgs_nil))) (fun _ _ _ _ _ => pts_one (by exact (pt_cmpR op_eq (pv 3) pe_str (nomark _)))) (fun _ _ _ _ _ => (by exact (pv 2))))))), ?_⟩
    refine ⟨_, rfl, a, S, rfl, L, hn, fun p H1 np s1 e1 => ?_⟩
    refine ⟨_, rfl, _, _, rfl, SqL.of e1, fun D hD => ?_⟩
    refine lc_it (walk_enum (xs := mk (S.n + 1) fun v => .str (gstr (gst S v)))) (fun i H' => Same H1 H' ∧ H' D = some (.lst (given i (fun v => decide (gst S v = .lost)) fun v => .int (v : Int)))) ⟨Same.up hD, upd_same⟩ (fun i H' _ p => Same.seq p.1 (SqL.of e1)) ?_ ?_
    · rintro i x H' H2 hi ⟨s2, e2⟩ ⟨T, x1, x2, rfl, hT, rfl, y1, y2⟩
      cases y1
      rw [mk_len] at hi
      replace y2 : (mk (S.n + 1) fun v => V.str (gstr (gst S v)))[i]? = some x2 := y2
      rw [mk_at _ hi] at y2
      cases y2
      refine ⟨T, _, rfl, SqT.of upd_same, rfl, _, _, rfl, _, _, rfl, rfl, rfl, _, rfl, rfl, _, rfl, ?_⟩
      show if (decide (V.str (gstr (gst S i)) = V.str "lost")) = true then _ else _
      rw [gstr_lost]
      have s3 : Same H1 (upd H' T (.tup [.int (i : Nat), .str (gstr (gst S i))])) := Same.new s2 hT
      have e3 : upd H' T (.tup [.int (i : Nat), .str (gstr (gst S i))]) D = some (.lst (given i (fun v => decide (gst S v = .lost)) fun v => .int (v : Int))) := by
        rw [upd_ne (ne_of_none e2 hT)]
        exact e2
      refine iteB (fun c => ?_) (fun c => ?_)
      · refine ⟨_, rfl, _, e3, szlt (by have := given_len i (fun v => decide (gst S v = .lost)) (fun v => V.int (v : Int)); omega), Same.mut s3 hD, ?_⟩
        rw [given_yes c]
        exact upd_same
      · refine ⟨s3, ?_⟩
        rw [given_no c]
        exact e3
    · rintro H' ⟨s2, e2⟩
      rw [mk_len] at e2
      exact k D H' (Same.free s1 hD) (Same.trans s1 s2) e2
theorem sc_is_due : FnScope ["links", "node"] ["links", "node"] (defScope (top 30)) := ⟨rfl, rfl, rfl, by decide +kernel, rfl, by decide +kernel, by decide +kernel⟩
theorem ok_is_due (Z : Tx P w K mg base) : Pr P w K mg base 4 "is_due" (sp_is_due (He.ga K "Links")) := by
  refine Z.pr0 12 12 (d := d_is_due) rfl rfl rfl rfl rfl sc_is_due (fun vs H Q E h => ?_) (fun _ _ _ _ _ _ us hl => match us, hl with | [_, _], _ => rfl) (fun f cdv A outer s H vs Q E hr h => ?_)
  · obtain ⟨a, S, i, v, rfl, _⟩ := h
    rfl
  · obtain ⟨a, S, i, v, rfl, rfl, L, h1, h2, k⟩ := h
    refine ⟨_, (pss_cons (ps_if (pt_val (pm (ok_Links_is_out Z) hr (pv 0) (pa_cons (pv 1) pa_nil))) (pss_one (ps_ret pe_bl)) pss_nil) (pss_one (ps_ret (pe_or (pe_cmpR op_eq (pc (ok_gap_state Z) hr (pa_cons (pv 0) (pa_cons (pv 1) pa_nil))) pe_str (nomark _)) (pe_one (pe_cmpR op_eq (pc (ok_gap_state Z) hr (pa_cons (pv 0) (pa_cons (pe_op op_sub (pv 1) pe_int) pa_nil))) pe_str (nomark _))))))), ?_⟩
    refine ⟨_, rfl, _, _, _, rfl, L.ob, rfl, _, rfl, a, S, _, v, rfl, rfl, L, by omega, _, rfl, iteB (fun c => ?_) (fun c => ?_)⟩
    · unfold due at k
      rw [c, Bool.true_or] at k
      exact k
    · unfold due at k
      rw [c, Bool.false_or, sole_eq] at k
      refine ⟨_, rfl, _, rfl, a, S, _, v, rfl, rfl, L, h2, rfl, _, rfl, ?_⟩
      show if (decide (V.str (gstr (gst S v)) = V.str "left")) = true then _ else _
      rw [gstr_left]
      refine iteB (fun c2 => ?_) (fun c2 => ?_)
      · rw [c2, Bool.true_or] at k
        exact k
      · rw [c2, Bool.false_or] at k
        refine ⟨_, rfl, _, rfl, _, _, rfl, rfl, a, S, _, v - 1, rfl, by omega, L, by omega, rfl, ?_⟩
        show Q (.bl (decide (V.str (gstr (gst S (v - 1))) = V.str "right"))) H
        rw [gstr_right]
        exact k
theorem sc__share : FnScope ["links", "node"] ["links", "node"] (defScope (top 31)) := ⟨rfl, rfl, rfl, by decide +kernel, rfl, by decide +kernel, by decide +kernel⟩
theorem ok__share (Z : Tx P w K mg base) : Pr P w K mg base 2 "_share" (sp_share (He.ga K "Links")) := by
  refine Z.pr0 13 13 (d := d__share) rfl rfl rfl rfl rfl sc__share (fun vs H Q E h => ?_) (fun _ _ _ _ _ _ us hl => match us, hl with | [_, _], _ => rfl) (fun f cdv A outer s H vs Q E hr h => ?_)
  · obtain ⟨a, S, i, v, rfl, _⟩ := h
    rfl
  · obtain ⟨a, S, i, v, rfl, rfl, L, h2, k⟩ := h
    refine ⟨_, (pss_cons (ps_if (pt_val (pm (ok_Links_is_out Z) hr (pv 0) (pa_cons (pv 1) pa_nil))) (pss_one (ps_ret pe_int)) pss_nil) (pss_one (ps_ret pe_int))), ?_⟩
    unfold share at k
    refine ⟨_, rfl, _, _, _, rfl, L.ob, rfl, _, rfl, a, S, _, v, rfl, rfl, L, by omega, _, rfl, iteB (fun c => ?_) (fun c => ?_)⟩
    · rw [if_pos c] at k
      exact k
    · rw [c, if_neg (by decide)] at k
      exact k
theorem sc_is_repairable : FnScope ["links"] ["links"] (defScope (top 32)) := ⟨rfl, rfl, rfl, by decide +kernel, rfl, by decide +kernel, by decide +kernel⟩
theorem ok_is_repairable (Z : Tx P w K mg base) : Pr P w K mg base 6 "is_repairable" (sp_is_repairable (He.ga K "Links")) := by
  refine Z.pr0 14 14 (d := d_is_repairable) rfl rfl rfl rfl rfl sc_is_repairable (fun vs H Q E h => ?_) (fun _ _ _ _ _ _ us hl => match us, hl with | [_], _ => rfl) (fun f cdv A outer s H vs Q E hr h => ?_)
  · obtain ⟨a, S, rfl, _⟩ := h
    rfl
  · obtain ⟨a, S, rfl, L, hn, k⟩ := h
    refine ⟨_, (pss_one (ps_ret (pe_cmpR op_eq (pe_callB call_len_seq (by rfl) (Z.free 60) PySem.boot_len (pa_cons (pc (ok_lost_gaps Z) hr (pa_cons (pv 0) pa_nil)) pa_nil)) pe_int (nomark _)))), ?_⟩
    refine ⟨_, rfl, a, S, rfl, L, hn, fun p H1 np s1 e1 => ⟨p, _, rfl, Or.inl (SqL.of e1), rfl, ?_⟩⟩
    have e : decide (V.int ((nvs (lostL S)).length : Int) = V.int 0) = (lostL S).isEmpty := by
      unfold nvs
      rw [List.length_map]
      cases lostL S with
      | nil => rfl
      | cons x r =>
        refine decide_eq_false fun z => ?_
        injection z with z
        rw [List.length_cons] at z
        omega
    show Q (.bl (decide (V.int ((nvs (lostL S)).length : Int) = V.int 0))) H1
    rw [e]
    exact k H1 s1
theorem sc_due_nodes : FnScope ["links", "node"] ["links"] (defScope (top 33)) := ⟨rfl, rfl, rfl, by decide +kernel, rfl, by decide +kernel, by decide +kernel⟩
theorem ok_due_nodes (Z : Tx P w K mg base) : Pr P w K mg base 5 "due_nodes" (sp_due_nodes (He.ga K "Links")) := by
  refine Z.pr0 15 15 (d := d_due_nodes) rfl rfl rfl rfl rfl sc_due_nodes (fun vs H Q E h => ?_) (fun _ _ _ _ _ _ us hl => match us, hl with | [_], _ => rfl) (fun f cdv A outer s H vs Q E hr h => ?_)
  · obtain ⟨a, S, rfl, _⟩ := h
    rfl
  · obtain ⟨a, S, rfl, L, hn, k⟩ := h
    refine ⟨_, (pss_one (ps_ret (pe_lc (own := [("node", 1)]) (g := gName 1) rfl sc_due_nodes.nd (pi_range2 rfl (Z.free 61) (pa_cons pe_int (pa_cons (pe_op op_add (pe_fld (pv 0) rfl) pe_int) pa_nil))) (blkOk_by (own := [("node", 1)]) (N := ["links", "node"]) (sc := defScope (top 33)) (by decide +kernel)) (fun _ _ _ _ _ => pg_name (i := 1) sc_due_nodes.nd rfl (Or.inl rfl)) (fun _ _ _ _ _ => pts_one (by exact (pt_val (pc (ok_is_due Z) hr (pa_cons (pv 0) (pa_cons (pv 1) pa_nil)))))) (fun _ _ _ _ _ => (by exact (pv 1)))))), ?_⟩
    refine ⟨_, rfl, _, _, _, _, _, rfl, L.ob, Z.cL, Z.nSize, lfs_size _ _, _, _, rfl, rfl, _, _, rfl, ⟨by omega, by omega, by omega, by omega⟩, fun D hD => ?_⟩
    refine lc_range (lo := 1) (n := ((S.n : Int) + 1 - 1).toNat) (fun i H' => Same H H' ∧ H' D = some (.lst (given i (fun v => due S (v + 1)) fun v => .int ((v + 1 : Nat) : Int)))) ⟨Same.up hD, upd_same⟩ ?_ ?_
    · rintro i H' hi ⟨s1, e1⟩
      refine ⟨rfl, _, rfl, _, rfl, a, S, _, i + 1, rfl, by omega, L.same s1, by omega, by omega, _, rfl, iteB (fun c => ?_) (fun c => ?_)⟩
      · refine ⟨_, rfl, _, e1, szlt (by have := given_len i (fun v => due S (v + 1)) (fun v => V.int ((v + 1 : Nat) : Int)); omega), Same.mut s1 hD, ?_⟩
        rw [given_yes (f := fun v => due S (v + 1)) (v := fun v => V.int ((v + 1 : Nat) : Int)) c, show (1 : Int) + (i : Int) = ((i + 1 : Nat) : Int) by omega]
        exact upd_same
      · refine ⟨s1, ?_⟩
        rw [given_no (f := fun v => due S (v + 1)) c]
        exact e1
    · rintro H' ⟨s1, e1⟩
      rw [show ((S.n : Int) + 1 - 1).toNat = S.n by omega] at e1
      refine k D H' hD s1 ?_
      unfold nvs dueL
      rw [nodes_given]
      exact e1
theorem sc_settled_debt : FnScope ["links", "node"] ["links"] (defScope (top 34)) := ⟨rfl, rfl, rfl, by decide +kernel, rfl, by decide +kernel, by decide +kernel⟩
theorem ok_settled_debt (Z : Tx P w K mg base) : Pr P w K mg base 7 "settled_debt" (sp_settled_debt (He.ga K "Links")) := by
  refine Z.pr0 16 16 (d := d_settled_debt) rfl rfl rfl rfl rfl sc_settled_debt (fun vs H Q E h => ?_) (fun _ _ _ _ _ _ us hl => match us, hl with | [_], _ => rfl) (fun f cdv A outer s H vs Q E hr h => ?_)
  · obtain ⟨a, S, rfl, _⟩ := h
    rfl
  · obtain ⟨a, S, rfl, L, hn, k⟩ := h
    refine ⟨_, (pss_cons (ps_if (pt_not (pt_val (pc (ok_is_repairable Z) hr (pa_cons (pv 0) pa_nil)))) (pss_one (ps_ret pe_non)) pss_nil) (pss_one (ps_ret (pe_callB (cr_sum rfl) (by rfl) (Z.free 67) (by decide +kernel) (pa_cons (pe_lc (own := [("node", 1)]) (g := gName 1) rfl sc_settled_debt.nd (pi_list (pc (ok_due_nodes Z) hr (pa_cons (pv 0) pa_nil))) (blkOk_by (own := [("node", 1)]) (N := ["links", "node"]) (sc := defScope (top 34)) (by decide +kernel)) (fun _ _ _ _ _ => pg_name (i := 1) sc_settled_debt.nd rfl (Or.inl rfl)) (fun _ _ _ _ _ => pts_nil) (fun _ _ _ _ _ => (by exact (pc (ok__share Z) hr (pa_cons (pv 0) (pa_cons (pv 1) pa_nil)))))) pa_nil))))), ?_⟩
    refine ⟨_, rfl, a, S, rfl, L, hn, fun H1 s1 => ⟨_, rfl, ?_⟩⟩
    cases c : (lostL S).isEmpty with
    | false =>
      rw [c, if_neg (by decide)] at k
      exact k H1 s1
    | true =>
      rw [c, if_pos rfl] at k
      refine ⟨_, rfl, a, S, rfl, L.same s1, hn, fun p H2 np s2 e2 => ⟨p, rfl, ⟨_, SqL.of e2⟩, fun D hD => ?_⟩⟩
      refine lc_list (K := K) (a := p) (xs := nvs (dueL S)) (fun i H' => Same H2 H' ∧ H' D = some (.lst (((dueL S).take i).map fun v => .int (share S v : Int)))) ⟨Same.up hD, upd_same⟩ (fun i H' _ q => Same.seq q.1 (SqL.of e2)) ?_ ?_
      · rintro i x H' hi ⟨s3, e3⟩
        unfold nvs at hi
        rw [List.getElem?_map] at hi
        obtain ⟨v, hv, rfl⟩ := Option.map_eq_some_iff.mp hi
        have hm := List.mem_filter.mp (List.mem_of_getElem? hv)
        have hb := mem_nodes.mp hm.1
        have hlen : (dueL S).length ≤ S.n := by
          have := List.length_filter_le (due S) (nodes S.n)
          rw [nodes_len] at this
          exact this
        refine ⟨rfl, _, rfl, _, rfl, a, S, _, v, rfl, rfl, ((L.same s1).same s2).same s3, by omega, _, e3, szlt (by rw [List.length_map, List.length_take]; omega), Same.mut s3 hD, ?_⟩
        rw [take_snoc hv, List.map_append]
        exact upd_same
      · rintro H' ⟨s3, e3⟩
        have e4 : ((dueL S).take (nvs (dueL S)).length).map (fun v => V.int (share S v : Int)) = ((dueL S).map fun v => (share S v : Int)).map V.int := by
          unfold nvs
          rw [List.length_map, List.take_length, List.map_map] <;> rfl
        rw [e4] at e3
        refine ⟨_, _, rfl, SqL.of e3, ?_⟩
        have e5 : ∀ l : List Nat, (l.map fun v => (share S v : Int)).sum = (sumL (l.map (share S)) : Int) := by
          intro l
          induction l with
          | nil => rfl
          | cons x r ih => simp only [List.map_cons, List.sum_cons, sumL, ih]; omega
        have e6 : (((dueL S).map fun v => (share S v : Int)).sum) = (debt S : Int) := by
          rw [e5]
          unfold dueL
          rw [debt_sum] <;> rfl
        rw [e6]
        exact k H' (Same.trans (Same.trans s1 s2) s3)
theorem sc_Links_outs : FnScope ["self", "node"] ["self"] (defScope (inClass (top 42) 7)) := ⟨rfl, rfl, rfl, by decide +kernel, rfl, by decide +kernel, by decide +kernel⟩
theorem ok_Links_outs (Z : Tx P w K mg base) : Pm P w K mg base 1 (He.ga K "Links") "outs" (sp_outs (He.ga K "Links")) := by
  refine Z.pm0 22 86 77 (d := d_Links_outs) rfl rfl rfl rfl rfl rfl sc_Links_outs (fun vs H Q E h => ?_) (fun _ _ _ _ _ _ us hl => match us, hl with | [_], _ => rfl) (fun f cdv A outer s H vs Q E hr h => ?_)
  · obtain ⟨a, S, rfl, _⟩ := h
    rfl
  · obtain ⟨a, S, rfl, L, hn, k⟩ := h
    refine ⟨_, (pss_one (ps_ret (pe_lc (own := [("node", 1)]) (g := gName 1) rfl sc_Links_outs.nd (pi_range2 rfl (Z.free 61) (pa_cons pe_int (pa_cons (pe_op op_add (pe_fld (pv 0) rfl) pe_int) pa_nil))) (blkOk_by (own := [("node", 1)]) (N := ["self", "node"]) (sc := defScope (inClass (top 42) 7)) (by decide +kernel)) (fun _ _ _ _ _ => pg_name (i := 1) sc_Links_outs.nd rfl (Or.inl rfl)) (fun _ _ _ _ _ => pts_one (by exact (pt_val (pe_ix (ix_listK (K := K) rfl) (pe_fldK (K := K) rfl (pv 0) rfl) (pv 1) (fun _ _ => rfl))))) (fun _ _ _ _ _ => (by exact (pv 1)))))), ?_⟩
    refine ⟨_, rfl, _, _, _, _, _, rfl, L.ob, Z.cL, Z.nSize, lfs_size _ _, _, _, rfl, rfl, _, _, rfl, ⟨by omega, by omega, by omega, by omega⟩, fun D hD => ?_⟩
    refine lc_range (lo := 1) (n := ((S.n : Int) + 1 - 1).toNat) (fun i H' => Same H H' ∧ H' D = some (.lst (given i (fun v => S.F (v + 1)) fun v => .int ((v + 1 : Nat) : Int)))) ⟨Same.up hD, upd_same⟩ ?_ ?_
    · rintro i H' hi ⟨s1, e1⟩
      refine ⟨rfl, _, rfl, _, _, _, _, _, rfl, (L.same s1).ob, Z.cL, Z.nFlags, lfs_flags _ _, _, rfl, _, _, _, _, rfl, rfl, SqL.of (L.same s1).hf, mk_atI (j := i + 1) _ (by omega) (by omega), _, rfl, iteB (fun c => ?_) (fun c => ?_)⟩
      · refine ⟨_, rfl, _, e1, szlt (by have := given_len i (fun v => S.F (v + 1)) (fun v => V.int ((v + 1 : Nat) : Int)); omega), Same.mut s1 hD, ?_⟩
        rw [given_yes (f := fun v => S.F (v + 1)) (v := fun v => V.int ((v + 1 : Nat) : Int)) c, show (1 : Int) + (i : Int) = ((i + 1 : Nat) : Int) by omega]
        exact upd_same
      · refine ⟨s1, ?_⟩
        rw [given_no (f := fun v => S.F (v + 1)) c]
        exact e1
    · rintro H' ⟨s1, e1⟩
      rw [show ((S.n : Int) + 1 - 1).toNat = S.n by omega] at e1
      refine k D H' hD s1 ?_
      unfold nvs outs
      rw [nodes_given]
      exact e1
theorem sc_Links_operation_on : FnScope ["self", "node"] ["self", "node"] (defScope (inClass (top 42) 8)) := ⟨rfl, rfl, rfl, by decide +kernel, rfl, by decide +kernel, by decide +kernel⟩
theorem ok_Links_operation_on (Z : Tx P w K mg base) : Pm P w K mg base 1 (He.ga K "Links") "operation_on" (sp_operation_on (He.ga K "Links")) := by
  refine Z.pm0 23 87 77 (d := d_Links_operation_on) rfl rfl rfl rfl rfl rfl sc_Links_operation_on (fun vs H Q E h => ?_) (fun _ _ _ _ _ _ us hl => match us, hl with | [_, _], _ => rfl) (fun f cdv A outer s H vs Q E hr h => ?_)
  · obtain ⟨a, S, i, v, rfl, _⟩ := h
    rfl
  · obtain ⟨a, S, i, v, rfl, rfl, L, h2, k⟩ := h
    refine ⟨_, (pss_one (ps_ret (pe_ifExp (pt_val (pe_ix ix_list (pe_fld (pv 0) rfl) (pv 1) (fun _ _ => rfl))) (pv 1) (pe_un un_neg (pv 1))))), ?_⟩
    unfold opOn at k
    refine ⟨_, rfl, _, _, _, _, _, rfl, L.ob, Z.cL, Z.nFlags, lfs_flags _ _, _, rfl, _, _, _, _, rfl, rfl, SqL.of L.hf, mk_atI _ rfl (by omega), _, rfl, iteB (fun c => ?_) (fun c => ?_)⟩
    · rw [if_pos c] at k
      exact ⟨_, rfl, k⟩
    · rw [c, if_neg (by decide)] at k
      exact ⟨_, rfl, _, rfl, k⟩
end
end LL
namespace LL
open PySem PySem.Spec PyProof.Rows L2
open Evl (given given_yes given_no given_len)
/-! ### operations: checks, application -/
theorem abs_int (o : Int) : (if o < 0 then -o else o) = (o.natAbs : Int) := by
  split <;> omega
theorem vr_put {S : Sd} (w : WF S) {x : Nat} (h1 : 1 ≤ x) (h2 : x ≤ S.n) : vr (put S x) = (vr S).set (S.L x) (.int ((if S.F x = true then x else S.R x : Nat) : Int)) := by
  unfold vr
  rw [mk_set]
  refine mk_congr fun i hi => ?_
  show V.int ((updN S.R (S.L x) (if S.F x = true then x else S.R x) i : Nat) : Int) = updN (fun i => V.int (S.R i : Int)) (S.L x) _ i
  unfold updN
  split <;> rfl
theorem vl_put {S : Sd} (w : WF S) {x : Nat} (h1 : 1 ≤ x) (h2 : x ≤ S.n) : vl (put S x) = (vl S).set (S.R x) (.int ((if S.F x = true then x else S.L x : Nat) : Int)) := by
  have hr := rx w h1 h2
  unfold vl
  rw [mk_set]
  refine mk_congr fun i hi => ?_
  show V.int (if i = 0 then -1 else ((updN S.L (S.R x) (if S.F x = true then x else S.L x) i : Nat) : Int)) = updN (fun i => V.int (if i = 0 then -1 else (S.L i : Int))) (S.R x) _ i
  unfold updN
  by_cases e : i = S.R x
  · rw [if_pos e, if_pos e, if_neg (by omega)]
  · rw [if_neg e, if_neg e]
theorem vf_put {S : Sd} {x : Nat} : vf (put S x) = (vf S).set x (.bl (!S.F x)) := by
  unfold vf
  rw [mk_set]
  refine mk_congr fun i hi => ?_
  show V.bl (updN S.F x (!S.F x) i) = updN (fun i => V.bl (S.F i)) x _ i
  unfold updN
  split <;> rfl
/-- the class of an operation that cannot be done -/
def BadC (K : PySem.W.Frag) (C : Addr) : Prop := C = He.ga K "BadOperation" ∨ C = He.ga K "Illegal"
def sp_check_operation (K : PySem.W.Frag) : Sp := fun vs H Q E => ∃ n o i : Int, vs = [.int n, .int o, .int i] ∧ (o ≠ 0 ∧ (o.natAbs : Int) ≤ n → Q .non H) ∧
  (¬ (o ≠ 0 ∧ (o.natAbs : Int) ≤ n) → ∀ d, H d = none → E (.ref (He.ga K "BadOperation")) (some d) (upd H d (.xd [("index", .int i), ("operation", .int o)])))
def sp_apply_at (K : PySem.W.Frag) (C : Addr) : Sp := fun vs H Q E => ∃ (a : LA) (S : Sd) (o i : Int), vs = [.ref a.p, .int o, .int i] ∧ LinksAt C H a S ∧ WF S ∧ S.n ≤ 60 ∧
  (okop S o = true → ∀ H', LinksAt C H' a (put S o.natAbs) → Keep a H H' → Q .non H') ∧ (okop S o = false → ∀ (B d : Addr) (H' : Hp), BadC K B → Same H H' → E (.ref B) (some d) H')
def sp_apply (C : Addr) : Sp := fun vs H Q _ => ∃ (a : LA) (S : Sd) (o : Int), vs = [.ref a.p, .int o] ∧ LinksAt C H a S ∧ WF S ∧ S.n ≤ 60 ∧ okop S o = true ∧ ∀ H', LinksAt C H' a (put S o.natAbs) → Keep a H H' → Q .non H'
section
variable {P : Program} {w : World} {K : PySem.W.Frag} {mg : Str → Option Value} {base : Heap}
theorem sc_check_operation : FnScope ["size", "operation", "index"] ["size", "operation", "index"] (defScope (top 16)) := ⟨rfl, rfl, rfl, by decide +kernel, rfl, by decide +kernel, by decide +kernel⟩
theorem ok_check_operation (Z : Tx P w K mg base) : Pr P w K mg base 3 "check_operation" (sp_check_operation K) := by
  refine Z.prX 1 1 (d := d_check_operation) rfl rfl rfl rfl rfl sc_check_operation (fun vs H Q E h => ?_) (fun _ _ _ _ _ _ us hl => match us, hl with | [_, _, _], _ => rfl) (fun f cdv A outer s H vs Q E hr h => ?_)
  · obtain ⟨n, o, i, rfl, _⟩ := h
    rfl
  · obtain ⟨n, o, i, rfl, k1, k2⟩ := h
    refine ⟨_, (pss_one (ps_if (PW.pt (pw_or (pt_cmpR op_eq (pv 1) pe_int (nomark _)) (pw_or1 (pt_cmpR op_gt (pe_callB call_abs (by rfl) (Z.free 62) (by decide +kernel) (pa_cons (pv 1) pa_nil)) (pv 0) (nomark _))))) (pss_one (ps_raise rfl (takes_of rfl rfl rfl rfl) (pmk_BadOperation Z hr (pa_cons (pv 1) (pa_cons (pv 2) pa_nil))))) pss_nil)), ?_⟩
    refine ⟨_, rfl, rfl, _, rfl, iteB (fun c => ?_) (fun c => ?_)⟩
    · have e : o = 0 := by
        have := of_decide_eq_true c
        injection this
      exact ⟨_, rfl, _, rfl, _, _, rfl, fun d hd => k2 (fun z => z.1 e) d hd⟩
    · have e : ¬ o = 0 := fun z => by
        rw [z] at c
        exact absurd c (by decide)
      refine ⟨_, rfl, _, rfl, _, rfl, _, _, rfl, rfl, _, rfl, iteB (fun c2 => ?_) (fun c2 => ?_)⟩
      · have c3 := of_decide_eq_true c2
        rw [abs_int] at c3
        exact ⟨_, rfl, _, rfl, _, _, rfl, fun d hd => k2 (fun z => by omega) d hd⟩
      · have c3 := of_decide_eq_false c2
        rw [abs_int] at c3
        exact k1 ⟨e, by omega⟩
theorem sc_Links_apply_at : FnScope ["self", "operation", "index", "node", "is_unlink", "low", "high"] ["self", "operation", "index"] (defScope (inClass (top 42) 10)) := ⟨rfl, rfl, rfl, by decide +kernel, rfl, by decide +kernel, by decide +kernel⟩
theorem ok_Links_apply_at (Z : Tx P w K mg base) : Pm P w K mg base 4 (He.ga K "Links") "apply_at" (sp_apply_at K (He.ga K "Links")) := by
  refine Z.pmX 25 89 77 (d := d_Links_apply_at) rfl rfl rfl rfl rfl rfl sc_Links_apply_at (fun vs H Q E h => ?_) (fun _ _ _ _ _ _ us hl => match us, hl with | [_, _, _], _ => rfl) (fun f cdv A outer s H vs Q E hr h => ?_)
  · obtain ⟨a, S, o, i, rfl, _⟩ := h
    rfl
  · obtain ⟨a, S, o, i, rfl, L, wf, hn, k1, k2⟩ := h
    refine ⟨_, (pss_cons (ps_expr (pcX (ok_check_operation Z) hr (takes_of rfl rfl rfl rfl) (fun _ _ _ _ h => h) (pa_cons (pe_fld (pv 0) rfl) (pa_cons (pv 1) (pa_cons (pv 2) pa_nil))))) (pss_cons (ps_set (i := 3) sc_Links_apply_at.nd rfl (Or.inl rfl) (pe_callB call_abs (by rfl) (Z.free 62) (by decide +kernel) (pa_cons (pv 1) pa_nil))) (pss_cons (ps_set (i := 4) sc_Links_apply_at.nd rfl (Or.inl rfl) (pe_cmpR op_lt (pv 1) pe_int (nomark _))) (pss_cons (ps_if (pt_cmpR op_eq (pe_ix ix_list (pe_fld (pv 0) rfl) (pv 3) (fun _ _ => rfl)) (pv 4) (nomark _)) (pss_one (ps_raise rfl (takes_of rfl rfl rfl rfl) (pmk_Illegal Z hr (pa_cons (pv 1) (pa_cons (pv 2) pa_nil))))) pss_nil) (pss_cons (ps_set (i := 5) sc_Links_apply_at.nd rfl (Or.inl rfl) (pe_ix ix_list (pe_fld (pv 0) rfl) (pv 3) (fun _ _ => rfl))) (pss_cons (ps_set (i := 6) sc_Links_apply_at.nd rfl (Or.inl rfl) (pe_ix ix_list (pe_fld (pv 0) rfl) (pv 3) (fun _ _ => rfl))) (pss_cons (ps_asg (pe_ifExp (pt_val (pv 4)) (pv 6) (pv 3)) (pg_sub (pe_fld (pv 0) rfl) (pv 5) set_list)) (pss_cons (ps_asg (pe_ifExp (pt_val (pv 4)) (pv 5) (pv 3)) (pg_sub (pe_fld (pv 0) rfl) (pv 6) set_list)) (pss_one (ps_asg (pv 4) (pg_sub (pe_fld (pv 0) rfl) (pv 3) set_list))))))))))), ?_⟩
    refine ⟨_, rfl, _, _, _, _, _, rfl, L.ob, Z.cL, Z.nSize, lfs_size _ _, _, rfl, _, rfl, _, _, _, rfl, fun c => ?_, fun c => ?_⟩
    rotate_left
    · refine fun d hd => k2 ?_ _ d _ (Or.inl rfl) (Same.up hd)
      cases e : okop S o with
      | false => rfl
      | true =>
        have z := okop_iff.mp e
        exact absurd ⟨z.1, by omega⟩ c
    have x1 : 1 ≤ o.natAbs := by omega
    have x2 : o.natAbs ≤ S.n := by omega
    have hl := lx wf x1 x2
    have hr := rx wf x1 x2
    have hr2 := rx2 wf x1 x2
    have pl : a.p ≠ a.l := ne_of L.ob L.hl (by intro z; cases z)
    have pr : a.p ≠ a.r := ne_of L.ob L.hr (by intro z; cases z)
    have pf : a.p ≠ a.f := ne_of L.ob L.hf (by intro z; cases z)
    refine ⟨_, rfl, _, rfl, ?_⟩
    refine ⟨_, rfl, _, _, rfl, rfl, ?_⟩
    refine ⟨_, rfl, _, _, _, _, _, rfl, L.ob, Z.cL, Z.nFlags, lfs_flags _ _, _, rfl, _, _, _, _, rfl, rfl, SqL.of L.hf, mk_atI _ (abs_int o) (by omega), _, rfl, rfl, _, rfl, iteB (fun c2 => ?_) (fun c2 => ?_)⟩
    · have c3 : S.F o.natAbs = decide (o < 0) := by
        have := of_decide_eq_true c2
        injection this
      have c4 : okop S o = false := by
        cases e : okop S o with
        | false => rfl
        | true =>
          have z := (okop_iff.mp e).2.2
          rw [c3] at z
          by_cases q : o < 0
          · rw [decide_eq_true q, decide_eq_false (by omega)] at z
            cases z
          · rw [decide_eq_false q, decide_eq_true (by omega)] at z
            cases z
      exact ⟨_, rfl, _, rfl, _, _, rfl, fun d hd => k2 c4 _ d _ (Or.inr rfl) (Same.up hd)⟩
    · have c3 : ¬ S.F o.natAbs = decide (o < 0) := fun z => by
        rw [z] at c2
        exact absurd c2 (by simp)
      have c4 : decide (o < 0) = !S.F o.natAbs := by
        cases e : S.F o.natAbs <;> cases q : decide (o < 0) <;> simp_all
      have c5 : okop S o = true := by
        refine okop_iff.mpr ⟨c.1, x2, ?_⟩
        by_cases q : o < 0
        · rw [decide_eq_true q] at c4
          rw [decide_eq_false (by omega)]
          cases e : S.F o.natAbs with
          | false => rfl
          | true => rw [e] at c4; cases c4
        · rw [decide_eq_false q] at c4
          rw [decide_eq_true (by omega)]
          cases e : S.F o.natAbs with
          | true => rfl
          | false => rw [e] at c4; cases c4
      have eX : (if o < 0 then -o else o) = (o.natAbs : Int) := abs_int o
      -- low, high
      refine ⟨_, rfl, _, _, _, _, _, rfl, L.ob, Z.cL, Z.nLefts, lfs_lefts _ _, _, rfl, _, _, _, _, rfl, rfl, SqL.of L.hl, mk_atI _ eX (by omega), ?_⟩
      refine ⟨_, rfl, _, _, _, _, _, rfl, L.ob, Z.cL, Z.nRights, lfs_rights _ _, _, rfl, _, _, _, _, rfl, rfl, SqL.of L.hr, mk_atI _ eX (by omega), ?_⟩
      -- the right link of low, the left link of high, the flag
      have H1 : ∀ v : V, v = .int ((if S.F o.natAbs = true then o.natAbs else S.R o.natAbs : Nat) : Int) → ∀ u : V, u = .int ((if S.F o.natAbs = true then o.natAbs else S.L o.natAbs : Nat) : Int) → ∀ b : V, b = .bl (!S.F o.natAbs) →
          Q .non (upd (upd (upd H a.r (.lst ((vr S).set (S.L o.natAbs) v))) a.l (.lst ((vl S).set (S.R o.natAbs) u))) a.f (.lst ((vf S).set o.natAbs b))) := by
        rintro v rfl u rfl b rfl
        rw [← vr_put wf x1 x2, ← vl_put wf x1 x2, ← vf_put]
        refine k1 c5 _ ⟨?_, ?_, ?_, ?_, L.lr, L.lf, L.rf⟩ fun b o' e h1 h2 h3 => ?_
        · rw [upd_ne pf, upd_ne pl, upd_ne pr]
          exact L.ob
        · rw [upd_ne L.lf, upd_same]
        · rw [upd_ne L.rf, upd_ne (Ne.symm L.lr), upd_same]
        · exact upd_same
        · rw [upd_ne h3, upd_ne h1, upd_ne h2]
          exact e
      have eL : lz S o.natAbs = (S.L o.natAbs : Int) := lz_pos x1
      have obR : ∀ z, upd H a.r z a.p = some (.ins (He.ga K "Links") a.dx (lfs S.n a)) := fun z => by rw [upd_ne pr]; exact L.ob
      have hlR : ∀ z, upd H a.r z a.l = some (.lst (vl S)) := fun z => by rw [upd_ne L.lr]; exact L.hl
      have obL : ∀ z y, upd (upd H a.r z) a.l y a.p = some (.ins (He.ga K "Links") a.dx (lfs S.n a)) := fun z y => by rw [upd_ne pl]; exact obR z
      have hfL : ∀ z y, upd (upd H a.r z) a.l y a.f = some (.lst (vf S)) := fun z y => by rw [upd_ne (Ne.symm L.lf), upd_ne (Ne.symm L.rf)]; exact L.hf
      cases eF : S.F o.natAbs with
      | true =>
        rw [eF] at c4
        refine ⟨_, rfl, _, rfl, iteN c4 ?_⟩
        refine ⟨_, rfl, _, rfl, _, _, _, _, _, rfl, L.ob, Z.cL, Z.nRights, lfs_rights _ _, _, rfl, _, _, _, _, rfl, rfl, L.hr, mk_ixN _ eL (by omega), ?_⟩
        refine ⟨_, rfl, _, rfl, iteN c4 ?_⟩
        refine ⟨_, rfl, _, rfl, _, _, _, _, _, rfl, obR _, Z.cL, Z.nLefts, lfs_lefts _ _, _, rfl, _, _, _, _, rfl, rfl, hlR _, mk_ixN _ rfl (by omega), ?_⟩
        refine ⟨_, rfl, _, rfl, _, _, _, _, _, rfl, obL _ _, Z.cL, Z.nFlags, lfs_flags _ _, _, rfl, _, _, _, _, rfl, rfl, hfL _ _, mk_ixN _ eX (by omega), ?_⟩
        exact H1 _ (by rw [eF, if_pos rfl, eX]) _ (by rw [eF, if_pos rfl, eX]) _ (by rw [eF]; exact congrArg V.bl c4)
      | false =>
        rw [eF] at c4
        refine ⟨_, rfl, _, rfl, iteK c4 ?_⟩
        refine ⟨_, rfl, _, rfl, _, _, _, _, _, rfl, L.ob, Z.cL, Z.nRights, lfs_rights _ _, _, rfl, _, _, _, _, rfl, rfl, L.hr, mk_ixN _ eL (by omega), ?_⟩
        refine ⟨_, rfl, _, rfl, iteK c4 ?_⟩
        refine ⟨_, rfl, _, rfl, _, _, _, _, _, rfl, obR _, Z.cL, Z.nLefts, lfs_lefts _ _, _, rfl, _, _, _, _, rfl, rfl, hlR _, mk_ixN _ rfl (by omega), ?_⟩
        refine ⟨_, rfl, _, rfl, _, _, _, _, _, rfl, obL _ _, Z.cL, Z.nFlags, lfs_flags _ _, _, rfl, _, _, _, _, rfl, rfl, hfL _ _, mk_ixN _ eX (by omega), ?_⟩
        exact H1 _ (by rw [eF, if_neg (by decide)]) _ (by rw [eF, if_neg (by decide), eL]) _ (by rw [eF]; exact congrArg V.bl c4)
theorem sc_Links_apply : FnScope ["self", "operation"] ["self", "operation"] (defScope (inClass (top 42) 9)) := ⟨rfl, rfl, rfl, by decide +kernel, rfl, by decide +kernel, by decide +kernel⟩
theorem ok_Links_apply (Z : Tx P w K mg base) : Pm P w K mg base 5 (He.ga K "Links") "apply" (sp_apply (He.ga K "Links")) := by
  refine Z.pm0 24 88 77 (d := d_Links_apply) rfl rfl rfl rfl rfl rfl sc_Links_apply (fun vs H Q E h => ?_) (fun _ _ _ _ _ _ us hl => match us, hl with | [_, _], _ => rfl) (fun f cdv A outer s H vs Q E hr h => ?_)
  · obtain ⟨a, S, o, rfl, _⟩ := h
    rfl
  · obtain ⟨a, S, o, rfl, L, wf, hn, ho, k⟩ := h
    refine ⟨_, (pss_one (ps_expr (pm (ok_Links_apply_at Z) hr (pv 0) (pa_cons (pv 1) (pa_cons pe_int pa_nil))))), ?_⟩
    exact ⟨_, rfl, _, _, _, rfl, L.ob, rfl, _, rfl, a, S, o, 0, rfl, L, wf, hn, fun _ H' L' e => k H' L' e, fun z => by rw [ho] at z; cases z⟩
end
end LL
namespace LL
open PySem PySem.Spec PyProof.Rows L2
open Evl (given given_yes given_no given_len)
/-! ### a new standing: made, copied, led on by a log -/
theorem vl_fresh (n : Nat) : rgV (-1) ((n : Int) + 1) = vl (fresh n) := by
  unfold rgV vl mk
  rw [show ((n : Int) + 1 - (-1)).toNat = (fresh n).n + 2 by show _ = n + 2; omega]
  refine List.map_congr_left fun i _ => ?_
  show V.int (-1 + (i : Int)) = V.int (if i = 0 then -1 else ((i - 1 : Nat) : Int))
  by_cases e : i = 0
  · rw [if_pos e, e] <;> rfl
  · rw [if_neg e, show -1 + (i : Int) = ((i - 1 : Nat) : Int) by omega]
theorem vr_fresh (n : Nat) : rgV 1 ((n : Int) + 3) = vr (fresh n) := by
  unfold rgV vr mk
  rw [show ((n : Int) + 3 - 1).toNat = (fresh n).n + 2 by show _ = n + 2; omega]
  refine List.map_congr_left fun i _ => ?_
  show V.int (1 + (i : Int)) = V.int ((i + 1 : Nat) : Int)
  rw [show 1 + (i : Int) = ((i + 1 : Nat) : Int) by omega]
theorem rep_mk (k : Nat) (v : V) : (List.replicate k [v]).flatten = mk k fun _ => v := by
  induction k with
  | zero => rfl
  | succ k ih =>
    rw [mk_snoc, ← ih, List.replicate_succ', List.flatten_append] <;> rfl
theorem vf_fresh (n : Nat) : (List.replicate ((n : Int) + 2).toNat [V.bl false]).flatten = vf (fresh n) := by
  rw [rep_mk]
  unfold vf
  rw [show ((n : Int) + 2).toNat = (fresh n).n + 2 by show _ = n + 2; omega] <;> rfl
/-- a standing that H does not know comes back -/
def RetLk (C : Addr) (S : Sd) (H : Hp) (Q : VK) : Prop := ∀ (a : LA) (H' : Hp), LinksAt C H' a S → Same H H' → H a.p = none → H a.l = none → H a.r = none → H a.f = none → Q (.ref a.p) H'
def sp_init (C : Addr) : Sp := fun vs H Q _ => ∃ (p dx : Addr) (n : Nat), vs = [.ref p, .int (n : Int)] ∧ H p = some (.ins C dx []) ∧ n ≤ 60 ∧
  ∀ (a : LA) (H' : Hp), a.p = p → a.dx = dx → LinksAt C H' a (fresh n) → (∀ b o, H b = some o → b ≠ p → H' b = some o) → H a.l = none → H a.r = none → H a.f = none → Q .non H'
def sp_built (C : Addr) : Sp := fun vs H Q _ => ∃ (S : Sd) (l r f : Addr), vs = [.int (S.n : Int), .ref l, .ref r, .ref f] ∧ H l = some (.lst (vl S)) ∧ H r = some (.lst (vr S)) ∧ H f = some (.lst (vf S)) ∧ S.n ≤ 60 ∧ RetLk C S H Q
def sp_copy (C : Addr) : Sp := fun vs H Q _ => ∃ (a : LA) (S : Sd), vs = [.ref a.p] ∧ LinksAt C H a S ∧ S.n ≤ 60 ∧ RetLk C S H Q
def sp_replay (K : PySem.W.Frag) (C : Addr) : Sp := fun vs H Q _ => ∃ (n : Nat) (p : Addr) (row : List Int), vs = [.int (n : Int), .ref p] ∧ SqL K H p (row.map V.int) ∧ legal (fresh n) row = true ∧ n ≤ 60 ∧ RetLk C (after (fresh n) row) H Q
def sp_play (K : PySem.W.Frag) (C : Addr) : Sp := fun vs H Q E => ∃ (a : LA) (S : Sd) (p : Addr) (row : List Int), vs = [.ref a.p, .ref p] ∧ LinksAt C H a S ∧ WF S ∧ S.n ≤ 60 ∧ SqL K H p (row.map V.int) ∧ (legal S row = true → RetLk C (after S row) H Q) ∧
  (legal S row = false → ∀ (B d : Addr) (H' : Hp), BadC K B → Same H H' → E (.ref B) (some d) H')
section
variable {P : Program} {w : World} {K : PySem.W.Frag} {mg : Str → Option Value} {base : Heap}
theorem sc_Links___init__ : FnScope ["self", "size"] ["self", "size"] (defScope (inClass (top 42) 1)) := ⟨rfl, rfl, rfl, by decide +kernel, rfl, by decide +kernel, by decide +kernel⟩
theorem ok_Links___init__ (Z : Tx P w K mg base) : Pi P w K mg base 2 "Links" (He.ga K "Links") (sp_init (He.ga K "Links")) := by
  refine Z.pi0 18 78 58 (d := d_Links___init__) rfl rfl rfl rfl rfl rfl sc_Links___init__ (fun vs H Q E h => ?_) (fun _ _ _ _ _ _ us hl => match us, hl with | [_, _], _ => rfl) (fun f cdv A outer s H vs Q E hr h => ?_)
  · obtain ⟨p, dx, n, rfl, _⟩ := h
    rfl
  · obtain ⟨p, dx, n, rfl, hp, hn, k⟩ := h
    refine ⟨_, (pss_cons (ps_expr (pc (ok_check_size Z) hr (pa_cons (pv 1) pa_nil))) (pss_cons (ps_fld (pv 0) (pv 1) rfl) (pss_cons (ps_fld (pv 0) (pe_listRg rfl rfl (Z.free 63) (prg_2 rfl (Z.free 61) (pe_un un_neg pe_int) (pe_op op_add (pv 1) pe_int))) rfl) (pss_cons (ps_fld (pv 0) (pe_listRg rfl rfl (Z.free 63) (prg_2 rfl (Z.free 61) pe_int (pe_op op_add (pv 1) pe_int))) rfl) (pss_one (ps_fld (pv 0) (pe_op op_rep (pe_lst (pa_cons pe_bl pa_nil)) (pe_op op_add (pv 1) pe_int)) rfl)))))), ?_⟩
    refine ⟨_, rfl, _, rfl, by omega, by omega, ?_⟩
    refine ⟨_, rfl, _, rfl, p, _, dx, _, rfl, hp, Z.cL, Z.nSize, (by show 0 < 1000; decide), ?_⟩
    -- the left links
    refine ⟨_, rfl, _, rfl, _, _, rfl, rfl, _, _, rfl, rfl, ⟨by decide, by decide, by omega, by omega, by omega⟩, fun l nl => ?_⟩
    have lp : l ≠ p := upd_away nl
    refine ⟨_, rfl, p, _, dx, _, rfl, (by rw [upd_ne (Ne.symm lp)]; exact upd_same), Z.cL, Z.nLefts, (by show 1 < 1000; decide), ?_⟩
    -- the right links
    refine ⟨_, rfl, _, _, rfl, rfl, _, _, rfl, rfl, ⟨by decide, by decide, by omega, by omega, by omega⟩, fun r nr => ?_⟩
    have rp : r ≠ p := upd_away nr
    have rl : r ≠ l := upd_away (upd_free nr)
    refine ⟨_, rfl, p, _, dx, _, rfl, (by rw [upd_ne (Ne.symm rp)]; exact upd_same), Z.cL, Z.nRights, (by show 2 < 1000; decide), ?_⟩
    -- the flags
    refine ⟨(by show 1 ≤ sizeLine; decide), fun q nq => ?_⟩
    have qp : q ≠ p := upd_away nq
    have qr : q ≠ r := upd_away (upd_free nq)
    have ql : q ≠ l := upd_away (upd_free (upd_free (upd_free nq)))
    refine ⟨_, rfl, _, _, rfl, rfl, _, _, _, rfl, rfl, upd_same, by omega, by omega, sz60 (by show 1 * _ ≤ _; omega), fun f nf => ?_⟩
    have fq : f ≠ q := upd_away nf
    have nf1 := upd_free nf
    have fp : f ≠ p := upd_away nf1
    have fr : f ≠ r := upd_away (upd_free nf1)
    have fl : f ≠ l := upd_away (upd_free (upd_free (upd_free nf1)))
    refine ⟨_, rfl, p, _, dx, _, rfl, (by rw [upd_ne (Ne.symm fp), upd_ne (Ne.symm qp)]; exact upd_same), Z.cL, Z.nFlags, (by show 3 < 1000; decide), ?_⟩
    refine k ⟨p, dx, l, r, f⟩ _ rfl rfl ⟨upd_same, ?_, ?_, ?_, Ne.symm rl, Ne.symm fl, Ne.symm fr⟩ (fun b o e hb => ?_) (upd_free nl) (upd_free (upd_free (upd_free nr))) (upd_free (upd_free (upd_free (upd_free (upd_free nf1)))))
    · show upd _ p _ l = _
      rw [upd_ne lp, upd_ne (Ne.symm fl), upd_ne (Ne.symm ql), upd_ne lp, upd_ne (Ne.symm rl), upd_ne lp, upd_same, vl_fresh]
    · show upd _ p _ r = _
      rw [upd_ne rp, upd_ne (Ne.symm fr), upd_ne (Ne.symm qr), upd_ne rp, upd_same, vr_fresh]
    · show upd _ p _ f = _
      rw [upd_ne fp, upd_same, vf_fresh]
    · have nl0 := upd_free nl
      have nr0 := upd_free (upd_free (upd_free nr))
      have nq0 := upd_free (upd_free (upd_free (upd_free (upd_free nq))))
      have nf0 := upd_free (upd_free (upd_free (upd_free (upd_free nf1))))
      rw [upd_ne hb, upd_ne (ne_of_none e nf0), upd_ne (ne_of_none e nq0), upd_ne hb, upd_ne (ne_of_none e nr0), upd_ne hb, upd_ne (ne_of_none e nl0), upd_ne hb]
      exact e
theorem RetLk.back {C : Addr} {S : Sd} {H H1 : Hp} {Q : VK} (k : RetLk C S H Q) (e : Same H H1) : RetLk C S H1 Q := fun a H' L s n1 n2 n3 n4 =>
  k a H' L (Same.trans e s) (Same.free e n1) (Same.free e n2) (Same.free e n3) (Same.free e n4)
theorem sc_Links_built : FnScope ["size", "lefts", "rights", "flags", "links"] ["size", "lefts", "rights", "flags"] (defScope (inClass (top 42) 2)) := ⟨rfl, rfl, rfl, by decide +kernel, rfl, by decide +kernel, by decide +kernel⟩
theorem ok_Links_built (Z : Tx P w K mg base) : Pt P w K mg base 4 "Links" "built" (sp_built (He.ga K "Links")) := by
  refine Z.pt0 sc_Links_built (fun vs H Q E h => ?_) (fun f cdv A outer s H vs Q E hr h => ?_)
  · obtain ⟨S, l, r, f, rfl, _⟩ := h
    rfl
  · obtain ⟨S, l, r, f, rfl, hl, hr0, hf, hn, k⟩ := h
    refine ⟨_, (pss_cons (ps_set (i := 4) sc_Links_built.nd rfl (Or.inl rfl) (pmk (ok_Links___init__ Z) hr (pa_cons (pv 0) pa_nil))) (pss_cons (ps_fld (pv 4) (pe_callTy call_list_of (by rfl) (Z.free 63) (by decide +kernel) (pa_cons (pv 1) pa_nil)) rfl) (pss_cons (ps_fld (pv 4) (pe_callTy call_list_of (by rfl) (Z.free 63) (by decide +kernel) (pa_cons (pv 2) pa_nil)) rfl) (pss_cons (ps_fld (pv 4) (pe_callTy call_list_of (by rfl) (Z.free 63) (by decide +kernel) (pa_cons (pv 3) pa_nil)) rfl) (pss_one (ps_ret (pv 4))))))), ?_⟩
    refine ⟨_, rfl, fun x dx nx ndx ne => ?_⟩
    refine ⟨x, dx, S.n, rfl, upd_same, hn, fun a H1 ea ed L kp n1 n2 n3 => ⟨rfl, ?_⟩⟩
    subst ea
    subst ed
    have s0 : Same H H1 := fun b o e => kp b o (by rw [upd_ne (ne_of_none e nx), upd_ne (ne_of_none e ndx)]; exact e) (ne_of_none e nx)
    have pl : a.p ≠ a.l := ne_of L.ob L.hl (by intro z; cases z)
    have pr : a.p ≠ a.r := ne_of L.ob L.hr (by intro z; cases z)
    have pf : a.p ≠ a.f := ne_of L.ob L.hf (by intro z; cases z)
    have hob := L.ob
    -- links._lefts = list(lefts)
    refine ⟨_, rfl, _, _, rfl, Or.inl (SqL.of (s0 _ _ hl)), fun l' nl => ?_⟩
    have ap1 : a.p ≠ l' := ne_of_none hob nl
    refine ⟨_, rfl, a.p, _, a.dx, _, rfl, (by rw [upd_ne ap1]; exact hob), Z.cL, Z.nLefts, (by show 4 < 1000; decide), ?_⟩
    have s1 : Same H (upd (upd H1 l' (.lst (vl S))) a.p (.ins (He.ga K "Links") a.dx (putF "_lefts" (.ref l') (lfs S.n a)))) := Same.mut (Same.trans s0 (Same.up nl)) nx
    -- links._rights = list(rights)
    refine ⟨_, rfl, _, _, rfl, Or.inl (SqL.of (s1 _ _ hr0)), fun r' nr => ?_⟩
    have ap2 : r' ≠ a.p := upd_away nr
    have rl : r' ≠ l' := upd_away (upd_free nr)
    refine ⟨_, rfl, a.p, _, a.dx, _, rfl, (by rw [upd_ne (Ne.symm ap2)]; exact upd_same), Z.cL, Z.nRights, (by show 4 < 1000; decide), ?_⟩
    have s2 := Same.mut (o := .ins (He.ga K "Links") a.dx (putF "_rights" (.ref r') (putF "_lefts" (.ref l') (lfs S.n a)))) (Same.trans s1 (Same.up (o := .lst (vr S)) nr)) nx
    -- links._flags = list(flags)
    refine ⟨_, rfl, _, _, rfl, Or.inl (SqL.of (s2 _ _ hf)), fun f' nf => ?_⟩
    have ap3 : f' ≠ a.p := upd_away nf
    have fr : f' ≠ r' := upd_away (upd_free nf)
    have fl : f' ≠ l' := upd_away (upd_free (upd_free (upd_free nf)))
    refine ⟨_, rfl, a.p, _, a.dx, _, rfl, (by rw [upd_ne (Ne.symm ap3)]; exact upd_same), Z.cL, Z.nFlags, (by show 4 < 1000; decide), ?_⟩
    have s3 := Same.mut (o := .ins (He.ga K "Links") a.dx (putF "_flags" (.ref f') (putF "_rights" (.ref r') (putF "_lefts" (.ref l') (lfs S.n a))))) (Same.trans s2 (Same.up (o := .lst (vf S)) nf)) nx
    refine ⟨_, rfl, ?_⟩
    have nl1 : H1 l' = none := nl
    have nr1 : H1 r' = none := upd_free (upd_free nr)
    have nf1 : H1 f' = none := upd_free (upd_free (upd_free (upd_free nf)))
    refine k ⟨a.p, a.dx, l', r', f'⟩ _ ⟨upd_same, ?_, ?_, ?_, Ne.symm rl, Ne.symm fl, Ne.symm fr⟩ s3 nx (Same.free s0 nl1) (Same.free s0 nr1) (Same.free s0 nf1)
    · show upd _ a.p _ l' = _
      rw [upd_ne (Ne.symm ap1), upd_ne (Ne.symm fl), upd_ne (Ne.symm ap1), upd_ne (Ne.symm rl), upd_ne (Ne.symm ap1), upd_same]
    · show upd _ a.p _ r' = _
      rw [upd_ne ap2, upd_ne (Ne.symm fr), upd_ne ap2, upd_same]
    · show upd _ a.p _ f' = _
      rw [upd_ne ap3, upd_same]
theorem sc_Links_copy : FnScope ["self"] ["self"] (defScope (inClass (top 42) 15)) := ⟨rfl, rfl, rfl, by decide +kernel, rfl, by decide +kernel, by decide +kernel⟩
theorem ok_Links_copy (Z : Tx P w K mg base) : Pm P w K mg base 5 (He.ga K "Links") "copy" (sp_copy (He.ga K "Links")) := by
  refine Z.pm0 28 92 77 (d := d_Links_copy) rfl rfl rfl rfl rfl rfl sc_Links_copy (fun vs H Q E h => ?_) (fun _ _ _ _ _ _ us hl => match us, hl with | [_], _ => rfl) (fun f cdv A outer s H vs Q E hr h => ?_)
  · obtain ⟨a, S, rfl, _⟩ := h
    rfl
  · obtain ⟨a, S, rfl, L, hn, k⟩ := h
    refine ⟨_, (pss_one (ps_ret (pe_stat (ok_Links_built Z) hr (pa_cons (pe_fld (pv 0) rfl) (pa_cons (pe_fld (pv 0) rfl) (pa_cons (pe_fld (pv 0) rfl) (pa_cons (pe_fld (pv 0) rfl) pa_nil))))))), ?_⟩
    exact ⟨_, rfl, _, _, _, _, _, rfl, L.ob, Z.cL, Z.nSize, lfs_size _ _, _, rfl, _, _, _, _, _, rfl, L.ob, Z.cL, Z.nLefts, lfs_lefts _ _, _, rfl, _, _, _, _, _, rfl, L.ob, Z.cL, Z.nRights, lfs_rights _ _, _, rfl, _, _, _, _, _, rfl, L.ob, Z.cL, Z.nFlags, lfs_flags _ _,
      S, _, _, _, rfl, L.hl, L.hr, L.hf, hn, k⟩
theorem row_at {row : List Int} {i : Nat} {x : V} (h : (row.map V.int)[i]? = some x) : ∃ o, row[i]? = some o ∧ x = .int o := by
  rw [List.getElem?_map] at h
  obtain ⟨o, ho, rfl⟩ := Option.map_eq_some_iff.mp h
  exact ⟨o, ho, rfl⟩
theorem sc_replay : FnScope ["size", "log", "links", "index", "operation"] ["size", "log"] (defScope (top 44)) := ⟨rfl, rfl, rfl, by decide +kernel, rfl, by decide +kernel, by decide +kernel⟩
theorem ok_replay (Z : Tx P w K mg base) : Pr P w K mg base 5 "replay" (sp_replay K (He.ga K "Links")) := by
  refine Z.pr0 32 18 (d := d_replay) rfl rfl rfl rfl rfl sc_replay (fun vs H Q E h => ?_) (fun _ _ _ _ _ _ us hl => match us, hl with | [_, _], _ => rfl) (fun f cdv A outer s H vs Q E hr h => ?_)
  · obtain ⟨n, p, row, rfl, _⟩ := h
    rfl
  · obtain ⟨n, p, row, rfl, hS, hleg, hn, k⟩ := h
    refine ⟨_, (pss_cons (ps_set (i := 2) sc_replay.nd rfl (Or.inl rfl) (pmk (ok_Links___init__ Z) hr (pa_cons (pv 0) pa_nil))) (pss_cons (ps_for PassesOwn.never rfl (pi_enum rfl (Z.free 70) (pa_cons (pv 1) pa_nil)) (pg_tup rfl (pgs_cons (pg_name (i := 3) sc_replay.nd rfl (Or.inl rfl)) (pgs_cons (pg_name (i := 4) sc_replay.nd rfl (Or.inl rfl)) pgs_nil))) (pss_one (ps_expr (pm (ok_Links_apply_at Z) hr (pv 2) (pa_cons (pv 4) (pa_cons (pv 3) pa_nil)))))) (pss_one (ps_ret (pv 2))))), ?_⟩
    refine ⟨_, rfl, fun x dx nx ndx ne => ?_⟩
    refine ⟨x, dx, n, rfl, upd_same, hn, fun a H1 ea ed L kp n1 n2 n3 => ⟨rfl, ?_⟩⟩
    subst ea
    subst ed
    have s0 : Same H H1 := fun b o e => kp b o (by rw [upd_ne (ne_of_none e nx), upd_ne (ne_of_none e ndx)]; exact e) (ne_of_none e nx)
    have f1 : H a.l = none := upd_free (upd_free n1)
    have f2 : H a.r = none := upd_free (upd_free n2)
    have f3 : H a.f = none := upd_free (upd_free n3)
    refine ⟨_, rfl, _, _, rfl, Same.seq s0 hS, for_it (walk_enum (xs := row.map V.int)) (fun i σ H' => ∃ v3 v4 : Option V, σ = [some (.int (n : Int)), some (.ref p), some (.ref a.p), v3, v4] ∧ Same H H' ∧ LinksAt (He.ga K "Links") H' a (after (fresh n) (row.take i)))
      ⟨none, none, rfl, s0, L⟩ (fun i σ H' _ ⟨_, _, _, s1, _⟩ => Same.seq s1 hS) ?_ ?_⟩
    · rintro i x σ H' H2 hi ⟨v3, v4, rfl, s1, L1⟩ ⟨T, x1, x2, rfl, hT, rfl, y1, y2⟩
      cases y1
      obtain ⟨o, ho, rfl⟩ := row_at y2
      have L2' := L1.same (Same.up (o := .tup [.int (i : Nat), .int o]) hT)
      have wf : WF (after (fresh n) (row.take i)) := wf_after (wf_fresh n) (legal_take hleg i)
      have hok := legal_at hleg ho
      refine ⟨T, _, rfl, SqT.of upd_same, rfl, _, _, rfl, _, _, rfl, rfl, ?_⟩
      refine ⟨_, rfl, _, _, _, rfl, L2'.ob, rfl, _, rfl, _, rfl, a, _, o, _, rfl, L2', wf, (by rw [after_n]; exact hn), fun _ H3 L3 kp3 => ?_, fun z => by rw [hok] at z; cases z⟩
      refine ⟨_, _, rfl, Keep.old (Same.new s1 hT) kp3 f1 f2 f3, ?_⟩
      rw [after_take ho]
      exact L3
    · rintro σ H' ⟨v3, v4, rfl, s1, L1⟩
      rw [List.length_map, List.take_length] at L1
      exact ⟨_, rfl, k a H' L1 s1 nx f1 f2 f3⟩
theorem sc_play : FnScope ["links", "log", "moved", "index", "operation"] ["links", "log"] (defScope (top 45)) := ⟨rfl, rfl, rfl, by decide +kernel, rfl, by decide +kernel, by decide +kernel⟩
theorem ok_play (Z : Tx P w K mg base) : Pr P w K mg base 6 "play" (sp_play K (He.ga K "Links")) := by
  refine Z.prX 33 19 (d := d_play) rfl rfl rfl rfl rfl sc_play (fun vs H Q E h => ?_) (fun _ _ _ _ _ _ us hl => match us, hl with | [_, _], _ => rfl) (fun f cdv A outer s H vs Q E hr h => ?_)
  · obtain ⟨a, S, p, row, rfl, _⟩ := h
    rfl
  · obtain ⟨a0, S, p, row, rfl, L0, wf0, hn, hS, k1, k2⟩ := h
    refine ⟨_, (pss_cons (ps_set (i := 2) sc_play.nd rfl (Or.inl rfl) (pm0 (ok_Links_copy Z) hr (pv 0))) (pss_cons (ps_for (passes_of rfl) rfl (pi_enum rfl (Z.free 70) (pa_cons (pv 1) pa_nil)) (pg_tup rfl (pgs_cons (pg_name (i := 3) sc_play.nd rfl (Or.inl rfl)) (pgs_cons (pg_name (i := 4) sc_play.nd rfl (Or.inl rfl)) pgs_nil))) (pss_one (ps_expr (pmX (ok_Links_apply_at Z) hr (takes_of rfl rfl rfl rfl) (fun _ _ _ _ h => h) (pv 2) (pa_cons (pv 4) (pa_cons (pv 3) pa_nil)))))) (pss_one (ps_ret (pv 2))))), ?_⟩
    refine ⟨_, rfl, _, _, _, rfl, L0.ob, rfl, a0, S, rfl, L0, hn, fun a H1 L s0 nx f1 f2 f3 => ?_⟩
    refine ⟨_, rfl, _, _, rfl, Same.seq s0 hS, for_it (walk_enum (xs := row.map V.int)) (fun i σ H' => ∃ v3 v4 : Option V, σ = [some (.ref a0.p), some (.ref p), some (.ref a.p), v3, v4] ∧ Same H H' ∧ legal S (row.take i) = true ∧ LinksAt (He.ga K "Links") H' a (after S (row.take i)))
      ⟨none, none, rfl, s0, rfl, L⟩ (fun i σ H' _ ⟨_, _, _, s1, _⟩ => Same.seq s1 hS) ?_ ?_⟩
    · rintro i x σ H' H2 hi ⟨v3, v4, rfl, s1, hleg, L1⟩ ⟨T, x1, x2, rfl, hT, rfl, y1, y2⟩
      cases y1
      obtain ⟨o, ho, rfl⟩ := row_at y2
      have L2' := L1.same (Same.up (o := .tup [.int (i : Nat), .int o]) hT)
      have wf : WF (after S (row.take i)) := wf_after wf0 hleg
      have hlg : legal S (row.take (i + 1)) = okop (after S (row.take i)) o := by
        rw [take_snoc ho, legal_snoc, hleg, Bool.true_and]
      refine ⟨T, _, rfl, SqT.of upd_same, rfl, _, _, rfl, _, _, rfl, rfl, ?_⟩
      refine ⟨_, rfl, _, _, _, rfl, L2'.ob, rfl, _, rfl, _, rfl, a, _, o, _, rfl, L2', wf, (by rw [after_n]; exact hn), fun z H3 L3 kp3 => ?_, fun z B d H3 hB s3 => ?_⟩
      · refine ⟨_, _, rfl, Keep.old (Same.new s1 hT) kp3 f1 f2 f3, hlg.trans z, ?_⟩
        rw [after_take ho]
        exact L3
      · refine k2 ?_ B d H3 hB (Same.trans (Same.new s1 hT) s3)
        cases e : legal S row with
        | false => rfl
        | true =>
          have e2 := legal_take e (i + 1)
          rw [hlg, z] at e2
          cases e2
    · rintro σ H' ⟨v3, v4, rfl, s1, hleg, L1⟩
      rw [List.length_map, List.take_length] at L1 hleg
      exact ⟨_, rfl, k1 hleg a H' L1 s1 nx f1 f2 f3⟩
end
end LL
namespace LL
open PySem PySem.Spec PyProof.Rows L2
open Evl (given given_yes given_no given_len)
/-! ### what lowers the debt; the first repair -/
def fw (S : Sd) (x : Nat) : List Nat := (if hitL S x = true then [S.L x] else []) ++ (if hitR S x = true then [S.R x - 1] else [])
def chk (S : Sd) (x g : Nat) : Bool := decide (gst S g = .joined) && due S (if g < x then g + 1 else g)
theorem lowers_fw {S : Sd} (w : WF S) {x : Nat} (h1 : 1 ≤ x) (h2 : x ≤ S.n) : lowers S x = (due S x && (fw S x).all (chk S x)) := by
  have hl := lx w h1 h2
  have hr := rx w h1 h2
  unfold lowers fw
  rw [List.all_append]
  congr 1
  congr 1
  · cases e : hitL S x with
    | false => rfl
    | true =>
      have e2 : lh S (S.L x) = true := by
        unfold hitL at e
        rw [Bool.and_eq_true] at e
        exact e.2
      rw [if_pos rfl, List.all_cons, List.all_nil, Bool.and_true]
      unfold chk
      rw [if_pos hl]
      have e3 : decide (gst S (S.L x) = .joined) = rh S (S.L x) := by
        cases q : rh S (S.L x) with
        | true => exact decide_eq_true (gst_joined.mpr ⟨e2, q⟩)
        | false => exact decide_eq_false fun z => by rw [(gst_joined.mp z).2] at q; cases q
      rw [e3]
      rfl
  · cases e : hitR S x with
    | false => rfl
    | true =>
      have e1 : S.R x ≠ x + 1 ∧ rh S (S.R x - 1) = true := by
        unfold hitR at e
        rw [Bool.and_eq_true, decide_eq_true_eq] at e
        exact e
      rw [if_pos rfl, List.all_cons, List.all_nil, Bool.and_true]
      unfold chk
      rw [if_neg (by omega)]
      have e3 : decide (gst S (S.R x - 1) = .joined) = lh S (S.R x - 1) := by
        cases q : lh S (S.R x - 1) with
        | true => exact decide_eq_true (gst_joined.mpr ⟨q, e1.2⟩)
        | false => exact decide_eq_false fun z => by rw [(gst_joined.mp z).1] at q; cases q
      rw [e3]
      rfl
theorem fw_in {S : Sd} (w : WF S) {x : Nat} (h1 : 1 ≤ x) (h2 : x ≤ S.n) {g : Nat} (h : g ∈ fw S x) : g ≤ S.n ∧ 1 ≤ (if g < x then g + 1 else g) ∧ (if g < x then g + 1 else g) ≤ S.n := by
  have hl := lx w h1 h2
  have hr := rx w h1 h2
  have hr2 := rx2 w h1 h2
  unfold fw at h
  rcases List.mem_append.mp h with h | h
  · split at h
    · have e : g = S.L x := by simpa using h
      subst e
      rw [if_pos hl]
      omega
    · cases h
  · split at h
    · have e : g = S.R x - 1 := by simpa using h
      subst e
      split <;> omega
    · cases h
def sp_foreign_writes (C : Addr) : Sp := fun vs H Q _ => ∃ (a : LA) (S : Sd) (i : Int) (x : Nat), vs = [.ref a.p, .int i] ∧ i = opOn S x ∧ LinksAt C H a S ∧ WF S ∧ 1 ≤ x ∧ x ≤ S.n ∧ RetN (nvs (fw S x)) H Q
def sp_lowers (C : Addr) : Sp := fun vs H Q _ => ∃ (a : LA) (S : Sd) (i : Int) (x : Nat), vs = [.ref a.p, .int i] ∧ i = (x : Int) ∧ LinksAt C H a S ∧ WF S ∧ 1 ≤ x ∧ x ≤ S.n ∧ RetS (.bl (lowers S x)) H Q
def sp_first_lowering (C : Addr) : Sp := fun vs H Q _ => ∃ (a : LA) (S : Sd) (p : Addr) (ns : List Nat) (x : Nat), vs = [.ref a.p, .ref p] ∧ LinksAt C H a S ∧ WF S ∧ H p = some (.lst (nvs ns)) ∧ (∀ y ∈ ns, 1 ≤ y ∧ y ≤ S.n) ∧ ns.find? (lowers S) = some x ∧ RetS (.int (opOn S x)) H Q
section
variable {P : Program} {w : World} {K : PySem.W.Frag} {mg : Str → Option Value} {base : Heap}
theorem bne_int {a b : Int} : (!decide (V.int a = V.int b)) = decide (a ≠ b) := by
  by_cases e : a = b
  · subst e
    simp
  · rw [decide_eq_true e, decide_eq_false (fun z => e (by injection z))] <;> rfl
theorem nvs_snoc (l : List Nat) (v : Nat) : nvs l ++ [.int (v : Int)] = nvs (l ++ [v]) := by
  unfold nvs
  rw [List.map_append] <;> rfl
theorem sc_foreign_writes : FnScope ["links", "operation", "node", "left", "right", "gaps"] ["links", "operation"] (defScope (top 27)) := ⟨rfl, rfl, rfl, by decide +kernel, rfl, by decide +kernel, by decide +kernel⟩
theorem ok_foreign_writes (Z : Tx P w K mg base) : Pr P w K mg base 4 "foreign_writes" (sp_foreign_writes (He.ga K "Links")) := by
  refine Z.pr0 10 10 (d := d_foreign_writes) rfl rfl rfl rfl rfl sc_foreign_writes (fun vs H Q E h => ?_) (fun _ _ _ _ _ _ us hl => match us, hl with | [_, _], _ => rfl) (fun f cdv A outer s H vs Q E hr h => ?_)
  · obtain ⟨a, S, i, x, rfl, _⟩ := h
    rfl
  · obtain ⟨a, S, i, x, rfl, rfl, L, wf, h1, h2, k⟩ := h
    refine ⟨_, (pss_cons (ps_expr (pc (ok_check_operation Z) hr (pa_cons (pe_fld (pv 0) rfl) (pa_cons (pv 1) (pa_cons pe_int pa_nil))))) (pss_cons (ps_set (i := 2) sc_foreign_writes.nd rfl (Or.inl rfl) (pe_callB call_abs (by rfl) (Z.free 62) (by decide +kernel) (pa_cons (pv 1) pa_nil))) (pss_cons (ps_if (pt_cmpR op_ne (pm (ok_Links_operation_on Z) hr (pv 0) (pa_cons (pv 2) pa_nil)) (pv 1) (nomark _)) (pss_one ps_never) pss_nil) (pss_cons (ps_set (i := 3) sc_foreign_writes.nd rfl (Or.inl rfl) (pm (ok_Links_left Z) hr (pv 0) (pa_cons (pv 2) pa_nil))) (pss_cons (ps_set (i := 4) sc_foreign_writes.nd rfl (Or.inl rfl) (pm (ok_Links_right Z) hr (pv 0) (pa_cons (pv 2) pa_nil))) (pss_cons (ps_set (i := 5) sc_foreign_writes.nd rfl (Or.inl rfl) (pe_lst pa_nil)) (Evl.pss_cut (ps_if (PW.pt (pw_and (pt_cmpR op_ne (pv 3) (pe_op op_sub (pv 2) pe_int) (nomark _)) (pw_and1 (pt_val (pc (ok_left_holds Z) hr (pa_cons (pv 0) (pa_cons (pv 3) pa_nil))))))) (pss_one (ps_expr (pe_bm PySem.F.plainAttrs_list PySem.F.slot_list_append PySem.F.type_list_append mt_append (pv 5) (pa_cons (pv 3) pa_nil)))) pss_nil) (pss_cons (ps_if (PW.pt (pw_and (pt_cmpR op_ne (pv 4) (pe_op op_add (pv 2) pe_int) (nomark _)) (pw_and1 (pt_val (pc (ok_right_holds Z) hr (pa_cons (pv 0) (pa_cons (pe_op op_sub (pv 4) pe_int) pa_nil))))))) (pss_one (ps_expr (pe_bm PySem.F.plainAttrs_list PySem.F.slot_list_append PySem.F.type_list_append mt_append (pv 5) (pa_cons (pe_op op_sub (pv 4) pe_int) pa_nil)))) pss_nil) (pss_one (ps_ret (pv 5))))))))))), ?_⟩
    have hl := lx wf h1 h2
    have hr' := rx wf h1 h2
    have hr2 := rx2 wf h1 h2
    have hok := okop_iff.mp (okop_opOn (S := S) h1 h2)
    refine ⟨_, rfl, _, _, _, _, _, rfl, L.ob, Z.cL, Z.nSize, lfs_size _ _, _, rfl, _, _, _, rfl, fun _ => ?_, fun z => absurd ⟨hok.1, by omega⟩ z⟩
    have eX : (if opOn S x < 0 then -opOn S x else opOn S x) = (x : Int) := by rw [abs_int, opOn_abs]
    refine ⟨_, rfl, _, rfl, ?_⟩
    refine ⟨_, rfl, _, _, _, rfl, L.ob, rfl, _, rfl, a, S, _, x, rfl, eX, L, h2, _, rfl, rfl, _, rfl, iteN (by simp) ?_⟩
    refine ⟨_, rfl, _, _, _, rfl, L.ob, rfl, _, rfl, a, S, _, x, rfl, eX, L, h1, by omega, ?_⟩
    refine ⟨_, rfl, _, _, _, rfl, L.ob, rfl, _, rfl, a, S, _, x, rfl, eX, L, h2, ?_⟩
    refine ⟨(by show 0 ≤ sizeLine; decide), fun p np => ?_⟩
    refine ⟨fun σ' H' => σ' = [some (.ref a.p), some (.int (opOn S x)), some (.int (if opOn S x < 0 then -opOn S x else opOn S x)), some (.int (S.L x : Int)), some (.int (S.R x : Int)), some (.ref p)] ∧ Same H H' ∧ H' p = some (.lst (nvs (if hitL S x = true then [S.L x] else []))), ?_, ?_⟩
    · refine ⟨_, rfl, _, rfl, _, _, rfl, rfl, rfl, _, rfl, ?_⟩
      show if (!decide (V.int (S.L x : Int) = V.int ((if opOn S x < 0 then -opOn S x else opOn S x) - 1))) = true then _ else _
      rw [bne_int, eX]
      refine iteB (fun c => ?_) (fun c => ?_)
      · have c1 := of_decide_eq_true c
        have c2 : hitL S x = lh S (S.L x) := by
          unfold hitL
          rw [decide_eq_true (by omega), Bool.true_and]
        refine ⟨_, rfl, _, rfl, a, S, _, S.L x, rfl, rfl, L.same (Same.up np), by omega, _, rfl, iteB (fun c3 => ?_) (fun c3 => ?_)⟩
        · refine ⟨_, rfl, Or.inl ⟨rfl, _, SqL.of upd_same⟩, _, rfl, _, _, _, rfl, rfl, upd_same, (by show 0 < sizeLine; decide), rfl, Same.mut (Same.up np) np, ?_⟩
          rw [c2, c3, if_pos rfl]
          exact upd_same
        · refine ⟨rfl, Same.up np, ?_⟩
          rw [c2, c3, if_neg (by decide)]
          exact upd_same
      · have c1 := of_decide_eq_false c
        have c2 : hitL S x = false := by
          unfold hitL
          rw [decide_eq_false (by omega), Bool.false_and]
        refine iteN rfl ⟨rfl, Same.up np, ?_⟩
        rw [c2, if_neg (by decide)]
        exact upd_same
    · rintro σ' H' ⟨rfl, s1, e1⟩
      have L1 := L.same s1
      have fin : ∀ H2, Same H H2 → H2 p = some (.lst (nvs (fw S x))) → Q (.ref p) H2 := fun H2 s e => k p H2 np s e
      refine ⟨_, rfl, _, rfl, _, _, rfl, rfl, rfl, _, rfl, ?_⟩
      show if (!decide (V.int (S.R x : Int) = V.int ((if opOn S x < 0 then -opOn S x else opOn S x) + 1))) = true then _ else _
      rw [bne_int, eX]
      refine iteB (fun c => ?_) (fun c => ?_)
      · have c1 := of_decide_eq_true c
        have c2 : hitR S x = rh S (S.R x - 1) := by
          unfold hitR
          rw [decide_eq_true (by omega), Bool.true_and]
        have e3 : (S.R x : Int) - 1 = ((S.R x - 1 : Nat) : Int) := by omega
        refine ⟨_, rfl, _, rfl, _, _, rfl, rfl, a, S, _, S.R x - 1, rfl, e3, L1, by omega, _, rfl, iteB (fun c3 => ?_) (fun c3 => ?_)⟩
        · refine ⟨_, rfl, Or.inl ⟨rfl, _, SqL.of e1⟩, _, rfl, _, _, rfl, rfl, _, _, _, rfl, rfl, e1, szlt (by unfold nvs; rw [List.length_map]; split <;> simp), _, rfl, fin _ (Same.mut s1 np) ?_⟩
          rw [upd_same]
          show some (HO.lst (_ ++ [V.int ((S.R x : Int) - 1)])) = _
          rw [e3, nvs_snoc]
          unfold fw
          rw [c2, c3, if_pos (rfl : true = true)]
        · refine ⟨_, rfl, fin _ s1 ?_⟩
          rw [e1]
          unfold fw
          rw [c2, c3, if_neg (by decide : ¬ false = true), List.append_nil]
      · have c1 := of_decide_eq_false c
        have c2 : hitR S x = false := by
          unfold hitR
          rw [decide_eq_false (by omega), Bool.false_and]
        refine iteN rfl ⟨_, rfl, fin _ s1 ?_⟩
        rw [e1]
        unfold fw
        rw [c2, if_neg (by decide : ¬ false = true), List.append_nil]
theorem nvs_at {l : List Nat} {i : Nat} {x : V} (h : (nvs l)[i]? = some x) : ∃ v, l[i]? = some v ∧ x = .int (v : Int) := by
  unfold nvs at h
  rw [List.getElem?_map] at h
  obtain ⟨v, hv, rfl⟩ := Option.map_eq_some_iff.mp h
  exact ⟨v, hv, rfl⟩
theorem nvs_get {l : List Nat} {i : Nat} {v : Nat} (h : l[i]? = some v) : (nvs l)[i]? = some (.int (v : Int)) := by
  unfold nvs
  rw [List.getElem?_map, h] <;> rfl
theorem nvs_len (l : List Nat) : (nvs l).length = l.length := by
  unfold nvs
  rw [List.length_map]
theorem sc_lowers : FnScope ["links", "node", "gap", "holder"] ["links", "node"] (defScope (top 47)) := ⟨rfl, rfl, rfl, by decide +kernel, rfl, by decide +kernel, by decide +kernel⟩
theorem ok_lowers (Z : Tx P w K mg base) : Pr P w K mg base 5 "lowers" (sp_lowers (He.ga K "Links")) := by
  refine Z.pr0 34 20 (d := d_lowers) rfl rfl rfl rfl rfl sc_lowers (fun vs H Q E h => ?_) (fun _ _ _ _ _ _ us hl => match us, hl with | [_, _], _ => rfl) (fun f cdv A outer s H vs Q E hr h => ?_)
  · obtain ⟨a, S, i, x, rfl, _⟩ := h
    rfl
  · obtain ⟨a, S, i, x, rfl, rfl, L, wf, h1, h2, k⟩ := h
    refine ⟨_, (pss_cons (ps_if (pt_not (pt_val (pc (ok_is_due Z) hr (pa_cons (pv 0) (pa_cons (pv 1) pa_nil))))) (pss_one (ps_ret pe_bl)) pss_nil) (pss_cons (ps_for PassesOwn.never rfl (pi_list (pc (ok_foreign_writes Z) hr (pa_cons (pv 0) (pa_cons (pm (ok_Links_operation_on Z) hr (pv 0) (pa_cons (pv 1) pa_nil)) pa_nil)))) (pg_name (i := 2) sc_lowers.nd rfl (Or.inl rfl)) (pss_cons (ps_set (i := 3) sc_lowers.nd rfl (Or.inl rfl) (pv 2)) (Evl.pss_cut (ps_if (pt_cmpR op_lt (pv 2) (pv 1) (nomark _)) (pss_one (ps_set (i := 3) sc_lowers.nd rfl (Or.inl rfl) (pe_op op_add (pv 2) pe_int))) pss_nil) (pss_one (ps_if (PW.pt (pw_or (pt_cmpR op_ne (pc (ok_gap_state Z) hr (pa_cons (pv 0) (pa_cons (pv 2) pa_nil))) pe_str (nomark _)) (pw_or1 (pt_not (pt_val (pc (ok_is_due Z) hr (pa_cons (pv 0) (pa_cons (pv 3) pa_nil)))))))) (pss_one (ps_ret pe_bl)) pss_nil))))) (pss_one (ps_ret pe_bl)))), ?_⟩
    rw [lowers_fw wf h1 h2] at k
    refine ⟨_, rfl, _, rfl, a, S, _, x, rfl, rfl, L, h1, h2, _, rfl, ?_⟩
    cases c : due S x with
    | false =>
      rw [c, Bool.false_and] at k
      exact k H (Same.refl H)
    | true =>
      rw [c, Bool.true_and] at k
      refine ⟨_, rfl, _, rfl, _, _, _, rfl, L.ob, rfl, _, rfl, a, S, _, x, rfl, rfl, L, h2, a, S, _, x, rfl, rfl, L, wf, h1, h2, fun p H1 np s1 e1 => ⟨p, rfl, ⟨_, SqL.of e1⟩, ?_⟩⟩
      refine for_list (K := K) (a := p) (xs := nvs (fw S x)) (fun i σ H' => ∃ v2 v3 : Option V, σ = [some (.ref a.p), some (.int (x : Int)), v2, v3] ∧ Same H1 H' ∧ ∀ j, j < i → ∀ g, (fw S x)[j]? = some g → chk S x g = true) ⟨none, none, rfl, Same.refl _, fun j hj => absurd hj (Nat.not_lt_zero j)⟩
        (fun i σ H' _ ⟨_, _, _, s2, _⟩ => Same.seq s2 (SqL.of e1)) ?_ ?_
      · rintro i y σ H' hi ⟨v2, v3, rfl, s2, all⟩
        obtain ⟨g, hg, rfl⟩ := nvs_at hi
        have hm := List.mem_of_getElem? hg
        have hin := fw_in wf h1 h2 hm
        have L2' := (L.same s1).same s2
        refine ⟨_, rfl, ?_⟩
        refine ⟨fun σ' H2 => σ' = [some (.ref a.p), some (.int (x : Int)), some (.int (g : Int)), some (.int ((if g < x then g + 1 else g : Nat) : Int))] ∧ H2 = H', ?_, ?_⟩
        · refine ⟨_, rfl, _, rfl, _, _, rfl, rfl, _, rfl, iteB (fun c => ?_) (fun c => ?_)⟩
          · have c1 := of_decide_eq_true c
            refine ⟨_, rfl, _, _, rfl, rfl, ?_, rfl⟩
            rw [if_pos (by omega)]
            rfl
          · have c1 := of_decide_eq_false c
            refine ⟨?_, rfl⟩
            rw [if_neg (by omega)]
            rfl
        · rintro σ' H2 ⟨rfl, rfl⟩
          refine ⟨_, rfl, _, rfl, a, S, _, g, rfl, rfl, L2', hin.1, rfl, _, rfl, ?_⟩
          show if (!decide (V.str (gstr (gst S g)) = V.str "joined")) = true then _ else _
          rw [gstr_joined]
          have bad : chk S x g = false → ∀ H3, Same H2 H3 → Q (.bl false) H3 := fun e H3 s3 => by
            have e2 : (fw S x).all (chk S x) = false := by
              rw [List.all_eq_false]
              exact ⟨g, hm, by rw [e]; decide⟩
            rw [e2] at k
            exact k H3 (Same.trans (Same.trans s1 s2) s3)
          cases c : decide (gst S g = .joined) with
          | false => exact bad (by unfold chk; rw [c, Bool.false_and]) _ (Same.refl _)
          | true =>
            refine ⟨_, rfl, _, rfl, a, S, _, _, rfl, rfl, L2', hin.2.1, hin.2.2, _, rfl, ?_⟩
            cases c2 : due S (if g < x then g + 1 else g) with
            | false => exact bad (by unfold chk; rw [c, c2, Bool.true_and]) _ (Same.refl _)
            | true =>
              refine ⟨_, _, rfl, s2, fun j hj g' hg' => ?_⟩
              by_cases e : j < i
              · exact all j e g' hg'
              · have ej : j = i := by omega
                subst ej
                rw [hg] at hg'
                cases hg'
                unfold chk
                rw [c, c2, Bool.true_and]
      · rintro σ H' ⟨v2, v3, rfl, s2, all⟩
        rw [nvs_len] at all
        have e2 : (fw S x).all (chk S x) = true := by
          rw [List.all_eq_true]
          intro g hg
          obtain ⟨j, hj, e⟩ := List.mem_iff_getElem.mp hg
          exact all j hj g (by rw [List.getElem?_eq_getElem hj, e])
        rw [e2] at k
        exact k H' (Same.trans s1 s2)
theorem sc__first_lowering : FnScope ["links", "nodes", "place"] ["links", "nodes"] (defScope (top 48)) := ⟨rfl, rfl, rfl, by decide +kernel, rfl, by decide +kernel, by decide +kernel⟩
theorem ok__first_lowering (Z : Tx P w K mg base) : Pr P w K mg base 6 "_first_lowering" (sp_first_lowering (He.ga K "Links")) := by
  refine Z.pr0 35 21 (d := d__first_lowering) rfl rfl rfl rfl rfl sc__first_lowering (fun vs H Q E h => ?_) (fun _ _ _ _ _ _ us hl => match us, hl with | [_, _], _ => rfl) (fun f cdv A outer s H vs Q E hr h => ?_)
  · obtain ⟨a, S, p, ns, x, rfl, _⟩ := h
    rfl
  · obtain ⟨a, S, p, ns, x, rfl, L, wf, hp, hb, hx, k⟩ := h
    refine ⟨_, (pss_cons (ps_set (i := 2) sc__first_lowering.nd rfl (Or.inl rfl) pe_int) (pss_cons (ps_while PassesOwn.never (pt_not (pt_val (pc (ok_lowers Z) hr (pa_cons (pv 0) (pa_cons (pe_ix ix_list (pv 1) (pv 2) (fun _ _ => rfl)) pa_nil))))) (pss_one (ps_set (i := 2) sc__first_lowering.nd rfl (Or.inl rfl) (pe_op op_add (pv 2) pe_int)))) (pss_one (ps_ret (pm (ok_Links_operation_on Z) hr (pv 0) (pa_cons (pe_ix ix_list (pv 1) (pv 2) (fun _ _ => rfl)) pa_nil)))))), ?_⟩
    obtain ⟨hlow, i0, hi0, hget, hbef⟩ := List.find?_eq_some_iff_getElem.mp hx
    have hat : ns[i0]? = some x := by rw [List.getElem?_eq_getElem hi0, hget]
    have hxb := hb x (List.mem_of_getElem? hat)
    refine ⟨fun m σ H' => ∃ i, m = i0 - i ∧ i ≤ i0 ∧ σ = [some (.ref a.p), some (.ref p), some (.int (i : Int))] ∧ Same H H', ⟨i0, 0, rfl, Nat.zero_le _, rfl, Same.refl H⟩, ?_⟩
    rintro m σ H' ⟨i, rfl, hi, rfl, s1⟩
    have L1 := L.same s1
    obtain ⟨y, hy⟩ : ∃ y, ns[i]? = some y := ⟨ns[i], List.getElem?_eq_getElem (by omega)⟩
    have hyb := hb y (List.mem_of_getElem? hy)
    refine ⟨_, rfl, _, rfl, _, rfl, _, _, _, _, rfl, rfl, SqL.of (s1 _ _ hp), atI_nat (nvs_get hy), a, S, _, y, rfl, rfl, L1, wf, hyb.1, hyb.2, fun H2 s2 => ⟨_, rfl, ?_⟩⟩
    cases c : lowers S y with
    | false =>
      refine ⟨fun σ2 H3 => σ2 = [some (.ref a.p), some (.ref p), some (.int ((i + 1 : Nat) : Int))] ∧ Same H H3, fun σ2 H3 ⟨e, s3⟩ => ?_, ?_⟩
      · have hlt : i < i0 := by
          rcases Nat.lt_or_ge i i0 with z | z
          · exact z
          · have e3 : i = i0 := by omega
            subst e3
            rw [hat] at hy
            cases hy
            rw [hlow] at c
            cases c
        exact ⟨i0 - (i + 1), by omega, i + 1, rfl, hlt, e, s3⟩
      · exact ⟨_, rfl, _, _, rfl, rfl, rfl, Same.trans s1 s2⟩
    | true =>
      have e3 : y = x := by
        rcases Nat.lt_or_ge i i0 with z | z
        · have q := hbef i z
          have q2 : ns[i]'(by omega) = y := by
            rw [List.getElem?_eq_getElem (by omega)] at hy
            exact Option.some.inj hy
          rw [q2, c] at q
          cases q
        · have e3 : i = i0 := by omega
          subst e3
          rw [hat] at hy
          exact (Option.some.inj hy).symm
      subst e3
      refine ⟨_, rfl, _, _, _, rfl, (L1.same s2).ob, rfl, _, rfl, _, rfl, _, _, _, _, rfl, rfl, SqL.of (Same.trans s1 s2 _ _ hp), atI_nat (nvs_get hy), a, S, _, y, rfl, rfl, L1.same s2, by omega, k _ (Same.trans s1 s2)⟩
end
end LL
namespace LL
open PySem PySem.Spec PyProof.Rows L2
open Evl (given given_yes given_no given_len)
/-! ### the first repair; whole standings; what is a repair -/
theorem debt_le (S : Sd) : debt S ≤ 2 * S.n := by
  have h : ∀ n, sumTo (dd S) n ≤ 2 * n := by
    intro n
    induction n with
    | zero => exact Nat.le_refl 0
    | succ n ih =>
      unfold sumTo
      have : dd S (n + 1) ≤ 2 := by
        unfold dd
        split
        · decide
        · split <;> decide
      omega
  exact h S.n
/-- the wish where a gap is lost: the error bears the least lost one -/
def LostE (K : PySem.W.Frag) (S : Sd) (H : Hp) (E : XK) : Prop := ∀ (g : Nat) (r : List Nat), lostL S = g :: r → ∀ (d : Addr) (H' : Hp), Same H H' → H' d = some (.xd [("gap", .int (g : Int))]) → E (.ref (He.ga K "NotRepairable")) (some d) H'
theorem LostE.back {K : PySem.W.Frag} {S : Sd} {H H1 : Hp} {E : XK} (k : LostE K S H E) (e : Same H H1) : LostE K S H1 E := fun g r h d H' s q => k g r h d H' (Same.trans e s) q
def sp_check_repairable (K : PySem.W.Frag) (C : Addr) : Sp := fun vs H Q E => ∃ (a : LA) (S : Sd), vs = [.ref a.p] ∧ LinksAt C H a S ∧ S.n ≤ 60 ∧ (lostL S = [] → RetS .non H Q) ∧ LostE K S H E
def sp_debt_of (K : PySem.W.Frag) (C : Addr) : Sp := fun vs H Q E => ∃ (a : LA) (S : Sd), vs = [.ref a.p] ∧ LinksAt C H a S ∧ S.n ≤ 60 ∧ (lostL S = [] → RetS (.int (debt S : Int)) H Q) ∧ LostE K S H E
def sp_first_repair (K : PySem.W.Frag) (C : Addr) : Sp := fun vs H Q E => ∃ (a : LA) (S : Sd), vs = [.ref a.p] ∧ LinksAt C H a S ∧ WF S ∧ S.n ≤ 60 ∧ (∀ k, Good S k → RetN ((canon k S).map V.int) H Q) ∧ LostE K S H E
def sp_is_sound (C : Addr) : Sp := fun vs H Q _ => ∃ (a : LA) (S : Sd), vs = [.ref a.p] ∧ LinksAt C H a S ∧ WF S ∧ S.n ≤ 60 ∧ outs S = [] ∧ Q (.bl (wholeB S)) H
def sp_is_whole (C : Addr) : Sp := fun vs H Q _ => ∃ (a : LA) (S : Sd), vs = [.ref a.p] ∧ LinksAt C H a S ∧ WF S ∧ S.n ≤ 60 ∧ RetS (.bl (wholeB S)) H Q
def sp_is_repair (K : PySem.W.Frag) (C : Addr) : Sp := fun vs H Q _ => ∃ (a : LA) (S : Sd) (p : Addr) (row : List Int), vs = [.ref a.p, .ref p] ∧ LinksAt C H a S ∧ WF S ∧ S.n ≤ 60 ∧ SqL K H p (row.map V.int) ∧ RetS (.bl (leads S row)) H Q
def sp_is_least_repair (K : PySem.W.Frag) (C : Addr) : Sp := fun vs H Q _ => ∃ (a : LA) (S : Sd) (p : Addr) (row : List Int), vs = [.ref a.p, .ref p] ∧ LinksAt C H a S ∧ WF S ∧ S.n ≤ 60 ∧ SqL K H p (row.map V.int) ∧ RetS (.bl (leads S row && decide (row.length = debt S))) H Q
section
variable {P : Program} {w : World} {K : PySem.W.Frag} {mg : Str → Option Value} {base : Heap}
theorem sc_check_repairable : FnScope ["links", "lost"] ["links"] (defScope (top 29)) := ⟨rfl, rfl, rfl, by decide +kernel, rfl, by decide +kernel, by decide +kernel⟩
theorem ok_check_repairable (Z : Tx P w K mg base) : Pr P w K mg base 6 "check_repairable" (sp_check_repairable K (He.ga K "Links")) := by
  refine Z.prX 11 11 (d := d_check_repairable) rfl rfl rfl rfl rfl sc_check_repairable (fun vs H Q E h => ?_) (fun _ _ _ _ _ _ us hl => match us, hl with | [_], _ => rfl) (fun f cdv A outer s H vs Q E hr h => ?_)
  · obtain ⟨a, S, rfl, _⟩ := h
    rfl
  · obtain ⟨a, S, rfl, L, hn, k1, k2⟩ := h
    refine ⟨_, (pss_cons (ps_set (i := 1) sc_check_repairable.nd rfl (Or.inl rfl) (pc (ok_lost_gaps Z) hr (pa_cons (pv 0) pa_nil))) (pss_one (ps_if (pt_truth (pv 1) (by intro _; rfl)) (pss_one (ps_raise rfl (takes_of rfl rfl rfl rfl) (pmk_NotRepairable Z hr (pa_cons (pe_ix ix_list (pv 1) pe_int (fun _ _ => rfl)) pa_nil)))) pss_nil))), ?_⟩
    refine ⟨_, rfl, a, S, rfl, L, hn, fun p H1 np s1 e1 => ?_⟩
    refine ⟨_, rfl, _, Or.inl ⟨_, SqL.of e1, rfl⟩, ?_⟩
    cases c : lostL S with
    | nil => exact k1 c H1 s1
    | cons g r =>
      refine ⟨_, rfl, _, _, _, _, rfl, rfl, SqL.of e1, atI_nat (nvs_get (l := lostL S) (i := 0) (v := g) (by rw [c]; rfl)), _, rfl, fun d hd => k2 g r c d _ (Same.trans s1 (Same.up hd)) upd_same⟩
theorem sc_debt_of : FnScope ["links"] ["links"] (defScope (top 35)) := ⟨rfl, rfl, rfl, by decide +kernel, rfl, by decide +kernel, by decide +kernel⟩
theorem ok_debt_of (Z : Tx P w K mg base) : Pr P w K mg base 8 "debt_of" (sp_debt_of K (He.ga K "Links")) := by
  refine Z.prX 17 17 (d := d_debt_of) rfl rfl rfl rfl rfl sc_debt_of (fun vs H Q E h => ?_) (fun _ _ _ _ _ _ us hl => match us, hl with | [_], _ => rfl) (fun f cdv A outer s H vs Q E hr h => ?_)
  · obtain ⟨a, S, rfl, _⟩ := h
    rfl
  · obtain ⟨a, S, rfl, L, hn, k1, k2⟩ := h
    refine ⟨_, (pss_cons (ps_expr (pcX (ok_check_repairable Z) hr (takes_of rfl rfl rfl rfl) (fun _ _ _ _ h => h) (pa_cons (pv 0) pa_nil))) (pss_one (ps_ret (pc (ok_settled_debt Z) hr (pa_cons (pv 0) pa_nil))))), ?_⟩
    refine ⟨_, rfl, a, S, rfl, L, hn, fun c H1 s1 => ?_, k2⟩
    refine ⟨_, rfl, a, S, rfl, L.same s1, hn, fun H2 s2 => ?_⟩
    rw [c, List.isEmpty_nil, if_pos rfl]
    exact k1 c H2 (Same.trans s1 s2)
theorem sc_first_repair : FnScope ["links", "many", "nodes", "standing", "log", "_", "operation"] ["links"] (defScope (top 49)) := ⟨rfl, rfl, rfl, by decide +kernel, rfl, by decide +kernel, by decide +kernel⟩
theorem ok_first_repair (Z : Tx P w K mg base) : Pr P w K mg base 9 "first_repair" (sp_first_repair K (He.ga K "Links")) := by
  refine Z.prX 36 22 (d := d_first_repair) rfl rfl rfl rfl rfl sc_first_repair (fun vs H Q E h => ?_) (fun _ _ _ _ _ _ us hl => match us, hl with | [_], _ => rfl) (fun f cdv A outer s H vs Q E hr h => ?_)
  · obtain ⟨a, S, rfl, _⟩ := h
    rfl
  · obtain ⟨a, S, rfl, L, wf, hn, k1, k2⟩ := h
    refine ⟨_, (pss_cons (ps_set (i := 1) sc_first_repair.nd rfl (Or.inl rfl) (pcX (ok_debt_of Z) hr (takes_of rfl rfl rfl rfl) (fun _ _ _ _ h => h) (pa_cons (pv 0) pa_nil))) (pss_cons (ps_set (i := 2) sc_first_repair.nd rfl (Or.inl rfl) (pc (ok_due_nodes Z) hr (pa_cons (pv 0) pa_nil))) (pss_cons (ps_set (i := 3) sc_first_repair.nd rfl (Or.inl rfl) (pm0 (ok_Links_copy Z) hr (pv 0))) (pss_cons (ps_set (i := 4) sc_first_repair.nd rfl (Or.inl rfl) (pe_lst pa_nil)) (pss_cons (ps_for (passes_of rfl) rfl (pi_range1 rfl (Z.free 61) (pa_cons (pv 1) pa_nil)) (pg_name (i := 5) sc_first_repair.nd rfl (Or.inl rfl)) (pss_cons (ps_set (i := 6) sc_first_repair.nd rfl (Or.inl rfl) (pc (ok__first_lowering Z) hr (pa_cons (pv 3) (pa_cons (pv 2) pa_nil)))) (pss_cons (ps_expr (pm (ok_Links_apply Z) hr (pv 3) (pa_cons (pv 6) pa_nil))) (pss_one (ps_expr (pe_bm PySem.F.plainAttrs_list PySem.F.slot_list_append PySem.F.type_list_append mt_append (pv 4) (pa_cons (pv 6) pa_nil))))))) (pss_one (ps_ret (pv 4)))))))), ?_⟩
    refine ⟨_, rfl, a, S, rfl, L, hn, fun c H1 s1 => ?_, k2⟩
    have g : Good S (debt S) := ⟨wf, lostL_nil.mp c, rfl⟩
    have hd := debt_le S
    refine ⟨_, rfl, a, S, rfl, L.same s1, hn, fun p H2 np s2 e2 => ?_⟩
    refine ⟨_, rfl, _, _, _, rfl, ((L.same s1).same s2).ob, rfl, a, S, rfl, (L.same s1).same s2, hn, fun b H3 B s3 nb b1 b2 b3 => ?_⟩
    refine ⟨(by show 0 ≤ sizeLine; decide), fun q nq => ?_⟩
    have s03 : Same H H3 := Same.trans (Same.trans s1 s2) s3
    have hlen : (canon (debt S) S).length = debt S := canon_len g
    have qb : q ≠ b.l ∧ q ≠ b.r ∧ q ≠ b.f := ⟨(ne_of_none B.hl nq).symm, (ne_of_none B.hr nq).symm, (ne_of_none B.hf nq).symm⟩
    have pb : p ≠ b.l ∧ p ≠ b.r ∧ p ≠ b.f := ⟨ne_of_none e2 b1, ne_of_none e2 b2, ne_of_none e2 b3⟩
    have f12 := Same.trans s1 s2
    refine ⟨_, rfl, _, rfl, by omega, by omega, for_range (lo := 0) (n := ((debt S : Nat) : Int).toNat) (fun i σ H' => ∃ v5 v6 : Option V, σ = [some (.ref a.p), some (.int (debt S : Int)), some (.ref p), some (.ref b.p), some (.ref q), v5, v6] ∧ Same H H' ∧
      H' p = some (.lst (nvs (dueL S))) ∧ H' q = some (.lst (((canon (debt S) S).take i).map V.int)) ∧ LinksAt (He.ga K "Links") H' b (after S ((canon (debt S) S).take i))) ?_ ?_ ?_⟩
    · refine ⟨none, none, rfl, Same.new s03 nq, ?_, upd_same, B.same (Same.up nq)⟩
      rw [upd_ne (ne_of_none (s3 _ _ e2) nq)]
      exact s3 _ _ e2
    · rintro i σ H' hi ⟨v5, v6, rfl, s4, ep, eq, B1⟩
      rw [Int.toNat_natCast] at hi
      obtain ⟨g1, g2⟩ := canon_part i g (Nat.le_of_lt hi)
      rw [show debt S - i = (debt S - i - 1) + 1 by omega] at g1 g2
      obtain ⟨x, hx, x1, x2, xl, xg⟩ := good_next g1
      rw [canon_step hx] at g2
      have hget : (canon (debt S) S)[i]? = some (opOn (after S ((canon (debt S) S).take i)) x) := by
        have e : ((canon (debt S) S).drop i)[0]? = some (opOn (after S ((canon (debt S) S).take i)) x) := by rw [← g2] <;> rfl
        rw [List.getElem?_drop] at e
        exact e
      have wfi := g1.wf
      have hni : (after S ((canon (debt S) S).take i)).n = S.n := after_n _ _
      have hx2 : (dueL S).find? (lowers (after S ((canon (debt S) S).take i))) = some x := by
        rw [find_sub hni (fun y y1 y2 hy => canon_due i g (Nat.le_of_lt hi) y y1 (by rw [← hni]; exact y2) hy)]
        exact hx
      refine ⟨_, rfl, _, rfl, b, _, p, dueL S, x, rfl, B1, wfi, ep, fun y hy => ?_, hx2, fun H5 s5 => ?_⟩
      · have := mem_nodes.mp (List.mem_filter.mp hy).1
        rw [hni]
        exact this
      have B2 := B1.same s5
      refine ⟨_, rfl, _, _, _, rfl, B2.ob, rfl, _, rfl, b, _, _, rfl, B2, wfi, (by rw [hni]; exact hn), okop_opOn x1 x2, fun H6 B3 kp => ?_⟩
      rw [opOn_abs] at B3
      have eq5 : H6 q = some (.lst (((canon (debt S) S).take i).map V.int)) := kp q _ (s5 _ _ eq) qb.1 qb.2.1 qb.2.2
      have ep5 : H6 p = some (.lst (nvs (dueL S))) := kp p _ (s5 _ _ ep) pb.1 pb.2.1 pb.2.2
      have s6 : Same H H6 := Keep.old (Same.trans s4 s5) kp (Same.free f12 b1) (Same.free f12 b2) (Same.free f12 b3)
      have nqH : H q = none := Same.free s03 nq
      refine ⟨_, rfl, Or.inl ⟨rfl, _, SqL.of eq5⟩, _, rfl, _, _, _, rfl, rfl, eq5, szlt (by rw [List.length_map, List.length_take]; omega), ?_⟩
      refine ⟨_, _, rfl, Same.mut s6 nqH, ?_, ?_, ?_⟩
      · rw [upd_ne (ne_of_none (s3 _ _ e2) nq)]
        exact ep5
      · rw [take_snoc hget, List.map_append]
        exact upd_same
      · rw [after_take hget, opOn_abs]
        exact ⟨by rw [upd_ne (ne_of_none B.ob nq)]; exact B3.ob, by rw [upd_ne qb.1.symm]; exact B3.hl, by rw [upd_ne qb.2.1.symm]; exact B3.hr, by rw [upd_ne qb.2.2.symm]; exact B3.hf, B3.lr, B3.lf, B3.rf⟩
    · rintro σ H' ⟨v5, v6, rfl, s4, ep, eq, B1⟩
      rw [Int.toNat_natCast, List.take_of_length_le (Nat.le_of_eq hlen)] at eq
      exact ⟨_, rfl, k1 _ g q H' (Same.free s03 nq) s4 eq⟩
theorem sc_Links_is_sound : FnScope ["self", "last", "node"] ["self"] (defScope (inClass (top 42) 13)) := ⟨rfl, rfl, rfl, by decide +kernel, rfl, by decide +kernel, by decide +kernel⟩
theorem ok_Links_is_sound (Z : Tx P w K mg base) : Pm P w K mg base 2 (He.ga K "Links") "is_sound" (sp_is_sound (He.ga K "Links")) := by
  refine Z.pm0 26 90 77 (d := d_Links_is_sound) rfl rfl rfl rfl rfl rfl sc_Links_is_sound (fun vs H Q E h => ?_) (fun _ _ _ _ _ _ us hl => match us, hl with | [_], _ => rfl) (fun f cdv A outer s H vs Q E hr h => ?_)
  · obtain ⟨a, S, rfl, _⟩ := h
    rfl
  · obtain ⟨a, S, rfl, L, wf, hn, ho, k⟩ := h
    refine ⟨_, (pss_cons (ps_set (i := 1) sc_Links_is_sound.nd rfl (Or.inl rfl) pe_int) (pss_cons (ps_for PassesOwn.never rfl (pi_range2 rfl (Z.free 61) (pa_cons pe_int (pa_cons (pe_op op_add (pe_fld (pv 0) rfl) pe_int) pa_nil))) (pg_name (i := 2) sc_Links_is_sound.nd rfl (Or.inl rfl)) (pss_one (ps_if (pt_not (pt_val (pe_ix ix_list (pe_fld (pv 0) rfl) (pv 2) (fun _ _ => rfl)))) (pss_cons (ps_if (PW.pt (pw_or (pt_cmpR op_ne (pe_ix ix_list (pe_fld (pv 0) rfl) (pv 1) (fun _ _ => rfl)) (pv 2) (nomark _)) (pw_or1 (pt_cmpR op_ne (pe_ix ix_list (pe_fld (pv 0) rfl) (pv 2) (fun _ _ => rfl)) (pv 1) (nomark _))))) (pss_one (ps_ret pe_bl)) pss_nil) (pss_one (ps_set (i := 1) sc_Links_is_sound.nd rfl (Or.inl rfl) (pv 2)))) pss_nil))) (pss_one (ps_ret pe_bl)))), ?_⟩
    have hF : ∀ x, x ≤ S.n + 1 → S.F x = false := fun x hx => by
      by_cases c : x = 0
      · rw [c]
        exact wf.f0
      · by_cases c2 : x = S.n + 1
        · rw [c2]
          exact wf.fn
        · exact outs_nil.mp ho x (by omega) (by omega)
    refine ⟨_, rfl, _, _, _, _, _, rfl, L.ob, Z.cL, Z.nSize, lfs_size _ _, _, _, rfl, rfl, _, _, rfl, ⟨by omega, by omega, by omega, by omega⟩, ?_⟩
    refine for_range (lo := 1) (n := ((S.n : Int) + 2 - 1).toNat) (fun i σ H' => ∃ v2 : Option V, σ = [some (.ref a.p), some (.int (i : Int)), v2] ∧ H' = H ∧ ∀ j, j < i → S.R j = j + 1 ∧ S.L (j + 1) = j) ⟨none, rfl, rfl, fun j hj => absurd hj (Nat.not_lt_zero j)⟩ ?_ ?_
    · rintro i σ H' hi ⟨v2, rfl, rfl, all⟩
      have hi' : i ≤ S.n := by omega
      have eI : (1 : Int) + (i : Int) = ((i + 1 : Nat) : Int) := by omega
      have bad : ¬ (S.R i = i + 1 ∧ S.L (i + 1) = i) → Q (.bl false) H' := fun hb => by
        have e : wholeB S = false := by
          cases q : wholeB S with
          | false => rfl
          | true => exact absurd ((wholeB_iff.mp q).1 i hi') hb
        rw [e] at k
        exact k
      refine ⟨_, rfl, _, _, _, _, _, rfl, L.ob, Z.cL, Z.nFlags, lfs_flags _ _, _, rfl, _, _, _, _, rfl, rfl, SqL.of L.hf, mk_atI (j := i + 1) _ eI (by omega), _, rfl, ?_⟩
      rw [hF (i + 1) (by omega)]
      refine ⟨_, rfl, _, _, _, _, _, rfl, L.ob, Z.cL, Z.nRights, lfs_rights _ _, _, rfl, _, _, _, _, rfl, rfl, SqL.of L.hr, mk_atI (j := i) _ rfl (by omega), _, rfl, rfl, _, rfl, ?_⟩
      show if (!decide (V.int (S.R i : Int) = V.int ((1 : Int) + (i : Int)))) = true then _ else _
      rw [bne_int]
      refine iteB (fun c => bad fun z => ?_) (fun c => ?_)
      · have := of_decide_eq_true c
        omega
      · have c1 := of_decide_eq_false c
        refine ⟨_, rfl, _, _, _, _, _, rfl, L.ob, Z.cL, Z.nLefts, lfs_lefts _ _, _, rfl, _, _, _, _, rfl, rfl, SqL.of L.hl, mk_atI (j := i + 1) _ eI (by omega), _, rfl, rfl, _, rfl, ?_⟩
        show if (!decide (V.int (lz S (i + 1)) = V.int (i : Int))) = true then _ else _
        rw [bne_int, lz_pos (by omega)]
        refine iteB (fun c2 => bad fun z => ?_) (fun c2 => ?_)
        · have := of_decide_eq_true c2
          omega
        · have c3 := of_decide_eq_false c2
          refine ⟨_, rfl, some (.int (1 + (i : Int))), ?_, rfl, fun j hj => ?_⟩
          · rw [← eI]
            rfl
          · by_cases e : j < i
            · exact all j e
            · have ej : j = i := by omega
              subst ej
              omega
    · rintro σ H' ⟨v2, rfl, rfl, all⟩
      have e : wholeB S = true := wholeB_iff.mpr ⟨fun v hv => all v (by omega), fun x x1 x2 => hF x (by omega)⟩
      rw [e] at k
      exact k
theorem sc_Links_is_whole : FnScope ["self"] ["self"] (defScope (inClass (top 42) 14)) := ⟨rfl, rfl, rfl, by decide +kernel, rfl, by decide +kernel, by decide +kernel⟩
theorem ok_Links_is_whole (Z : Tx P w K mg base) : Pm P w K mg base 3 (He.ga K "Links") "is_whole" (sp_is_whole (He.ga K "Links")) := by
  refine Z.pm0 27 91 77 (d := d_Links_is_whole) rfl rfl rfl rfl rfl rfl sc_Links_is_whole (fun vs H Q E h => ?_) (fun _ _ _ _ _ _ us hl => match us, hl with | [_], _ => rfl) (fun f cdv A outer s H vs Q E hr h => ?_)
  · obtain ⟨a, S, rfl, _⟩ := h
    rfl
  · obtain ⟨a, S, rfl, L, wf, hn, k⟩ := h
    refine ⟨_, (pss_one (ps_ret (pe_and (pe_cmpR op_eq (pe_callB call_len_seq (by rfl) (Z.free 60) PySem.boot_len (pa_cons (pm0 (ok_Links_outs Z) hr (pv 0)) pa_nil)) pe_int (nomark _)) (pe_one (pm0 (ok_Links_is_sound Z) hr (pv 0)))))), ?_⟩
    refine ⟨_, rfl, _, _, _, rfl, L.ob, rfl, a, S, rfl, L, hn, fun p H1 np s1 e1 => ⟨p, _, rfl, Or.inl (SqL.of e1), rfl, _, rfl, ?_⟩⟩
    show if (decide (V.int ((nvs (outs S)).length : Int) = V.int 0)) = true then _ else _
    rw [nvs_len]
    refine iteB (fun c => ?_) (fun c => ?_)
    · have e : outs S = [] := by
        have := of_decide_eq_true c
        injection this with z
        exact List.length_eq_zero_iff.mp (by omega)
      exact ⟨_, rfl, _, _, _, rfl, (L.same s1).ob, rfl, a, S, rfl, L.same s1, wf, hn, e, k _ s1⟩
    · have e : wholeB S = false := by
        cases q : wholeB S with
        | false => rfl
        | true =>
          have z := (whole_iff.mp (wholeB_iff.mp q)).2
          rw [z] at c
          exact absurd c (by decide)
      rw [e] at k
      exact k _ s1
theorem sc_is_repair : FnScope ["links", "log", "after"] ["links", "log"] (defScope (top 50)) := ⟨rfl, rfl, rfl, by decide +kernel, rfl, by decide +kernel, by decide +kernel⟩
theorem ok_is_repair (Z : Tx P w K mg base) : Pr P w K mg base 7 "is_repair" (sp_is_repair K (He.ga K "Links")) := by
  refine Z.pr0 37 23 (d := d_is_repair) rfl rfl rfl rfl rfl sc_is_repair (fun vs H Q E h => ?_) (fun _ _ _ _ _ _ us hl => match us, hl with | [_, _], _ => rfl) (fun f cdv A outer s H vs Q E hr h => ?_)
  · obtain ⟨a, S, p, row, rfl, _⟩ := h
    rfl
  · obtain ⟨a, S, p, row, rfl, L, wf, hn, hS, k⟩ := h
    refine ⟨_, (pss_cons (ps_try_only (tb := fun W => tAsg (tCallS (sp_play K (He.ga K "Links")) (WE W) (tCons (tVar 0) (tCons (tVar 1) tNil))) (gName 2)) (ts := fun _ _ _ => tRet (tC (.bl false))) (Wout := fun _ _ _ _ => False) rfl rfl ⟨rfl, by decide, Or.inl (Z.glo 53)⟩ takes0 (fun W pn xe tk _ => pss_one (ps_set (i := 2) sc_is_repair.nd rfl (Or.inl rfl) (by exact (pcS (ok_play Z) hr (fun σ => passAt tk σ) (by exact (pa_cons (pv 0) (pa_cons (pv 1) pa_nil))))))) (fun a oe cls d pn _ _ => pss_one (ps_ret pe_bl))) (pss_one (ps_ret (pm0 (ok_Links_is_whole Z) hr (pv 2))))), ?_⟩
    refine ⟨_, rfl, _, rfl, a, S, p, row, rfl, L, wf, hn, hS, fun c b H1 B s1 nb b1 b2 b3 => ?_, fun c Bc d H1 hB s1 => ⟨true, ?_, fun _ e _ => ?_, fun q => nomatch q⟩⟩
    · unfold leads at k
      rw [c, Bool.true_and] at k
      exact ⟨_, rfl, _, _, _, rfl, B.ob, rfl, b, _, rfl, B, wf_after wf c, (by rw [after_n]; exact hn), fun H2 s2 => k H2 (Same.trans s1 s2)⟩
    · rcases hB with rfl | rfl
      · exact He.exm_ok (Z.fa 102 _ rfl)
      · exact He.exm_ok (Z.fa 103 _ rfl)
    · unfold leads at k
      rw [c, Bool.false_and] at k
      exact k H1 s1
theorem sc_is_least_repair : FnScope ["links", "log"] ["links", "log"] (defScope (top 51)) := ⟨rfl, rfl, rfl, by decide +kernel, rfl, by decide +kernel, by decide +kernel⟩
theorem ok_is_least_repair (Z : Tx P w K mg base) : Pr P w K mg base 8 "is_least_repair" (sp_is_least_repair K (He.ga K "Links")) := by
  refine Z.pr0 38 24 (d := d_is_least_repair) rfl rfl rfl rfl rfl sc_is_least_repair (fun vs H Q E h => ?_) (fun _ _ _ _ _ _ us hl => match us, hl with | [_, _], _ => rfl) (fun f cdv A outer s H vs Q E hr h => ?_)
  · obtain ⟨a, S, p, row, rfl, _⟩ := h
    rfl
  · obtain ⟨a, S, p, row, rfl, L, wf, hn, hS, k⟩ := h
    refine ⟨_, (pss_one (ps_ret (pe_and (pc (ok_is_repair Z) hr (pa_cons (pv 0) (pa_cons (pv 1) pa_nil))) (pe_one (pe_cmpR op_eq (pe_callB call_len_seq (by rfl) (Z.free 60) PySem.boot_len (pa_cons (pv 1) pa_nil)) (pc (ok_settled_debt Z) hr (pa_cons (pv 0) pa_nil)) (nomark _)))))), ?_⟩
    refine ⟨_, rfl, _, rfl, a, S, p, row, rfl, L, wf, hn, hS, fun H1 s1 => ⟨_, rfl, iteB (fun c => ?_) (fun c => ?_)⟩⟩
    · rw [c, Bool.true_and] at k
      have nl : lostL S = [] := by
        unfold leads at c
        rw [Bool.and_eq_true, wholeB_iff] at c
        rw [lostL_nil, nolost_iff]
        intro v hv e
        have q := lost_after wf c.1 hv e
        have z := nolost_iff.mp (of_whole c.2).1 v (by rw [after_n]; exact hv)
        exact z q
      refine ⟨_, rfl, _, _, rfl, Or.inl (Same.seq s1 hS), _, rfl, a, S, rfl, L.same s1, hn, fun H2 s2 => ?_⟩
      rw [nl, List.isEmpty_nil, if_pos rfl, List.length_map]
      refine ⟨rfl, ?_⟩
      rw [dec_int_nat]
      exact k H2 (Same.trans s1 s2)
    · rw [c, Bool.false_and] at k
      exact k H1 s1
end
end LL
namespace LL
open PySem PySem.Spec PyProof.Rows L2
open Evl (given given_yes given_no given_len)
/-! ### verdicts and certificates -/
def sp_is_legal : Sp := fun vs H Q _ => ∃ (p : Addr) (m : Nat) (c : Nat → Bool) (o : Int), vs = [.ref p, .int o] ∧ H p = some (.lst (mk m fun i => .bl (c i))) ∧ o.natAbs < m ∧ Q (.bl (decide (c o.natAbs ≠ decide (o < 0)))) H
def sp_check_log (K : PySem.W.Frag) : Sp := fun vs H Q _ => ∃ (n : Nat) (p : Addr) (row : List Int), vs = [.int (n : Int), .ref p] ∧ SqL K H p (row.map V.int) ∧ legal (fresh n) row = true ∧ n ≤ 60 ∧ RetS .non H Q
def sp_decided_by (K : PySem.W.Frag) : Sp := fun vs H Q _ => ∃ (n : Nat) (p : Addr) (row : List Int) (i : Int) (g : Nat), vs = [.int (n : Int), .ref p, .int i] ∧ i = (g : Int) ∧ SqL K H p (row.map V.int) ∧ legal (fresh n) row = true ∧ n ≤ 60 ∧ g ≤ n ∧ RetS (.int (dec (fresh n) row g row.length)) H Q
def vfs (q : Addr) (g i : V) (b : Bool) : List (Str × V) := [("out_nodes", .ref q), ("gap", g), ("index", i), ("whole", .bl b)]
def sp_vinit (K : PySem.W.Frag) (C : Addr) : Sp := fun vs H Q _ => ∃ (p dx q : Addr) (xs : List V) (g i : V), vs = [.ref p, .ref q, g, i] ∧ H p = some (.ins C dx []) ∧ SqL K H q xs ∧ xs.length ≤ 60 ∧
  ∀ r H', H r = none → (∀ b o, H b = some o → b ≠ p → H' b = some o) → H' p = some (.ins C dx (vfs r g i (decide (g = .non) && xs.isEmpty))) → H' r = some (.lst xs) → Q .non H'
def vgap (S : Sd) : V := match apart S with
  | [] => .non
  | g :: _ => .int (g : Int)
def vidx (n : Nat) (row : List Int) : V := match apart (after (fresh n) row) with
  | [] => .non
  | g :: _ => .int (dec (fresh n) row g row.length)
/-- a new verdict comes back -/
def RetV (C : Addr) (n : Nat) (row : List Int) (H : Hp) (Q : VK) : Prop := ∀ p dx r H', Same H H' → H' p = some (.ins C dx (vfs r (vgap (after (fresh n) row)) (vidx n row) (wholeB (after (fresh n) row)))) → H' r = some (.lst (nvs (outs (after (fresh n) row)))) → Q (.ref p) H'
def sp_verdict (K : PySem.W.Frag) (C : Addr) : Sp := fun vs H Q _ => ∃ (n : Nat) (p : Addr) (row : List Int), vs = [.int (n : Int), .ref p] ∧ SqL K H p (row.map V.int) ∧ legal (fresh n) row = true ∧ n ≤ 60 ∧ RetV C n row H Q
def RetT (xs : List V) (H : Hp) (Q : VK) : Prop := ∀ p H', Same H H' → H' p = some (.tup xs) → Q (.ref p) H'
def sp_certificate (K : PySem.W.Frag) : Sp := fun vs H Q _ => ∃ (n : Nat) (p : Addr) (row : List Int) (g k : Nat), vs = [.int (n : Int), .ref p, .int (g : Int)] ∧ SqL K H p (row.map V.int) ∧ legal (fresh n) row = true ∧ n ≤ 60 ∧ g ≤ n ∧ dec (fresh n) row g row.length = (k : Int) ∧
  RetT [.int (g : Int), .int (dec (fresh n) row g k), .int (k : Int)] H Q
def sp_loss (K : PySem.W.Frag) : Sp := fun vs H Q E => ∃ (n : Nat) (p : Addr) (row : List Int), vs = [.int (n : Int), .ref p] ∧ SqL K H p (row.map V.int) ∧ legal (fresh n) row = true ∧ n ≤ 60 ∧
  (lostL (after (fresh n) row) = [] → ∀ (d : Addr) (H' : Hp), Same H H' → H' d = some (.xd [("size", .int (n : Int))]) → E (.ref (He.ga K "NotLost")) (some d) H') ∧
  (∀ (g : Nat) (r : List Nat) (k : Nat), lostL (after (fresh n) row) = g :: r → dec (fresh n) row g row.length = (k : Int) → RetT [.int (g : Int), .int (dec (fresh n) row g k), .int (k : Int)] H Q)
section
variable {P : Program} {w : World} {K : PySem.W.Frag} {mg : Str → Option Value} {base : Heap}
theorem Tx.cV (Z : Tx P w K mg base) : Cls K (He.ga K "Verdict") := He.cls_ok (Z.fa 96 _ rfl)
theorem Tx.nOut (Z : Tx P w K mg base) : NoAttr K (He.ga K "Verdict") "out_nodes" := He.noat_ok (Z.fa 98 _ rfl)
theorem Tx.nGap (Z : Tx P w K mg base) : NoAttr K (He.ga K "Verdict") "gap" := He.noat_ok (Z.fa 99 _ rfl)
theorem Tx.nIndex (Z : Tx P w K mg base) : NoAttr K (He.ga K "Verdict") "index" := He.noat_ok (Z.fa 100 _ rfl)
theorem Tx.nWhole (Z : Tx P w K mg base) : NoAttr K (He.ga K "Verdict") "whole" := He.noat_ok (Z.fa 101 _ rfl)
theorem sc__is_legal : FnScope ["flags", "operation", "is_unlink"] ["flags", "operation"] (defScope (top 18)) := ⟨rfl, rfl, rfl, by decide +kernel, rfl, by decide +kernel, by decide +kernel⟩
theorem ok__is_legal (Z : Tx P w K mg base) : Pr P w K mg base 1 "_is_legal" sp_is_legal := by
  refine Z.pr0 3 3 (d := d__is_legal) rfl rfl rfl rfl rfl sc__is_legal (fun vs H Q E h => ?_) (fun _ _ _ _ _ _ us hl => match us, hl with | [_, _], _ => rfl) (fun f cdv A outer s H vs Q E hr h => ?_)
  · obtain ⟨p, m, c, o, rfl, _⟩ := h
    rfl
  · obtain ⟨p, m, c, o, rfl, hp, hm, k⟩ := h
    refine ⟨_, (pss_cons (ps_set (i := 2) sc__is_legal.nd rfl (Or.inl rfl) (pe_cmpR op_lt (pv 1) pe_int (nomark _))) (pss_one (ps_ret (pe_cmpR op_ne (pe_ix ix_list (pv 0) (pe_callB call_abs (by rfl) (Z.free 62) (by decide +kernel) (pa_cons (pv 1) pa_nil)) (fun _ _ => rfl)) (pv 2) (nomark _))))), ?_⟩
    refine ⟨_, rfl, _, _, rfl, rfl, ?_⟩
    refine ⟨_, rfl, _, rfl, _, rfl, _, _, _, _, rfl, rfl, SqL.of hp, mk_atI _ (abs_int o) hm, _, rfl, rfl, ?_⟩
    show Q (.bl (!decide (V.bl (c o.natAbs) = V.bl (decide (o < 0))))) H
    have e : (!decide (V.bl (c o.natAbs) = V.bl (decide (o < 0)))) = decide (c o.natAbs ≠ decide (o < 0)) := by
      cases c o.natAbs <;> cases decide (o < 0) <;> rfl
    rw [e]
    exact k
theorem sc_check_log : FnScope ["size", "log", "flags", "index", "operation"] ["size", "log"] (defScope (top 17)) := ⟨rfl, rfl, rfl, by decide +kernel, rfl, by decide +kernel, by decide +kernel⟩
theorem ok_check_log (Z : Tx P w K mg base) : Pr P w K mg base 4 "check_log" (sp_check_log K) := by
  refine Z.pr0 2 2 (d := d_check_log) rfl rfl rfl rfl rfl sc_check_log (fun vs H Q E h => ?_) (fun _ _ _ _ _ _ us hl => match us, hl with | [_, _], _ => rfl) (fun f cdv A outer s H vs Q E hr h => ?_)
  · obtain ⟨n, p, row, rfl, _⟩ := h
    rfl
  · obtain ⟨n, p, row, rfl, hS, hleg, hn, k⟩ := h
    refine ⟨_, (pss_cons (ps_expr (pc (ok_check_size Z) hr (pa_cons (pv 0) pa_nil))) (pss_cons (ps_set (i := 2) sc_check_log.nd rfl (Or.inl rfl) (pe_op op_rep (pe_lst (pa_cons pe_bl pa_nil)) (pe_op op_add (pv 0) pe_int))) (pss_one (ps_for PassesOwn.never rfl (pi_enum rfl (Z.free 70) (pa_cons (pv 1) pa_nil)) (pg_tup rfl (pgs_cons (pg_name (i := 3) sc_check_log.nd rfl (Or.inl rfl)) (pgs_cons (pg_name (i := 4) sc_check_log.nd rfl (Or.inl rfl)) pgs_nil))) (pss_cons (ps_expr (pc (ok_check_operation Z) hr (pa_cons (pv 0) (pa_cons (pv 4) (pa_cons (pv 3) pa_nil))))) (pss_cons (ps_if (pt_not (pt_val (pc (ok__is_legal Z) hr (pa_cons (pv 2) (pa_cons (pv 4) pa_nil))))) (pss_one ps_never) pss_nil) (pss_one (ps_asg (pe_cmpR op_lt (pv 4) pe_int (nomark _)) (pg_sub (pv 2) (pe_callB call_abs (by rfl) (Z.free 62) (by decide +kernel) (pa_cons (pv 4) pa_nil)) set_list))))))))), ?_⟩
    refine ⟨_, rfl, _, rfl, by omega, by omega, ?_⟩
    refine ⟨(by show 1 ≤ sizeLine; decide), fun q nq => ?_⟩
    refine ⟨_, rfl, _, _, rfl, rfl, _, _, _, rfl, rfl, upd_same, by omega, by omega, sz60 (by show 1 * _ ≤ _; omega), fun f nf => ?_⟩
    have s0 : Same H (upd (upd H q (.lst [.bl false])) f (.lst (List.replicate ((n : Int) + 1).toNat [V.bl false]).flatten)) := Same.trans (Same.up nq) (Same.up nf)
    refine ⟨_, rfl, _, _, rfl, Same.seq s0 hS, for_it (walk_enum (xs := row.map V.int)) (fun i σ H' => ∃ v3 v4 : Option V, σ = [some (.int (n : Int)), some (.ref p), some (.ref f), v3, v4] ∧ Same H H' ∧ H' f = some (.lst (mk (n + 1) fun j => .bl ((after (fresh n) (row.take i)).F j))))
      ⟨none, none, rfl, s0, ?_⟩ (fun i σ H' _ ⟨_, _, _, s1, _⟩ => Same.seq s1 hS) ?_ ?_⟩
    · rw [rep_mk, show ((n : Int) + 1).toNat = n + 1 by omega]
      exact upd_same
    · rintro i x σ H' H2 hi ⟨v3, v4, rfl, s1, ef⟩ ⟨T, x1, x2, rfl, hT, rfl, y1, y2⟩
      cases y1
      obtain ⟨o, ho, rfl⟩ := row_at y2
      have hok := legal_at hleg ho
      have ok := okop_iff.mp hok
      rw [after_n] at ok
      have ok2 : o.natAbs ≤ n := ok.2.1
      have ef2 : upd H' T (.tup [.int (i : Nat), .int o]) f = some (.lst (mk (n + 1) fun j => .bl ((after (fresh n) (row.take i)).F j))) := by
        rw [upd_ne (ne_of_none ef hT)]
        exact ef
      refine ⟨T, _, rfl, SqT.of upd_same, rfl, _, _, rfl, _, _, rfl, rfl, ?_⟩
      refine ⟨_, rfl, _, rfl, _, rfl, _, _, _, rfl, fun _ => ?_, fun z => absurd ⟨ok.1, by omega⟩ z⟩
      refine ⟨_, rfl, _, rfl, f, n + 1, _, o, rfl, ef2, by omega, _, rfl, ?_⟩
      have e1 : decide ((after (fresh n) (row.take i)).F o.natAbs ≠ decide (o < 0)) = true := by
        refine decide_eq_true fun z => ?_
        rw [ok.2.2] at z
        by_cases c : o < 0
        · rw [decide_eq_true c, decide_eq_false (by omega)] at z
          cases z
        · rw [decide_eq_false c, decide_eq_true (by omega)] at z
          cases z
      rw [e1]
      refine ⟨_, rfl, _, _, rfl, rfl, _, rfl, _, rfl, _, rfl, _, _, _, _, rfl, rfl, ef2, mk_ixN _ (abs_int o) (by omega), ?_⟩
      refine ⟨_, _, rfl, Same.mut (Same.new s1 hT) (upd_free nf), ?_⟩
      rw [upd_same, mk_set, after_take ho]
      refine congrArg some (congrArg HO.lst (mk_congr fun j hj => ?_))
      unfold updN
      by_cases c : j = o.natAbs
      · rw [if_pos c, c, okop_F hok]
      · rw [if_neg c]
        show _ = V.bl (updN _ _ _ j)
        rw [updN_ne _ _ c]
    · rintro σ H' ⟨v3, v4, rfl, s1, _⟩
      exact k _ s1
theorem sc_decided_by : FnScope ["size", "log", "gap", "links", "state", "decided", "index", "operation", "new_state"] ["size", "log", "gap"] (defScope (top 53)) := ⟨rfl, rfl, rfl, by decide +kernel, rfl, by decide +kernel, by decide +kernel⟩
theorem ok_decided_by (Z : Tx P w K mg base) : Pr P w K mg base 5 "decided_by" (sp_decided_by K) := by
  refine Z.pr0 39 25 (d := d_decided_by) rfl rfl rfl rfl rfl sc_decided_by (fun vs H Q E h => ?_) (fun _ _ _ _ _ _ us hl => match us, hl with | [_, _, _], _ => rfl) (fun f cdv A outer s H vs Q E hr h => ?_)
  · obtain ⟨n, p, row, i, g, rfl, _⟩ := h
    rfl
  · obtain ⟨n, p, row, i, g, rfl, rfl, hS, hleg, hn, hg, k⟩ := h
    refine ⟨_, (pss_cons (ps_expr (pc (ok_check_log Z) hr (pa_cons (pv 0) (pa_cons (pv 1) pa_nil)))) (pss_cons (ps_expr (pc (ok_check_gap Z) hr (pa_cons (pv 0) (pa_cons (pv 2) pa_nil)))) (pss_cons (ps_set (i := 3) sc_decided_by.nd rfl (Or.inl rfl) (pmk (ok_Links___init__ Z) hr (pa_cons (pv 0) pa_nil))) (pss_cons (ps_set (i := 4) sc_decided_by.nd rfl (Or.inl rfl) (pc (ok_gap_state Z) hr (pa_cons (pv 3) (pa_cons (pv 2) pa_nil)))) (pss_cons (ps_set (i := 5) sc_decided_by.nd rfl (Or.inl rfl) (pe_un un_neg pe_int)) (pss_cons (ps_for PassesOwn.never rfl (pi_enum rfl (Z.free 70) (pa_cons (pv 1) pa_nil)) (pg_tup rfl (pgs_cons (pg_name (i := 6) sc_decided_by.nd rfl (Or.inl rfl)) (pgs_cons (pg_name (i := 7) sc_decided_by.nd rfl (Or.inl rfl)) pgs_nil))) (pss_cons (ps_expr (pm (ok_Links_apply_at Z) hr (pv 3) (pa_cons (pv 7) (pa_cons (pv 6) pa_nil)))) (pss_cons (ps_set (i := 8) sc_decided_by.nd rfl (Or.inl rfl) (pc (ok_gap_state Z) hr (pa_cons (pv 3) (pa_cons (pv 2) pa_nil)))) (pss_cons (ps_if (pt_cmpR op_ne (pv 8) (pv 4) (nomark _)) (pss_one (ps_set (i := 5) sc_decided_by.nd rfl (Or.inl rfl) (pv 6))) pss_nil) (pss_one (ps_set (i := 4) sc_decided_by.nd rfl (Or.inl rfl) (pv 8))))))) (pss_one (ps_ret (pv 5))))))))), ?_⟩
    refine ⟨_, rfl, _, rfl, n, p, row, rfl, hS, hleg, hn, fun H0 s0 => ?_⟩
    refine ⟨_, rfl, _, rfl, _, _, rfl, by omega, by omega, ?_⟩
    refine ⟨_, rfl, fun x dx nx ndx ne => ?_⟩
    refine ⟨x, dx, n, rfl, upd_same, hn, fun a H1 ea ed L kp n1 n2 n3 => ⟨rfl, ?_⟩⟩
    subst ea
    subst ed
    have s1 : Same H0 H1 := fun b o e => kp b o (by rw [upd_ne (ne_of_none e nx), upd_ne (ne_of_none e ndx)]; exact e) (ne_of_none e nx)
    have s01 : Same H H1 := Same.trans s0 s1
    have f1 : H a.l = none := Same.free s0 (upd_free (upd_free n1))
    have f2 : H a.r = none := Same.free s0 (upd_free (upd_free n2))
    have f3 : H a.f = none := Same.free s0 (upd_free (upd_free n3))
    refine ⟨_, rfl, _, rfl, a, fresh n, _, g, rfl, rfl, L, hg, ?_⟩
    refine ⟨_, rfl, ?_⟩
    refine ⟨_, rfl, _, _, rfl, Same.seq s01 hS, for_it (walk_enum (xs := row.map V.int)) (fun i σ H' => ∃ v6 v7 v8 : Option V, σ = [some (.int (n : Int)), some (.ref p), some (.int (g : Int)), some (.ref a.p), some (.str (gstr (gat (fresh n) row i g))), some (.int (dec (fresh n) row g i)), v6, v7, v8] ∧ Same H H' ∧ LinksAt (He.ga K "Links") H' a (after (fresh n) (row.take i)))
      ⟨none, none, none, rfl, s01, L⟩ (fun i σ H' _ ⟨_, _, _, _, s2, _⟩ => Same.seq s2 hS) ?_ ?_⟩
    · rintro i x σ H' H2 hi ⟨v6, v7, v8, rfl, s2, L1⟩ ⟨T, x1, x2, rfl, hT, rfl, y1, y2⟩
      cases y1
      obtain ⟨o, ho, rfl⟩ := row_at y2
      have L2' := L1.same (Same.up (o := .tup [.int (i : Nat), .int o]) hT)
      have wf : WF (after (fresh n) (row.take i)) := wf_after (wf_fresh n) (legal_take hleg i)
      have hok := legal_at hleg ho
      refine ⟨T, _, rfl, SqT.of upd_same, rfl, _, _, rfl, _, _, rfl, rfl, ?_⟩
      refine ⟨_, rfl, _, _, _, rfl, L2'.ob, rfl, _, rfl, _, rfl, a, _, o, _, rfl, L2', wf, (by rw [after_n]; exact hn), fun _ H3 L3 kp3 => ?_, fun z => by rw [hok] at z; cases z⟩
      rw [← after_take ho] at L3
      have s3 : Same H H3 := Keep.old (Same.new s2 hT) kp3 f1 f2 f3
      refine ⟨_, rfl, _, rfl, a, _, _, g, rfl, rfl, L3, (by rw [after_n]; exact hg), ?_⟩
      refine ⟨_, rfl, _, rfl, rfl, _, rfl, ?_⟩
      show if (!decide (V.str (gstr (gat (fresh n) row (i + 1) g)) = V.str (gstr (gat (fresh n) row i g)))) = true then _ else _
      rw [gstr_eq]
      refine iteB (fun c => ?_) (fun c => ?_)
      · have c1 : ¬ gat (fresh n) row (i + 1) g = gat (fresh n) row i g := by simpa using c
        have e : dec (fresh n) row g (i + 1) = (i : Int) := by
          show (if _ then _ else _) = _
          rw [if_neg c1]
        refine ⟨_, rfl, _, rfl, some (.int ((i : Nat) : Int)), some (.int o), some (.str (gstr (gat (fresh n) row (i + 1) g))), ?_, s3, L3⟩
        rw [e] <;> rfl
      · have c1 : gat (fresh n) row (i + 1) g = gat (fresh n) row i g := by simpa using c
        have e : dec (fresh n) row g (i + 1) = dec (fresh n) row g i := by
          show (if _ then _ else _) = _
          rw [if_pos c1]
        refine ⟨_, rfl, some (.int ((i : Nat) : Int)), some (.int o), some (.str (gstr (gat (fresh n) row (i + 1) g))), ?_, s3, L3⟩
        rw [e] <;> rfl
    · rintro σ H' ⟨v6, v7, v8, rfl, s2, _⟩
      rw [List.length_map]
      exact ⟨_, rfl, k _ s2⟩
end
end LL
namespace LL
open PySem PySem.Spec PyProof.Rows L2
/-! ### verdicts and certificates, made -/
theorem dec_lost {n : Nat} {row : List Int} {g : Nat} {r : List Nat} (hleg : legal (fresh n) row = true) (e : lostL (after (fresh n) row) = g :: r) : g ≤ n ∧ ∃ k : Nat, k < row.length ∧ dec (fresh n) row g row.length = (k : Int) := by
  have hm : g ∈ lostL (after (fresh n) row) := by rw [e]; exact List.mem_cons_self
  have hm := mem_lostL.mp hm
  rw [after_n] at hm
  have nl : NoLost (fresh n) := (of_whole (whole_fresh n)).1
  have eg : gat (fresh n) row row.length g = .lost := by
    unfold gat
    rw [List.take_length]
    exact hm.2
  obtain ⟨x, hx, ex⟩ := fnd_has (wf_fresh n) nl hleg (Nat.le_refl _) hm.1 eg
  obtain ⟨a, b, c, d, f⟩ := fnd_mem (wf_fresh n) hleg (Nat.le_refl _) x hx
  rw [ex] at d
  exact ⟨hm.1, _, c, d⟩
theorem SqL.past {K : PySem.W.Frag} {H H' : Hp} {p q C dx : Addr} {fs : List (Str × V)} {xs : List V} (hp : H p = some (.ins C dx fs)) (hq : SqL K H q xs) (k : ∀ b o, H b = some o → b ≠ p → H' b = some o) : SqL K H' q xs := by
  rcases hq with (h | ⟨o, h⟩) | h
  · exact .inl (.inl (k _ _ h (ne_of h hp (by intro z; cases z))))
  · exact .inl (.inr ⟨o, k _ _ h (ne_of h hp (by intro z; cases z))⟩)
  · exact .inr h
theorem cutV_to (xs : List V) (k : Nat) : cutV xs none (some (k : Int)) = xs.take k := by
  unfold cutV
  rw [HT.sIx_none, HT.sIx_nat, Nat.sub_zero, List.drop_zero, List.take_eq_take_iff]
  omega
theorem cutV_from (xs : List V) (k : Nat) : cutV xs (some (k : Int)) none = xs.drop k := by
  unfold cutV
  rw [HT.sIx_none, HT.sIx_nat]
  by_cases h : k ≤ xs.length
  · rw [Nat.min_eq_left h, List.take_of_length_le (by rw [List.length_drop]; omega)]
  · rw [Nat.min_eq_right (by omega), Nat.sub_self, List.take_zero, List.drop_eq_nil_of_le (by omega)]
theorem cutV_mid (xs : List V) (a b : Nat) (h : b ≤ xs.length) (hab : a ≤ b) : cutV xs (some (a : Int)) (some (b : Int)) = (xs.take b).drop a := by
  unfold cutV
  rw [HT.sIx_nat, HT.sIx_nat, Nat.min_eq_left h, Nat.min_eq_left (by omega), List.drop_take]
section
variable {P : Program} {w : World} {K : PySem.W.Frag} {mg : Str → Option Value} {base : Heap}
theorem sc_Verdict___init__ : FnScope ["self", "out_nodes", "gap", "index"] ["self", "out_nodes", "gap", "index"] (defScope (inClass (top 55) 0)) := ⟨rfl, rfl, rfl, by decide +kernel, rfl, by decide +kernel, by decide +kernel⟩
theorem ok_Verdict___init__ (Z : Tx P w K mg base) : Pi P w K mg base 1 "Verdict" (He.ga K "Verdict") (sp_vinit K (He.ga K "Verdict")) := by
  refine Z.pi0 40 97 59 (d := d_Verdict___init__) rfl rfl rfl rfl rfl rfl sc_Verdict___init__ (fun vs H Q E h => ?_) (fun _ _ _ _ _ _ us hl => match us, hl with | [_, _, _, _], _ => rfl) (fun f cdv A outer s H vs Q E hr h => ?_)
  · obtain ⟨p, dx, q, xs, g, i, rfl, _⟩ := h
    rfl
  · obtain ⟨p, dx, q, xs, g, i, rfl, hp, hq, hlen, k⟩ := h
    refine ⟨_, (pss_cons (ps_fld (pv 0) (pe_callTy call_list_of (by rfl) (Z.free 63) (by decide +kernel) (pa_cons (pv 1) pa_nil)) rfl) (pss_cons (ps_fld (pv 0) (pv 2) rfl) (pss_cons (ps_fld (pv 0) (pv 3) rfl) (pss_one (ps_fld (pv 0) (pe_and (pe_cmpR op_isN (pv 2) pe_non (nomark _)) (pe_one (pe_cmpR op_eq (pe_callB call_len_seq (by rfl) (Z.free 60) PySem.boot_len (pa_cons (pv 1) pa_nil)) pe_int (nomark _)))) rfl))))), ?_⟩
    refine ⟨_, rfl, _, _, rfl, Or.inl hq, fun r nr => ?_⟩
    have pr : p ≠ r := ne_of_none hp nr
    refine ⟨_, rfl, p, _, dx, _, rfl, (by rw [upd_ne pr]; exact hp), Z.cV, Z.nOut, (by show 0 < 1000; decide), ?_⟩
    refine ⟨_, rfl, _, rfl, p, _, dx, _, rfl, upd_same, Z.cV, Z.nGap, (by show 1 < 1000; decide), ?_⟩
    refine ⟨_, rfl, _, rfl, p, _, dx, _, rfl, upd_same, Z.cV, Z.nIndex, (by show 2 < 1000; decide), ?_⟩
    have ex : ∀ b : Bool, b = (decide (g = .non) && xs.isEmpty) → Q .non (upd (upd (upd (upd (upd H r (.lst xs)) p (.ins (He.ga K "Verdict") dx (putF "out_nodes" (.ref r) []))) p (.ins (He.ga K "Verdict") dx (putF "gap" g (putF "out_nodes" (.ref r) [])))) p (.ins (He.ga K "Verdict") dx (putF "index" i (putF "gap" g (putF "out_nodes" (.ref r) []))))) p (.ins (He.ga K "Verdict") dx (vfs r g i b))) := by
      rintro b rfl
      refine k r _ nr (fun b o e hb => ?_) upd_same ?_
      · rw [upd_ne hb, upd_ne hb, upd_ne hb, upd_ne hb, upd_ne (ne_of_none e nr)]
        exact e
      · rw [upd_ne (Ne.symm pr), upd_ne (Ne.symm pr), upd_ne (Ne.symm pr), upd_ne (Ne.symm pr), upd_same]
    refine ⟨_, rfl, rfl, decide (g = .non), rfl, ?_⟩
    cases c : decide (g = .non) with
    | false =>
      refine ⟨_, rfl, p, _, dx, _, rfl, upd_same, Z.cV, Z.nWhole, (by show 3 < 1000; decide), ?_⟩
      exact ex false (by rw [c] <;> rfl)
    | true =>
      have sq : SqL K (upd (upd (upd (upd H r (.lst xs)) p (.ins (He.ga K "Verdict") dx (putF "out_nodes" (.ref r) []))) p (.ins (He.ga K "Verdict") dx (putF "gap" g (putF "out_nodes" (.ref r) [])))) p (.ins (He.ga K "Verdict") dx (putF "index" i (putF "gap" g (putF "out_nodes" (.ref r) []))))) q xs := SqL.past hp hq fun b o e hb => by
        rw [upd_ne hb, upd_ne hb, upd_ne hb, upd_ne (ne_of_none e nr)]
        exact e
      refine ⟨_, rfl, ⟨q, xs, rfl, Or.inl sq, rfl, ?_⟩⟩
      refine ⟨_, rfl, p, _, dx, _, rfl, upd_same, Z.cV, Z.nWhole, (by show 3 < 1000; decide), ?_⟩
      refine ex _ ?_
      rw [c, Bool.true_and]
      cases xs with
      | nil => rfl
      | cons x xr =>
        refine decide_eq_false fun z => ?_
        injection z with z
        rw [List.length_cons] at z
        omega
theorem sc_verdict : FnScope ["size", "log", "links", "states", "gap", "state"] ["size", "log"] (defScope (top 56)) := ⟨rfl, rfl, rfl, by decide +kernel, rfl, by decide +kernel, by decide +kernel⟩
theorem ok_verdict (Z : Tx P w K mg base) : Pr P w K mg base 6 "verdict" (sp_verdict K (He.ga K "Verdict")) := by
  refine Z.pr0 41 26 (d := d_verdict) rfl rfl rfl rfl rfl sc_verdict (fun vs H Q E h => ?_) (fun _ _ _ _ _ _ us hl => match us, hl with | [_, _], _ => rfl) (fun f cdv A outer s H vs Q E hr h => ?_)
  · obtain ⟨n, p, row, rfl, _⟩ := h
    rfl
  · obtain ⟨n, p, row, rfl, hS, hleg, hn, k⟩ := h
    refine ⟨_, (pss_cons (ps_set (i := 2) sc_verdict.nd rfl (Or.inl rfl) (pc (ok_replay Z) hr (pa_cons (pv 0) (pa_cons (pv 1) pa_nil)))) (pss_cons (ps_set (i := 3) sc_verdict.nd rfl (Or.inl rfl) (pc (ok_gap_states Z) hr (pa_cons (pv 2) pa_nil))) (pss_cons (ps_for PassesOwn.never rfl (pi_enum rfl (Z.free 70) (pa_cons (pv 3) pa_nil)) (pg_tup rfl (pgs_cons (pg_name (i := 4) sc_verdict.nd rfl (Or.inl rfl)) (pgs_cons (pg_name (i := 5) sc_verdict.nd rfl (Or.inl rfl)) pgs_nil))) (pss_one (ps_if (pt_cmpR op_ne (pv 5) pe_str (nomark _)) (pss_one (ps_ret (pmk (ok_Verdict___init__ Z) hr (pa_cons (pm0 (ok_Links_outs Z) hr (pv 2)) (pa_cons (pv 4) (pa_cons (pc (ok_decided_by Z) hr (pa_cons (pv 0) (pa_cons (pv 1) (pa_cons (pv 4) pa_nil)))) pa_nil)))))) pss_nil))) (pss_one (ps_ret (pmk (ok_Verdict___init__ Z) hr (pa_cons (pm0 (ok_Links_outs Z) hr (pv 2)) (pa_cons pe_non (pa_cons pe_non pa_nil))))))))), ?_⟩
    refine ⟨_, rfl, _, rfl, n, p, row, rfl, hS, hleg, hn, fun a H1 L s0 nx f1 f2 f3 => ?_⟩
    have hn2 : (after (fresh n) row).n = n := after_n _ _
    refine ⟨_, rfl, a, _, rfl, L, (by rw [hn2]; exact hn), fun t H2 nt s2 e2 => ?_⟩
    have L2' := L.same s2
    have s02 := Same.trans s0 s2
    -- a new verdict, at any rest
    have mkV : ∀ (q : Addr) (H4 : Hp) (g i : V), Same H H4 → H4 q = some (.lst (nvs (outs (after (fresh n) row)))) → g = vgap (after (fresh n) row) → i = vidx n row → 
        ∀ x dx, H4 x = none → H4 dx = none → dx ≠ x → sp_vinit K (He.ga K "Verdict") [.ref x, .ref q, g, i] (upd (upd H4 dx (.own x)) x (.ins (He.ga K "Verdict") dx [])) (fun u H5 => u = .non ∧ Q (.ref x) H5) E0 := by
      rintro q H4 g i s4 eq rfl rfl x dx nx ndx ne
      have ol : (outs (after (fresh n) row)).length ≤ 60 := by
        have := List.length_filter_le (after (fresh n) row).F (nodes (after (fresh n) row).n)
        rw [nodes_len] at this
        exact Nat.le_trans this (by rw [hn2]; exact hn)
      refine ⟨x, dx, q, _, _, _, rfl, upd_same, SqL.of (by rw [upd_ne (ne_of_none eq nx), upd_ne (ne_of_none eq ndx)]; exact eq), (by rw [nvs_len]; exact ol), fun r H5 nr kp ex er => ⟨rfl, ?_⟩⟩
      refine k x dx r H5 (fun b o e => ?_) ?_ er
      · have e4 := s4 b o e
        exact kp b o (by rw [upd_ne (ne_of_none e4 nx), upd_ne (ne_of_none e4 ndx)]; exact e4) (ne_of_none e4 nx)
      · rw [ex]
        refine congrArg (fun b => some (HO.ins (He.ga K "Verdict") dx (vfs r (vgap (after (fresh n) row)) (vidx n row) b))) ?_
        have e1 : decide (vgap (after (fresh n) row) = .non) = (apart (after (fresh n) row)).isEmpty := by
          unfold vgap
          cases apart (after (fresh n) row) <;> rfl
        have e3 : (nvs (outs (after (fresh n) row))).isEmpty = (outs (after (fresh n) row)).isEmpty := by
          unfold nvs
          cases outs (after (fresh n) row) <;> rfl
        rw [e1, e3]
        cases c : wholeB (after (fresh n) row) with
        | true =>
          have z := whole_iff.mp (wholeB_iff.mp c)
          rw [z.1, z.2] <;> rfl
        | false =>
          cases c1 : apart (after (fresh n) row) with
          | cons _ _ => rfl
          | nil =>
            cases c2 : outs (after (fresh n) row) with
            | cons _ _ => rfl
            | nil => rw [wholeB_iff.mpr (whole_iff.mpr ⟨c1, c2⟩)] at c; cases c
    refine ⟨_, rfl, _, _, rfl, SqL.of e2, for_it (walk_enum (xs := mk ((after (fresh n) row).n + 1) fun v => .str (gstr (gst (after (fresh n) row) v)))) (fun i σ H' => ∃ v4 v5 : Option V, σ = [some (.int (n : Int)), some (.ref p), some (.ref a.p), some (.ref t), v4, v5] ∧ Same H2 H' ∧ ∀ j, j < i → gst (after (fresh n) row) j = .joined)
      ⟨none, none, rfl, Same.refl _, fun j hj => absurd hj (Nat.not_lt_zero j)⟩ (fun i σ H' _ ⟨_, _, _, s3, _⟩ => Same.seq s3 (SqL.of e2)) ?_ ?_⟩
    · rintro i x σ H' H3 hi ⟨v4, v5, rfl, s3, all⟩ ⟨T, x1, x2, rfl, hT, rfl, y1, y2⟩
      cases y1
      rw [mk_len] at hi
      replace y2 : (mk ((after (fresh n) row).n + 1) fun v => V.str (gstr (gst (after (fresh n) row) v)))[i]? = some x2 := y2
      rw [mk_at _ hi] at y2
      cases y2
      have s4 : Same H2 (upd H' T (.tup [.int (i : Nat), .str (gstr (gst (after (fresh n) row) i))])) := Same.new s3 hT
      refine ⟨T, _, rfl, SqT.of upd_same, rfl, _, _, rfl, _, _, rfl, rfl, ?_⟩
      refine ⟨_, rfl, rfl, _, rfl, ?_⟩
      show if (!decide (V.str (gstr (gst (after (fresh n) row) i)) = V.str "joined")) = true then _ else _
      rw [gstr_joined]
      refine iteB (fun c => ?_) (fun c => ?_)
      · have c1 : ¬ gst (after (fresh n) row) i = .joined := by simpa using c
        have ea : ∃ r, apart (after (fresh n) row) = i :: r := by
          unfold apart
          have e5 : List.range ((after (fresh n) row).n + 1) = List.range i ++ (List.range ((after (fresh n) row).n + 1 - i)).map (i + ·) := by
            rw [← List.range_add, Nat.add_sub_cancel' (Nat.le_of_lt hi)]
          rw [e5, List.filter_append]
          have e6 : (List.range i).filter (fun v => decide (gst (after (fresh n) row) v ≠ .joined)) = [] := by
            rw [List.filter_eq_nil_iff]
            intro v hv
            simp [all v (List.mem_range.mp hv)]
          rw [e6, List.nil_append]
          obtain ⟨m, hm⟩ : ∃ m, (after (fresh n) row).n + 1 - i = m + 1 := ⟨(after (fresh n) row).n - i, by omega⟩
          rw [hm, List.range_succ_eq_map, List.map_cons, List.filter_cons]
          rw [if_pos (by show decide (gst (after (fresh n) row) (i + 0) ≠ .joined) = true; exact decide_eq_true c1)]
          exact ⟨_, rfl⟩
        obtain ⟨r, ea⟩ := ea
        have eg : vgap (after (fresh n) row) = .int (i : Int) := by
          unfold vgap
          rw [ea]
        have ei : vidx n row = .int (dec (fresh n) row i row.length) := by
          unfold vidx
          rw [ea]
        refine ⟨_, rfl, _, _, _, rfl, (L2'.same s4).ob, rfl, a, _, rfl, L2'.same s4, (by rw [hn2]; exact hn), fun q H5 nq s5 e5 => ?_⟩
        have s05 := Same.trans (Same.trans s02 s4) s5
        refine ⟨_, rfl, _, rfl, _, rfl, _, rfl, n, p, row, _, i, rfl, rfl, Same.seq s05 hS, hleg, hn, (by rw [hn2] at hi; omega), fun H6 s6 => ?_⟩
        exact fun x dx nx ndx ne => mkV q H6 _ _ (Same.trans s05 s6) (s6 _ _ e5) eg.symm ei.symm x dx nx ndx ne
      · have c1 : gst (after (fresh n) row) i = .joined := by simpa using c
        refine ⟨_, _, rfl, s4, fun j hj => ?_⟩
        by_cases e : j < i
        · exact all j e
        · have ej : j = i := by omega
          subst ej
          exact c1
    · rintro σ H' ⟨v4, v5, rfl, s3, all⟩
      rw [mk_len] at all
      have ea : apart (after (fresh n) row) = [] := apart_nil.mpr fun v hv => all v (by omega)
      have eg : vgap (after (fresh n) row) = .non := by
        unfold vgap
        rw [ea]
      have ei : vidx n row = .non := by
        unfold vidx
        rw [ea]
      refine ⟨_, rfl, _, _, _, rfl, (L2'.same s3).ob, rfl, a, _, rfl, L2'.same s3, (by rw [hn2]; exact hn), fun q H5 nq s5 e5 => ?_⟩
      exact fun x dx nx ndx ne => mkV q H5 _ _ (Same.trans (Same.trans s02 s3) s5) e5 eg.symm ei.symm x dx nx ndx ne
theorem sc__certificate : FnScope ["size", "log", "gap", "second", "first"] ["size", "log", "gap"] (defScope (top 58)) := ⟨rfl, rfl, rfl, by decide +kernel, rfl, by decide +kernel, by decide +kernel⟩
theorem ok__certificate (Z : Tx P w K mg base) : Pr P w K mg base 6 "_certificate" (sp_certificate K) := by
  refine Z.pr0 42 27 (d := d__certificate) rfl rfl rfl rfl rfl sc__certificate (fun vs H Q E h => ?_) (fun _ _ _ _ _ _ us hl => match us, hl with | [_, _, _], _ => rfl) (fun f cdv A outer s H vs Q E hr h => ?_)
  · obtain ⟨n, p, row, g, m, rfl, _⟩ := h
    rfl
  · obtain ⟨n, p, row, g, m, rfl, hS, hleg, hn, hg, hm, k⟩ := h
    refine ⟨_, (pss_cons (ps_set (i := 3) sc__certificate.nd rfl (Or.inl rfl) (pc (ok_decided_by Z) hr (pa_cons (pv 0) (pa_cons (pv 1) (pa_cons (pv 2) pa_nil))))) (pss_cons (ps_set (i := 4) sc__certificate.nd rfl (Or.inl rfl) (pc (ok_decided_by Z) hr (pa_cons (pv 0) (pa_cons (pe_slice sl_list (pv 1) po_none (po_some (pv 3))) (pa_cons (pv 2) pa_nil))))) (pss_one (ps_ret (pe_tup (pa_cons (pv 2) (pa_cons (pv 4) (pa_cons (pv 3) pa_nil)))))))), ?_⟩
    refine ⟨_, rfl, _, rfl, _, rfl, n, p, row, _, g, rfl, rfl, hS, hleg, hn, hg, fun H1 s1 => ?_⟩
    have hlt : m < row.length := by
      have := (dec_lt (fresh n) row g row.length).2
      omega
    rw [hm]
    refine ⟨_, rfl, _, rfl, _, rfl, m, rfl, p, _, rfl, Same.seq s1 hS, fun q nq => ?_⟩
    rw [cutV_to, ← List.map_take]
    have s2 : Same H (upd H1 q (.lst ((row.take m).map V.int))) := Same.new s1 nq
    refine ⟨_, rfl, n, q, row.take m, _, g, rfl, rfl, SqL.of upd_same, legal_take hleg m, hn, hg, fun H3 s3 => ?_⟩
    have e : dec (fresh n) (row.take m) g (row.take m).length = dec (fresh n) row g m := by
      rw [List.length_take, Nat.min_eq_left (Nat.le_of_lt hlt)]
      exact dec_take _ _ _ (Nat.le_refl m)
    rw [e]
    exact ⟨_, rfl, _, rfl, _, rfl, (by show 3 ≤ sizeLine; decide), fun t nt => k t _ (Same.new (Same.trans s2 s3) nt) upd_same⟩
theorem sc_loss_certificate : FnScope ["size", "log", "lost"] ["size", "log"] (defScope (top 59)) := ⟨rfl, rfl, rfl, by decide +kernel, rfl, by decide +kernel, by decide +kernel⟩
theorem ok_loss_certificate (Z : Tx P w K mg base) : Pr P w K mg base 7 "loss_certificate" (sp_loss K) := by
  refine Z.prX 43 28 (d := d_loss_certificate) rfl rfl rfl rfl rfl sc_loss_certificate (fun vs H Q E h => ?_) (fun _ _ _ _ _ _ us hl => match us, hl with | [_, _], _ => rfl) (fun f cdv A outer s H vs Q E hr h => ?_)
  · obtain ⟨n, p, row, rfl, _⟩ := h
    rfl
  · obtain ⟨n, p, row, rfl, hS, hleg, hn, k1, k2⟩ := h
    refine ⟨_, (pss_cons (ps_set (i := 2) sc_loss_certificate.nd rfl (Or.inl rfl) (pc (ok_lost_gaps Z) hr (pa_cons (pc (ok_replay Z) hr (pa_cons (pv 0) (pa_cons (pv 1) pa_nil))) pa_nil))) (pss_cons (ps_if (pt_not (pt_truth (pv 2) (by intro _; rfl))) (pss_one (ps_raise rfl (takes_of rfl rfl rfl rfl) (pmk_NotLost Z hr (pa_cons (pv 0) pa_nil)))) pss_nil) (pss_one (ps_ret (pc (ok__certificate Z) hr (pa_cons (pv 0) (pa_cons (pv 1) (pa_cons (pe_ix ix_list (pv 2) pe_int (fun _ _ => rfl)) pa_nil)))))))), ?_⟩
    refine ⟨_, rfl, _, rfl, n, p, row, rfl, hS, hleg, hn, fun a H1 L s1 nx f1 f2 f3 => ?_⟩
    have hn2 : (after (fresh n) row).n = n := after_n _ _
    refine ⟨a, _, rfl, L, (by rw [hn2]; exact hn), fun t H2 nt s2 e2 => ?_⟩
    have s02 := Same.trans s1 s2
    cases c : lostL (after (fresh n) row) with
    | nil =>
      rw [c] at e2
      exact ⟨_, rfl, _, Or.inl ⟨_, SqL.of e2, rfl⟩, _, rfl, _, rfl, fun d hd => k1 c d _ (Same.trans s02 (Same.up hd)) upd_same⟩
    | cons g r =>
      obtain ⟨hg, m, hm, ed⟩ := dec_lost hleg c
      rw [c] at e2
      refine ⟨_, rfl, _, Or.inl ⟨_, SqL.of e2, rfl⟩, ?_⟩
      refine ⟨_, rfl, _, rfl, _, rfl, _, _, _, _, rfl, rfl, SqL.of e2, atI_nat (nvs_get (l := g :: r) (i := 0) (v := g) rfl), n, p, row, g, m, rfl, Same.seq s02 hS, hleg, hn, hg, ed, fun q H' s3 e3 => k2 g r m c ed q H' (Same.trans s02 s3) e3⟩
end
end LL
namespace LL
open PySem PySem.Spec PyProof.Rows L2
/-! ### str(x), x of a class with its own __str__ -/
section
variable {X : Cx} {n j : Nat} {C : Addr} {sp : Sp} {E : XK} {W : WX}
theorem str_new_own {prog : Program} {w : World} {v : Value} : MeetsIn prog w (Builtin.«str.__new__» ⟨[.type "str", v], []⟩) (fun A R s => wpAny (model prog w) A.in1 (Builtin.Str.strOf v) (fun r s' => R (.ok (.ret r)) s') (fun e s' => R (.error e) s') s) := by
  refine MeetsIn.of_wp fun A R s h => ?_
  rw [str_new_tree v]
  refine wpAny_bind (wpAny_pure ?_)
  refine wpAny_bind (wpAny_of_eq isSubtype_str_str ?_)
  exact wpAny_bind (wpAny_mono h (fun r s' h' => wpAny_pure ⟨_, rfl, h'⟩) fun _ _ e => e)
theorem str_own (c : Pm X.prog X.w X.K X.mg X.base n C "__str__" sp) (hr : Room (n + 2) X.A) (hx : Passes (L2.CX X.prog X.w) X E) :
    CallR X (.type "str") (fun xs H Q => ∃ a dx fs, xs = [.ref a] ∧ H a = some (.ins C dx fs) ∧ sp [.ref a] H (fun v H' => ∃ z, v = .str z ∧ Q v H') E) := by
  intro pins s σ H xs us Q I r h
  obtain ⟨a, dx, fs, rfl, ha, hq⟩ := h
  obtain ⟨u, rfl, rx⟩ := vals1 r
  cases rx
  obtain ⟨f, fd, ps, cl, me, G, b⟩ := c.ex
  obtain ⟨mA, J, _⟩ := ins_get I.hok ha
  obtain ⟨od, J, _⟩ := J.look
  refine callType_newIn PySem.F.called_str (by decide) (PySem.F.typeCall_str_1 _) (PySem.F.newCall_str_1 _) (fun obj => PySem.F.args_object_init_2 obj _) PySem.F.entry_str_new str_new_own ?_
  have hr2 : Room n X.A.in1.in1 := hr.in1.in1
  unfold Builtin.Str.strOf
  rw [show Builtin.Str.isExactStr (.ref a) = false from rfl]
  show wpAny _ _ (cRoomFor "str" [Value.ref a] >>= fun _ => _) _ _ _
  refine wpAny_bind (wpAny_cRoomFor hr2.units0 ?_)
  have typ : PySem.W.Looks (model X.prog X.w) s.heap (typeOf (.ref a)) (.ref C) := J.type
  refine wpAny_bind (m := callSpecial? (.ref a) (Str.ofString "__str__")) ?_
  unfold callSpecial? specialOf
  refine wpAny_bind (wpAny_bind (typ.here ((PySem.W.looks_findIn I.kIn me.at_).here ?_)))
  refine wpAny_holding ?_
  refine wpAny_bind ((PySem.W.bind_fn I.kIn (.ref a) ?_).here ?_)
  · exact eq_of_beq me.fn
  have e0 : Env0 X.prog X.w X.K X.mg X.base X.A.in1.in1 X.stack s H := by
    have e := I.env0
    exact ⟨e.frames, e.mod, e.bs, e.bsz, e.funs, e.frf, e.hok, e.bare⟩
  have hl := G.len _ _ _ _ hq
  have r2 : Vals [V.ref a] [Value.ref a] := .cons rfl .nil
  refine wpAny_bind (wpAny_call (codeAny_mono (G.run X.A.in1.in1 X.stack s H ⟨[.ref a], []⟩ [.ref a] [.ref a] _ E hr2 e0 (by
    have := b s [.ref a] I.kIn (by simpa using hl)
    simpa using this) r2 hq) fun r s' hq => ?_))
  cases r with
  | error e => exact hx pins σ H s e s' I hq
  | ok fl =>
    cases fl with
    | ret w =>
      obtain ⟨z, H', I', rz, y, rfl, q⟩ := I.after hq
      obtain ⟨tk, rfl⟩ := rz
      refine wpAny_pure ?_
      refine wpAny_bind (m := asStr? (Value.str y tk)) (wpAny_pure ?_)
      exact wpAny_pure ⟨typeIs_str _ _ _, .str y, H', I', ⟨tk, rfl⟩, q⟩
    | next => exact False.elim hq
    | brk => exact False.elim hq
    | cont => exact False.elim hq
/-- str(e) -/
theorem pe_str_own {p pos : Pos} {e : Expr} {t : TA} (c : Pm X.prog X.w X.K X.mg X.base n C "__str__" sp) (hr : Room j X.A) (hm : X.mg "str" = none) (ha : PA X [e] t) (hk : n + 2 ≤ j := by decide) (hg : Gl X "str" := by rfl)
    (he : starEach [e] X.env = (false, eval e X.env) :: starEach [] X.env := by rfl) : PE X (.Call (.Name "str" p) [e] [] pos) (tCB (fun xs H Q => ∃ a dx fs, xs = [.ref a] ∧ H a = some (.ins C dx fs) ∧ sp [.ref a] H (fun v H' => ∃ z, v = .str z ∧ Q v H') E0) t) :=
  pe_callTy (str_own c (hr.mono hk) passL) hg hm (by decide +kernel) ha (he := he)
end
end LL
namespace LL
open PySem PySem.Spec PyProof.Rows L2
open Evl (given given_yes given_no given_len)
/-! ### the text of a standing -/
def tI (i : Int) : Str := toString i
def tR (S : Sd) : List Str := (List.range (S.n + 1)).map fun i => tI (S.R i : Int)
def tL (S : Sd) : List Str := (List.range (S.n + 1)).map fun i => tI (S.L (i + 1) : Int)
def tO (S : Sd) : List Str := (outs S).map fun v : Nat => tI (v : Int)
def pO (S : Sd) : Str := if 0 < (tO S).length then Txt.join " " (tO S) else "none"
def dumpS (S : Sd) : Str := Txt.join " | " [Txt.join " " (tR S), Txt.join " " (tL S), pO S]
theorem join_len (s : Str) (ps : List Str) : (Txt.join s ps).length ≤ (ps.map (·.length)).sum + ps.length * s.length := by
  rw [TL.join_eq]
  exact StrLaws.join_length_le s ps
theorem sum_le {α : Type} (f : α → Nat) (b : Nat) : ∀ l : List α, (∀ x ∈ l, f x ≤ b) → (l.map f).sum ≤ l.length * b
  | [], _ => Nat.zero_le _
  | x :: r, h => by
    have := sum_le f b r fun y hy => h y (List.mem_cons_of_mem _ hy)
    have hx := h x List.mem_cons_self
    rw [List.map_cons, List.sum_cons, List.length_cons, Nat.add_mul, Nat.one_mul]
    omega
theorem tI_len {v : Nat} (h : v ≤ 100) : (tI (v : Int)).length ≤ 102 := by
  have := len_str_of_int (v : Int)
  have e : ((v : Int).natAbs : Int) = v := by simp
  unfold tI
  omega
theorem log_small {v : Nat} (h : v ≤ 100) : ((v : Int)).natAbs.log2 < 1920 := by
  have e : ((v : Int)).natAbs = v := by simp
  rw [e]
  by_cases c : v = 0
  · subst c
    decide
  · rw [Nat.log2_lt c]
    exact Nat.lt_of_le_of_lt h (Nat.lt_of_lt_of_le (show 100 < 2 ^ 7 by decide) (Nat.pow_le_pow_right (by decide) (by decide)))
theorem join_small {l : List Str} (hl : l.length ≤ 100) (h : ∀ x ∈ l, x.length ≤ 102) : (l.map (·.length)).sum + l.length * (" " : Str).length ≤ 20000 := by
  have := sum_le (·.length) 102 l h
  have e : (" " : Str).length = 1 := by decide
  rw [e]
  have : l.length * 102 ≤ 100 * 102 := Nat.mul_le_mul_right _ hl
  omega
theorem cut_r (S : Sd) : cutV (vr S) none (some (-1)) = mk (S.n + 1) fun i => .int (S.R i : Int) := by
  have e : HT.sIx (vr S).length (vr S).length (some (-1)) = S.n + 1 := by
    show (if (-1 : Int) < 0 then ((-1 : Int) + ((vr S).length : Int)).toNat else min (-1 : Int).toNat (vr S).length) = _
    rw [if_pos (by decide)]
    unfold vr
    rw [mk_len]
    omega
  unfold cutV
  rw [e, HT.sIx_none, Nat.sub_zero, List.drop_zero]
  unfold vr mk
  rw [← List.map_take, List.take_range, Nat.min_eq_left (by omega)]
theorem cut_l (S : Sd) : cutV (vl S) (some 1) none = mk (S.n + 1) fun i => .int (S.L (i + 1) : Int) := by
  have e := cutV_from (vl S) 1
  rw [show (some 1 : Option Int) = some ((1 : Nat) : Int) from rfl, e]
  unfold vl mk
  rw [← List.map_drop]
  rw [List.range_succ_eq_map, List.drop_succ_cons, List.drop_zero, List.map_map]
  exact List.map_congr_left fun i _ => by
    show V.int (lz S (i + 1)) = _
    rw [lz_pos (by omega)]
theorem tR_b {S : Sd} (w : WF S) (hn : S.n ≤ 60) : (tR S).length ≤ 100 ∧ ∀ x ∈ tR S, x.length ≤ 102 := by
  unfold tR
  refine ⟨by rw [List.length_map, List.length_range]; omega, fun x hx => ?_⟩
  obtain ⟨i, hi, rfl⟩ := List.mem_map.mp hx
  have := (w.r i (by have := List.mem_range.mp hi; omega)).2
  exact tI_len (by omega)
theorem tL_b {S : Sd} (w : WF S) (hn : S.n ≤ 60) : (tL S).length ≤ 100 ∧ ∀ x ∈ tL S, x.length ≤ 102 := by
  unfold tL
  refine ⟨by rw [List.length_map, List.length_range]; omega, fun x hx => ?_⟩
  obtain ⟨i, hi, rfl⟩ := List.mem_map.mp hx
  have := List.mem_range.mp hi
  have := w.l (i + 1) (by omega) (by omega)
  exact tI_len (by omega)
theorem tO_b {S : Sd} (hn : S.n ≤ 60) : (tO S).length ≤ 100 ∧ ∀ x ∈ tO S, x.length ≤ 102 := by
  have ol : (outs S).length ≤ S.n := by
    have := List.length_filter_le S.F (nodes S.n)
    rw [nodes_len] at this
    exact this
  unfold tO
  refine ⟨by rw [List.length_map]; omega, fun x hx => ?_⟩
  obtain ⟨v, hv, rfl⟩ := List.mem_map.mp hx
  have := mem_nodes.mp (List.mem_filter.mp hv).1
  exact tI_len (by omega)
theorem parts_b {S : Sd} (w : WF S) (hn : S.n ≤ 60) : ∀ x ∈ [Txt.join " " (tR S), Txt.join " " (tL S), pO S], x.length ≤ 20000 := by
  intro x hx
  have bR := join_small (tR_b w hn).1 (tR_b w hn).2
  have bL := join_small (tL_b w hn).1 (tL_b w hn).2
  have bO := join_small (tO_b hn).1 (tO_b hn).2
  rcases List.mem_cons.mp hx with rfl | hx
  · exact Nat.le_trans (join_len _ _) bR
  · rcases List.mem_cons.mp hx with rfl | hx
    · exact Nat.le_trans (join_len _ _) bL
    · rw [List.mem_singleton.mp hx]
      unfold pO
      split
      · exact Nat.le_trans (join_len _ _) bO
      · decide
def sp_dump_parts (C : Addr) : Sp := fun vs H Q _ => ∃ (a : LA) (S : Sd), vs = [.ref a.p] ∧ LinksAt C H a S ∧ WF S ∧ S.n ≤ 60 ∧ RetN ([Txt.join " " (tR S), Txt.join " " (tL S), pO S].map V.str) H Q
def sp_str (C : Addr) : Sp := fun vs H Q _ => ∃ (a : LA) (S : Sd), vs = [.ref a.p] ∧ LinksAt C H a S ∧ WF S ∧ S.n ≤ 60 ∧ RetS (.str (dumpS S)) H Q
section
variable {P : Program} {w : World} {K : PySem.W.Frag} {mg : Str → Option Value} {base : Heap}
theorem sc_Links__dump_parts : FnScope ["self", "rights", "lefts", "outs", "link", "node"] ["self"] (defScope (inClass (top 42) 17)) := ⟨rfl, rfl, rfl, by decide +kernel, rfl, by decide +kernel, by decide +kernel⟩
theorem ok_Links__dump_parts (Z : Tx P w K mg base) : Pm P w K mg base 1 (He.ga K "Links") "_dump_parts" (sp_dump_parts (He.ga K "Links")) := by
  refine Z.pm0 29 93 77 (d := d_Links__dump_parts) rfl rfl rfl rfl rfl rfl sc_Links__dump_parts (fun vs H Q E h => ?_) (fun _ _ _ _ _ _ us hl => match us, hl with | [_], _ => rfl) (fun f cdv A outer s H vs Q E hr h => ?_)
  · obtain ⟨a, S, rfl, _⟩ := h
    rfl
  · obtain ⟨a, S, rfl, L, wf, hn, k⟩ := h
    refine ⟨_, (pss_cons (ps_setLc (i := 1) (own := [("link", 4)]) (g := gName 4) rfl sc_Links__dump_parts.nd rfl rfl (sw_true rfl rfl rfl (by decide +kernel)) (pi_list (pe_slice sl_list (pe_fld (pv 0) rfl) po_none (po_some (pe_un un_neg pe_int)))) (blkOk_by (own := [("link", 4)]) (N := ["self", "rights", "lefts", "outs", "link", "node"]) (sc := defScope (inClass (top 42) 17)) (by decide +kernel)) (fun _ _ _ _ _ => pg_name (i := 4) sc_Links__dump_parts.nd rfl (Or.inl rfl)) (fun _ _ _ _ _ => pts_nil) (fun _ _ _ _ _ => (by exact (pe_callTy call_str_int (by rfl) (Z.free 66) (by decide +kernel) (pa_cons (pv 4) pa_nil))))) (pss_cons (ps_setLc (i := 2) (own := [("link", 4)]) (g := gName 4) rfl sc_Links__dump_parts.nd rfl rfl (sw_true rfl rfl rfl (by decide +kernel)) (pi_list (pe_slice sl_list (pe_fld (pv 0) rfl) (po_some pe_int) po_none)) (blkOk_by (own := [("link", 4)]) (N := ["self", "rights", "lefts", "outs", "link", "node"]) (sc := defScope (inClass (top 42) 17)) (by decide +kernel)) (fun _ _ _ _ _ => pg_name (i := 4) sc_Links__dump_parts.nd rfl (Or.inl rfl)) (fun _ _ _ _ _ => pts_nil) (fun _ _ _ _ _ => (by exact (pe_callTy call_str_int (by rfl) (Z.free 66) (by decide +kernel) (pa_cons (pv 4) pa_nil))))) (pss_cons (ps_setLc (i := 3) (own := [("node", 5)]) (g := gName 5) rfl sc_Links__dump_parts.nd rfl rfl (sw_true rfl rfl rfl (by decide +kernel)) (pi_range2 rfl (Z.free 61) (pa_cons pe_int (pa_cons (pe_op op_add (pe_fld (pv 0) rfl) pe_int) pa_nil))) (blkOk_by (own := [("node", 5)]) (N := ["self", "rights", "lefts", "outs", "link", "node"]) (sc := defScope (inClass (top 42) 17)) (by decide +kernel)) (fun _ _ _ _ _ => pg_name (i := 5) sc_Links__dump_parts.nd rfl (Or.inl rfl)) (fun _ _ _ _ _ => pts_one (by exact (pt_val (pe_ix (ix_listK (K := K) rfl) (pe_fldK (K := K) rfl (pv 0) rfl) (pv 5) (fun _ _ => rfl))))) (fun _ _ _ _ _ => (by exact (pe_callTy call_str_int (by rfl) (Z.free 66) (by decide +kernel) (pa_cons (pv 5) pa_nil))))) (pss_one (ps_ret (pe_lst (pa_cons (pe_join pe_str (pv 1)) (pa_cons (pe_join pe_str (pv 2)) (pa_cons (pe_ifExp (pt_cmpR op_gt (pe_callB call_len_seq (by rfl) (Z.free 60) PySem.boot_len (pa_cons (pv 3) pa_nil)) pe_int (nomark _)) (pe_join pe_str (pv 3)) pe_str) pa_nil))))))))), ?_⟩
    have hR : ∀ i, i < S.n + 1 → S.R i ≤ 100 := fun i hi => by
      have := (wf.r i (by omega)).2
      omega
    have hL : ∀ i, i < S.n + 1 → S.L (i + 1) ≤ 100 := fun i hi => by
      have := wf.l (i + 1) (by omega) (by omega)
      omega
    -- the right links
    refine ⟨_, rfl, _, _, _, _, _, rfl, L.ob, Z.cL, Z.nRights, lfs_rights _ _, _, rfl, _, rfl, _, _, rfl, SqL.of L.hr, fun p1 np1 => ?_⟩
    rw [cut_r]
    have s1 : Same H (upd H p1 (.lst (mk (S.n + 1) fun i => .int (S.R i : Int)))) := Same.up np1
    refine ⟨p1, rfl, ⟨_, SqL.of upd_same⟩, fun D1 hD1 => ?_⟩
    refine lc_list (K := K) (a := p1) (xs := mk (S.n + 1) fun i => .int (S.R i : Int)) (fun i H' => Same (upd H p1 (.lst (mk (S.n + 1) fun i => .int (S.R i : Int)))) H' ∧ H' D1 = some (.lst (mk i fun i => .str (tI (S.R i : Int))))) ⟨Same.up hD1, upd_same⟩ (fun i H' _ q => Same.seq q.1 (SqL.of upd_same)) ?_ ?_
    · rintro i x H' hi ⟨s3, e3⟩
      obtain ⟨hi2, rfl⟩ := mk_get hi
      refine ⟨rfl, _, rfl, _, rfl, log_small (hR i hi2), _, e3, szlt (by rw [mk_len]; omega), Same.mut s3 hD1, ?_⟩
      rw [mk_snoc]
      exact upd_same
    rintro H1 ⟨s3, e3⟩
    rw [mk_len] at e3
    have s2 := Same.trans s1 s3
    have f1 : H D1 = none := Same.free s1 hD1
    clear s3
    have L1 := L.same s2
    -- the left links
    refine ⟨_, rfl, _, _, _, _, _, rfl, L1.ob, Z.cL, Z.nLefts, lfs_lefts _ _, _, rfl, _, _, rfl, SqL.of L1.hl, fun p2 np2 => ?_⟩
    rw [cut_l]
    have s4 : Same H1 (upd H1 p2 (.lst (mk (S.n + 1) fun i => .int (S.L (i + 1) : Int)))) := Same.up np2
    refine ⟨p2, rfl, ⟨_, SqL.of upd_same⟩, fun D2 hD2 => ?_⟩
    refine lc_list (K := K) (a := p2) (xs := mk (S.n + 1) fun i => .int (S.L (i + 1) : Int)) (fun i H' => Same (upd H1 p2 (.lst (mk (S.n + 1) fun i => .int (S.L (i + 1) : Int)))) H' ∧ H' D2 = some (.lst (mk i fun i => .str (tI (S.L (i + 1) : Int))))) ⟨Same.up hD2, upd_same⟩ (fun i H' _ q => Same.seq q.1 (SqL.of upd_same)) ?_ ?_
    · rintro i x H' hi ⟨s3, e4⟩
      obtain ⟨hi2, rfl⟩ := mk_get hi
      refine ⟨rfl, _, rfl, _, rfl, log_small (hL i hi2), _, e4, szlt (by rw [mk_len]; omega), Same.mut s3 hD2, ?_⟩
      rw [mk_snoc]
      exact upd_same
    rintro H2 ⟨s5, e4⟩
    rw [mk_len] at e4
    have s6 := Same.trans s4 s5
    have s7 := Same.trans s2 s6
    have e3' := s6 _ _ e3
    have L2' := L.same s7
    -- the nodes that are out
    refine ⟨_, rfl, _, _, _, _, _, rfl, L2'.ob, Z.cL, Z.nSize, lfs_size _ _, _, _, rfl, rfl, _, _, rfl, ⟨by omega, by omega, by omega, by omega⟩, fun D3 hD3 => ?_⟩
    refine lc_range (lo := 1) (n := ((S.n : Int) + 1 - 1).toNat) (fun i H' => Same H2 H' ∧ H' D3 = some (.lst (given i (fun v => S.F (v + 1)) fun v => .str (tI ((v + 1 : Nat) : Int))))) ⟨Same.up hD3, upd_same⟩ ?_ ?_
    · rintro i H' hi ⟨s8, e5⟩
      have hi' : i < S.n := by omega
      refine ⟨rfl, _, rfl, _, _, _, _, _, rfl, (L2'.same s8).ob, Z.cL, Z.nFlags, lfs_flags _ _, _, rfl, _, _, _, _, rfl, rfl, SqL.of (L2'.same s8).hf, mk_atI (j := i + 1) _ (by omega) (by omega), _, rfl, iteB (fun c => ?_) (fun c => ?_)⟩
      · refine ⟨_, rfl, _, rfl, (by rw [show (1 : Int) + (i : Int) = ((i + 1 : Nat) : Int) by omega]; exact log_small (by omega)), _, e5, szlt (by have := given_len i (fun v => S.F (v + 1)) (fun v => V.str (tI ((v + 1 : Nat) : Int))); omega), Same.mut s8 hD3, ?_⟩
        rw [given_yes (f := fun v => S.F (v + 1)) (v := fun v => V.str (tI ((v + 1 : Nat) : Int))) c, show (1 : Int) + (i : Int) = ((i + 1 : Nat) : Int) by omega]
        exact upd_same
      · refine ⟨s8, ?_⟩
        rw [given_no (f := fun v => S.F (v + 1)) c]
        exact e5
    rintro H3 ⟨s8, e5⟩
    rw [show ((S.n : Int) + 1 - 1).toNat = S.n by omega] at e5
    have eO : given S.n (fun v => S.F (v + 1)) (fun v => V.str (tI ((v + 1 : Nat) : Int))) = (tO S).map V.str := by
      unfold tO outs
      rw [List.map_map]
      exact (nodes_given S.n S.F fun v => V.str (tI ((v : Nat) : Int))).symm
    rw [eO] at e5
    have e3'' := s8 _ _ e3'
    have e4'' := s8 _ _ e4
    have eR : (mk (S.n + 1) fun i => V.str (tI (S.R i : Int))) = (tR S).map V.str := by
      unfold tR mk
      rw [List.map_map] <;> rfl
    have eL : (mk (S.n + 1) fun i => V.str (tI (S.L (i + 1) : Int))) = (tL S).map V.str := by
      unfold tL mk
      rw [List.map_map] <;> rfl
    rw [eR] at e3''
    rw [eL] at e4''
    have bR := join_small (tR_b wf hn).1 (tR_b wf hn).2
    have bL := join_small (tL_b wf hn).1 (tL_b wf hn).2
    have bO := join_small (tO_b hn).1 (tO_b hn).2
    refine ⟨⟨_, rfl⟩, _, rfl, _, D1, tR S, rfl, rfl, Or.inl (SqL.of e3''), Nat.le_trans bR (by decide), ?_⟩
    refine ⟨⟨_, rfl⟩, _, rfl, _, D2, tL S, rfl, rfl, Or.inl (SqL.of e4''), Nat.le_trans bL (by decide), ?_⟩
    have fin : ∀ z, z = pO S → sizeLine ≥ 3 ∧ ∀ p, H3 p = none → Q (.ref p) (upd H3 p (.lst [.str (Txt.join " " (tR S)), .str (Txt.join " " (tL S)), .str z])) := by
      rintro z rfl
      exact ⟨by decide, fun p np => k p _ (Same.free s7 (Same.free s8 np)) (Same.new (Same.trans s7 s8) np) upd_same⟩
    refine ⟨_, rfl, D3, _, rfl, Or.inl (SqL.of e5), _, _, rfl, rfl, _, rfl, ?_⟩
    show if (decide (((tO S).map V.str).length > (0 : Int))) = true then _ else _
    refine iteB (fun c => ?_) (fun c => ?_)
    · refine ⟨⟨_, rfl⟩, _, rfl, _, D3, tO S, rfl, rfl, Or.inl (SqL.of e5), Nat.le_trans bO (by decide), fin _ ?_⟩
      have c := of_decide_eq_true c
      rw [List.length_map] at c
      unfold pO
      rw [if_pos (by omega)]
    · refine fin _ ?_
      have c := of_decide_eq_false c
      rw [List.length_map] at c
      unfold pO
      rw [if_neg (by omega)]
theorem sc_Links___str__ : FnScope ["self"] ["self"] (defScope (inClass (top 42) 18)) := ⟨rfl, rfl, rfl, by decide +kernel, rfl, by decide +kernel, by decide +kernel⟩
theorem ok_Links___str__ (Z : Tx P w K mg base) : Pm P w K mg base 2 (He.ga K "Links") "__str__" (sp_str (He.ga K "Links")) := by
  refine Z.pm0 30 94 77 (d := d_Links___str__) rfl rfl rfl rfl rfl rfl sc_Links___str__ (fun vs H Q E h => ?_) (fun _ _ _ _ _ _ us hl => match us, hl with | [_], _ => rfl) (fun f cdv A outer s H vs Q E hr h => ?_)
  · obtain ⟨a, S, rfl, _⟩ := h
    rfl
  · obtain ⟨a, S, rfl, L, wf, hn, k⟩ := h
    refine ⟨_, (pss_one (ps_ret (pe_join pe_str (pm0 (ok_Links__dump_parts Z) hr (pv 0))))), ?_⟩
    refine ⟨⟨_, rfl⟩, _, rfl, _, _, _, rfl, L.ob, rfl, a, S, rfl, L, wf, hn, fun p H1 np s1 e1 => ?_⟩
    refine ⟨_, p, _, rfl, rfl, Or.inl (SqL.of e1), ?_, k H1 s1⟩
    have := sum_le (fun x : Str => x.length) 20000 _ (parts_b wf hn)
    have e : (" | " : Str).length = 3 := by decide
    rw [e]
    have e2 : [Txt.join " " (tR S), Txt.join " " (tL S), pO S].length = 3 := rfl
    rw [e2] at this ⊢
    omega
end
end LL
namespace LL
open PySem PySem.Spec PyProof.Rows L2
open PySem.W (Datum)
/-! ### == of standings -/
theorem dpI {K : PySem.W.Frag} {H : Hp} {p : Addr} {xs : List Int} (h : SqL K H p (xs.map V.int)) : Dp K H (.ref p) (.list (xs.map PyData.int)) := by
  refine .lst h ?_
  clear h
  induction xs with
  | nil => exact .nil
  | cons x r ih => exact .cons (.int x) ih
theorem dpB {K : PySem.W.Frag} {H : Hp} {p : Addr} {xs : List Bool} (h : SqL K H p (xs.map V.bl)) : Dp K H (.ref p) (.list (xs.map PyData.bool)) := by
  refine .lst h ?_
  clear h
  induction xs with
  | nil => exact .nil
  | cons x r ih => exact .cons (.bl x) ih
theorem clI : ∀ xs : List Int, PyData.canLayAll0 (xs.map PyData.int) = true ∧ PyData.depthAll (xs.map PyData.int) = 0
  | [] => ⟨rfl, rfl⟩
  | x :: r => by
    have ih := clI r
    constructor
    · rw [List.map_cons]
      unfold PyData.canLayAll0
      rw [ih.1]
      rfl
    · rw [List.map_cons]
      unfold PyData.depthAll
      rw [ih.2]
      rfl
theorem clB : ∀ xs : List Bool, PyData.canLayAll0 (xs.map PyData.bool) = true ∧ PyData.depthAll (xs.map PyData.bool) = 0
  | [] => ⟨rfl, rfl⟩
  | x :: r => by
    have ih := clB r
    constructor
    · rw [List.map_cons]
      unfold PyData.canLayAll0
      rw [ih.1]
      rfl
    · rw [List.map_cons]
      unfold PyData.depthAll
      rw [ih.2]
      rfl
theorem shI (xs : List Int) : SeqAt.shaped (.list (xs.map PyData.int)) = true := by
  unfold SeqAt.shaped PyData.canLay0 PyData.depth
  rw [(clI xs).1, (clI xs).2]
  rfl
theorem shB (xs : List Bool) : SeqAt.shaped (.list (xs.map PyData.bool)) = true := by
  unfold SeqAt.shaped PyData.canLay0 PyData.depth
  rw [(clB xs).1, (clB xs).2]
  rfl
theorem eqvI (xs ys : List Int) : PyData.eqv (.list (xs.map PyData.int)) (.list (ys.map PyData.int)) = decide (xs = ys) := Datum.eqv xs ys
theorem eqvB (xs ys : List Bool) : PyData.eqv (.list (xs.map PyData.bool)) (.list (ys.map PyData.bool)) = decide (xs = ys) := Datum.eqv xs ys
def iL (S : Sd) : List Int := (List.range (S.n + 2)).map (lz S)
def iR (S : Sd) : List Int := (List.range (S.n + 2)).map fun i => (S.R i : Int)
def iF (S : Sd) : List Bool := (List.range (S.n + 2)).map S.F
theorem vl_i (S : Sd) : vl S = (iL S).map V.int := by
  unfold vl iL mk
  rw [List.map_map] <;> rfl
theorem vr_i (S : Sd) : vr S = (iR S).map V.int := by
  unfold vr iR mk
  rw [List.map_map] <;> rfl
theorem vf_i (S : Sd) : vf S = (iF S).map V.bl := by
  unfold vf iF mk
  rw [List.map_map] <;> rfl
/-- two standings of one look -/
def TwoEq (C : Addr) (p q : Addr) (H : Hp) : Prop := ∃ (a b : LA) (S T : Sd), a.p = p ∧ b.p = q ∧ LinksAt C H a S ∧ LinksAt C H b T ∧ iL S = iL T ∧ iR S = iR T ∧ iF S = iF T
section
variable {P : Program} {w : World} {K : PySem.W.Frag} {mg : Str → Option Value} {base : Heap}
theorem Tx.tyL (Z : Tx P w K mg base) {H : Hp} {a : LA} {S : Sd} (L : LinksAt (He.ga K "Links") H a S) : TyX K H (.ref a.p) (.ref (He.ga K "Links")) :=
  .base (.ins L.ob Z.cL Z.xL Z.xEN.hn Z.xEN.ht Z.xM)
theorem kit_same (K : PySem.W.Frag) (t : Value) : PySem.W.kitOne K t t = some true := by
  unfold PySem.W.kitOne
  rw [if_pos (by simp)]
theorem sc_Links___eq__ : FnScope ["self", "other"] ["self", "other"] (defScope (inClass (top 42) 21)) := ⟨rfl, rfl, rfl, by decide +kernel, rfl, by decide +kernel, by decide +kernel⟩
theorem ok_Links___eq__ (Z : Tx P w K mg base) : Pm P w K mg base 1 (He.ga K "Links") "__eq__" (spEq (TwoEq (He.ga K "Links"))) := by
  refine Z.pm0 31 95 77 (d := d_Links___eq__) rfl rfl rfl rfl rfl rfl sc_Links___eq__ (fun vs H Q E h => ?_) (fun _ _ _ _ _ _ us hl => match us, hl with | [_, _], _ => rfl) (fun f cdv A outer s H vs Q E hr h => ?_)
  · obtain ⟨p, q, rfl, _⟩ := h
    rfl
  · obtain ⟨p, q, rfl, ⟨a, b, S, T, rfl, rfl, LA, LB, e1, e2, e3⟩, k⟩ := h
    refine ⟨_, (pss_one (ps_ret (pe_and (pe_callB call_isi (by rfl) (Z.free 64) (by decide +kernel) (pa_cons (pv 1) (pa_cons (pe_glob (v := .ref (He.ga K "Links")) rfl (Z.glo 58) rfl) pa_nil))) (pe_and (pe_cmpR (op_eqD hr.units) (pe_fld (pv 0) rfl) (pe_fld (pv 1) rfl) (nomark _)) (pe_and (pe_cmpR (op_eqD hr.units) (pe_fld (pv 0) rfl) (pe_fld (pv 1) rfl) (nomark _)) (pe_one (pe_cmpR (op_eqD hr.units) (pe_fld (pv 0) rfl) (pe_fld (pv 1) rfl) (nomark _)))))))), ?_⟩
    have l1 : SqL K H a.r ((iR S).map V.int) := SqL.of (by rw [← vr_i]; exact LA.hr)
    have l2 : SqL K H b.r ((iR S).map V.int) := SqL.of (by rw [e2, ← vr_i]; exact LB.hr)
    have l3 : SqL K H a.l ((iL S).map V.int) := SqL.of (by rw [← vl_i]; exact LA.hl)
    have l4 : SqL K H b.l ((iL S).map V.int) := SqL.of (by rw [e1, ← vl_i]; exact LB.hl)
    have l5 : SqL K H a.f ((iF S).map V.bl) := SqL.of (by rw [← vf_i]; exact LA.hf)
    have l6 : SqL K H b.f ((iF S).map V.bl) := SqL.of (by rw [e3, ← vf_i]; exact LB.hf)
    refine ⟨_, rfl, _, _, _, _, true, rfl, .own _, Z.tyL LB, kit_same K _, true, rfl, ?_⟩
    refine ⟨_, rfl, _, _, _, _, _, rfl, LA.ob, Z.cL, Z.nRights, lfs_rights _ _, _, rfl, _, _, _, _, _, rfl, LB.ob, Z.cL, Z.nRights, lfs_rights _ _, _, _, dpI l1, dpI l2, shI _, shI _, _, rfl, ?_⟩
    refine iteK (by rw [eqvI] <;> exact decide_eq_true rfl) ?_
    refine ⟨_, rfl, _, _, _, _, _, rfl, LA.ob, Z.cL, Z.nLefts, lfs_lefts _ _, _, rfl, _, _, _, _, _, rfl, LB.ob, Z.cL, Z.nLefts, lfs_lefts _ _, _, _, dpI l3, dpI l4, shI _, shI _, _, rfl, ?_⟩
    refine iteK (by rw [eqvI] <;> exact decide_eq_true rfl) ?_
    refine ⟨_, rfl, _, _, _, _, _, rfl, LA.ob, Z.cL, Z.nFlags, lfs_flags _ _, _, rfl, _, _, _, _, _, rfl, LB.ob, Z.cL, Z.nFlags, lfs_flags _ _, _, _, dpB l5, dpB l6, shB _, shB _, ?_⟩
    rw [eqvB, decide_eq_true rfl]
    exact k H (Same.refl H)
end
/-- x == y of two standings -/
theorem op_eqL {X : Cx} {n j : Nat} {C : Addr} {R : Addr → Addr → Hp → Prop} (c : Pm X.prog X.w X.K X.mg X.base n C "__eq__" (spEq R)) (hr : Room j X.A) (hk : n ≤ j := by decide) : OpR X (compareOp .Eq) (rEqG (DIns C R)) := by
  obtain ⟨f, fd, ps, cl, me, F, b⟩ := c.ex
  exact op_eqG (rcG_ins (E := E0) F me.at_ me.fn b passL) (hr.mono hk)
end LL
namespace LL
open PySem PySem.Spec PyProof.Rows L2
open Evl (given given_yes given_no given_len)
/-! ### the law's own standings: three lists in a list -/
structure StAt (H : Hp) (a : LA) (S : Sd) : Prop where
  ob : H a.p = some (.lst [.ref a.r, .ref a.l, .ref a.f])
  hr : H a.r = some (.lst (vq S))
  hl : H a.l = some (.lst (vl S))
  hf : H a.f = some (.lst (vf S))
  lr : a.l ≠ a.r
  lf : a.l ≠ a.f
  rf : a.r ≠ a.f
  pr : a.p ≠ a.r
  pl : a.p ≠ a.l
  pf : a.p ≠ a.f
theorem StAt.same {H H' : Hp} {a : LA} {S : Sd} (L : StAt H a S) (e : Same H H') : StAt H' a S :=
  ⟨e _ _ L.ob, e _ _ L.hr, e _ _ L.hl, e _ _ L.hf, L.lr, L.lf, L.rf, L.pr, L.pl, L.pf⟩
def RetSt (S : Sd) (H : Hp) (Q : VK) : Prop := ∀ (a : LA) (H' : Hp), StAt H' a S → Same H H' → H a.p = none → H a.l = none → H a.r = none → H a.f = none → Q (.ref a.p) H'
theorem vq_put {S : Sd} {x : Nat} : vq (put S x) = (vq S).set (S.L x) (.int ((if S.F x = true then x else S.R x : Nat) : Int)) := by
  unfold vq
  rw [mk_set]
  refine mk_congr fun i hi => ?_
  show V.int ((updN S.R (S.L x) (if S.F x = true then x else S.R x) i : Nat) : Int) = updN (fun i => V.int (S.R i : Int)) (S.L x) _ i
  unfold updN
  split <;> rfl
def sp_lstart : Sp := fun vs H Q _ => ∃ n : Nat, vs = [.int (n : Int)] ∧ n ≤ 60 ∧ RetSt (fresh n) H Q
def sp_lput : Sp := fun vs H Q _ => ∃ (a : LA) (S : Sd) (o : Int), vs = [.ref a.p, .int o] ∧ StAt H a S ∧ WF S ∧ S.n ≤ 60 ∧ okop S o = true ∧ ∀ H', StAt H' a (put S o.natAbs) → Keep a H H' → Q .non H'
def sp_ltwin : Sp := fun vs H Q _ => ∃ (a : LA) (S : Sd), vs = [.ref a.p] ∧ StAt H a S ∧ S.n ≤ 60 ∧ RetSt S H Q
def sp_louts : Sp := fun vs H Q _ => ∃ (a : LA) (S : Sd), vs = [.ref a.p] ∧ StAt H a S ∧ S.n ≤ 60 ∧ RetN (nvs (outs S)) H Q
def sp_lstates : Sp := fun vs H Q _ => ∃ (a : LA) (S : Sd), vs = [.ref a.p] ∧ StAt H a S ∧ S.n ≤ 60 ∧ RetN (mk (S.n + 1) fun v => .str (gstr (gst S v))) H Q
def sp_ldeeds : Sp := fun vs H Q _ => ∃ (a : LA) (S : Sd), vs = [.ref a.p] ∧ StAt H a S ∧ S.n ≤ 60 ∧ RetN (((nodes S.n).map (opOn S)).map V.int) H Q
def sp_ldebt : Sp := fun vs H Q _ => ∃ (a : LA) (S : Sd), vs = [.ref a.p] ∧ StAt H a S ∧ S.n ≤ 60 ∧ RetS (.int (ldebt S)) H Q
section
variable {P : Program} {w : World} {K : PySem.W.Frag} {mg : Str → Option Value} {base : Heap}
theorem at3_0 {x y z : V} : atI [x, y, z] 0 = some x := rfl
theorem at3_1 {x y z : V} : atI [x, y, z] 1 = some y := rfl
theorem at3_2 {x y z : V} : atI [x, y, z] 2 = some z := rfl
theorem fl_rep (n : Nat) : (List.replicate ((n : Int) + 2).toNat [V.bl false]).flatten = vf (fresh n) := vf_fresh n
theorem sc__law_start : FnScope ["_law_many", "_law_v"] ["_law_many"] (defScope (top 64)) := ⟨rfl, rfl, rfl, by decide +kernel, rfl, by decide +kernel, by decide +kernel⟩
theorem ok__law_start (Z : Tx P w K mg base) : Pr P w K mg base 1 "_law_start" sp_lstart := by
  refine Z.pr0 47 32 (d := d__law_start) rfl rfl rfl rfl rfl sc__law_start (fun vs H Q E h => ?_) (fun _ _ _ _ _ _ us hl => match us, hl with | [_], _ => rfl) (fun f cdv A outer s H vs Q E hr h => ?_)
  · obtain ⟨n, rfl, _⟩ := h
    rfl
  · obtain ⟨n, rfl, hn, k⟩ := h
    refine ⟨_, (pss_one (ps_ret (pe_lst (pa_cons (pe_lc (own := [("_law_v", 1)]) (g := gName 1) rfl sc__law_start.nd (pi_range1 rfl (Z.free 61) (pa_cons (pe_op op_add (pv 0) pe_int) pa_nil)) (blkOk_by (own := [("_law_v", 1)]) (N := ["_law_many", "_law_v"]) (sc := defScope (top 64)) (by decide +kernel)) (fun _ _ _ _ _ => pg_name (i := 1) sc__law_start.nd rfl (Or.inl rfl)) (fun _ _ _ _ _ => pts_nil) (fun _ _ _ _ _ => (by exact (pe_op op_add (pv 1) pe_int)))) (pa_cons (pe_lc (own := [("_law_v", 1)]) (g := gName 1) rfl sc__law_start.nd (pi_range1 rfl (Z.free 61) (pa_cons (pe_op op_add (pv 0) pe_int) pa_nil)) (blkOk_by (own := [("_law_v", 1)]) (N := ["_law_many", "_law_v"]) (sc := defScope (top 64)) (by decide +kernel)) (fun _ _ _ _ _ => pg_name (i := 1) sc__law_start.nd rfl (Or.inl rfl)) (fun _ _ _ _ _ => pts_nil) (fun _ _ _ _ _ => (by exact (pe_op op_sub (pv 1) pe_int)))) (pa_cons (pe_op op_rep (pe_lst (pa_cons pe_bl pa_nil)) (pe_op op_add (pv 0) pe_int)) pa_nil)))))), ?_⟩
    refine ⟨_, rfl, _, _, rfl, rfl, _, rfl, by omega, by omega, fun r nr => ?_⟩
    refine lc_range (lo := 0) (n := ((n : Int) + 1).toNat) (fun i H' => Same H H' ∧ H' r = some (.lst (mk i fun v => .int ((v + 1 : Nat) : Int)))) ⟨Same.up nr, upd_same⟩ ?_ ?_
    · rintro i H' hi ⟨s1, e1⟩
      refine ⟨rfl, _, rfl, _, _, rfl, rfl, _, e1, szlt (by rw [mk_len]; omega), Same.mut s1 nr, ?_⟩
      dsimp only
      rw [mk_snoc, show (0 : Int) + (i : Int) + 1 = ((i + 1 : Nat) : Int) by omega]
      exact upd_same
    rintro H1 ⟨s1, e1⟩
    refine ⟨_, rfl, _, _, rfl, rfl, _, rfl, by omega, by omega, fun l nl => ?_⟩
    refine lc_range (lo := 0) (n := ((n : Int) + 2).toNat) (fun i H' => Same H1 H' ∧ H' l = some (.lst (mk i fun v => .int ((v : Int) - 1)))) ⟨Same.up nl, upd_same⟩ ?_ ?_
    · rintro i H' hi ⟨s2, e2⟩
      refine ⟨rfl, _, rfl, _, _, rfl, rfl, _, e2, szlt (by rw [mk_len]; omega), Same.mut s2 nl, ?_⟩
      dsimp only
      rw [mk_snoc, show (0 : Int) + (i : Int) = (i : Int) by omega]
      exact upd_same
    rintro H2 ⟨s2, e2⟩
    refine ⟨(by show 1 ≤ sizeLine; decide), fun q nq => ?_⟩
    refine ⟨_, rfl, _, _, rfl, rfl, _, _, _, rfl, rfl, upd_same, by omega, by omega, sz60 (by show 1 * _ ≤ _; omega), fun f nf => ?_⟩
    refine ⟨(by show 3 ≤ sizeLine; decide), fun p np => ?_⟩
    have s3 : Same H2 (upd (upd H2 q (.lst [.bl false])) f (.lst (List.replicate ((n : Int) + 2).toNat [V.bl false]).flatten)) := Same.trans (Same.up nq) (Same.up nf)
    have s4 := Same.trans s3 (Same.up (o := .lst [.ref r, .ref l, .ref f]) np)
    have nf2 : H2 f = none := upd_free nf
    have lr : l ≠ r := (ne_of_none e1 nl).symm
    have fl : f ≠ l := (ne_of_none e2 nf2).symm
    have fr : f ≠ r := (ne_of_none (s2 _ _ e1) nf2).symm
    have pf : p ≠ f := upd_away np
    have np2 : H2 p = none := upd_free (upd_free np)
    have pl : p ≠ l := (ne_of_none e2 np2).symm
    have pr : p ≠ r := (ne_of_none (s2 _ _ e1) np2).symm
    have s12 := Same.trans s1 s2
    refine k ⟨p, 0, l, r, f⟩ _ ⟨upd_same, ?_, ?_, ?_, lr, fl.symm, fr.symm, pr, pl, pf⟩ (Same.trans s12 s4) (Same.free s12 np2) (Same.free s1 nl) nr (Same.free s12 nf2)
    · refine s4 _ _ (s2 _ _ ?_)
      rw [e1]
      unfold vq
      rw [show ((n : Int) + 1).toNat = (fresh n).n + 1 by show _ = n + 1; omega] <;> rfl
    · refine s4 _ _ ?_
      rw [e2]
      unfold vl
      rw [show ((n : Int) + 2).toNat = (fresh n).n + 2 by show _ = n + 2; omega]
      refine congrArg some (congrArg HO.lst (mk_congr fun i _ => ?_))
      show V.int ((i : Int) - 1) = V.int (if i = 0 then -1 else ((i - 1 : Nat) : Int))
      by_cases e : i = 0
      · rw [if_pos e, e] <;> rfl
      · rw [if_neg e, show (i : Int) - 1 = ((i - 1 : Nat) : Int) by omega]
    · rw [upd_ne pf.symm, upd_same, vf_fresh]
theorem sc__law_put : FnScope ["_law_state", "_law_deed", "_law_node", "_law_low", "_law_high"] ["_law_state", "_law_deed"] (defScope (top 65)) := ⟨rfl, rfl, rfl, by decide +kernel, rfl, by decide +kernel, by decide +kernel⟩
theorem ok__law_put (Z : Tx P w K mg base) : Pr P w K mg base 1 "_law_put" sp_lput := by
  refine Z.pr0 48 33 (d := d__law_put) rfl rfl rfl rfl rfl sc__law_put (fun vs H Q E h => ?_) (fun _ _ _ _ _ _ us hl => match us, hl with | [_, _], _ => rfl) (fun f cdv A outer s H vs Q E hr h => ?_)
  · obtain ⟨a, S, o, rfl, _⟩ := h
    rfl
  · obtain ⟨a, S, o, rfl, L, wf, hn, ho, k⟩ := h
    refine ⟨_, (pss_cons (ps_set (i := 2) sc__law_put.nd rfl (Or.inl rfl) (pe_callB call_abs (by rfl) (Z.free 62) (by decide +kernel) (pa_cons (pv 1) pa_nil))) (pss_cons (ps_set (i := 3) sc__law_put.nd rfl (Or.inl rfl) (pe_ix ix_list (pe_ix ix_list (pv 0) pe_int (fun _ _ => rfl)) (pv 2) (fun _ _ => rfl))) (pss_cons (ps_set (i := 4) sc__law_put.nd rfl (Or.inl rfl) (pe_ix ix_list (pe_ix ix_list (pv 0) pe_int (fun _ _ => rfl)) (pv 2) (fun _ _ => rfl))) (Evl.pss_cut (ps_if (pt_cmpR op_lt (pv 1) pe_int (nomark _)) (pss_cons (ps_asg (pv 4) (pg_sub (pe_ix ix_list (pv 0) pe_int (fun _ _ => rfl)) (pv 3) set_list)) (pss_one (ps_asg (pv 3) (pg_sub (pe_ix ix_list (pv 0) pe_int (fun _ _ => rfl)) (pv 4) set_list)))) (pss_cons (ps_asg (pv 2) (pg_sub (pe_ix ix_list (pv 0) pe_int (fun _ _ => rfl)) (pv 3) set_list)) (pss_one (ps_asg (pv 2) (pg_sub (pe_ix ix_list (pv 0) pe_int (fun _ _ => rfl)) (pv 4) set_list))))) (pss_one (ps_asg (pe_cmpR op_lt (pv 1) pe_int (nomark _)) (pg_sub (pe_ix ix_list (pv 0) pe_int (fun _ _ => rfl)) (pv 2) set_list))))))), ?_⟩
    obtain ⟨o1, o2, o3⟩ := okop_iff.mp ho
    have x1 : 1 ≤ o.natAbs := by omega
    have hl := lx wf x1 o2
    have hr := rx wf x1 o2
    have hr2 := rx2 wf x1 o2
    have eX : (if o < 0 then -o else o) = (o.natAbs : Int) := abs_int o
    have eL : lz S o.natAbs = (S.L o.natAbs : Int) := lz_pos x1
    refine ⟨_, rfl, _, rfl, ?_⟩
    refine ⟨_, rfl, _, _, _, _, rfl, rfl, SqL.of L.ob, at3_1, _, rfl, _, _, _, _, rfl, rfl, SqL.of L.hl, mk_atI _ eX (by omega), ?_⟩
    refine ⟨_, rfl, _, _, _, _, rfl, rfl, SqL.of L.ob, at3_0, _, rfl, _, _, _, _, rfl, rfl, SqL.of L.hr, mk_atI _ eX (by omega), ?_⟩
    have obR : ∀ z, upd H a.r z a.p = some (.lst [.ref a.r, .ref a.l, .ref a.f]) := fun z => by rw [upd_ne L.pr]; exact L.ob
    have hlR : ∀ z, upd H a.r z a.l = some (.lst (vl S)) := fun z => by rw [upd_ne L.lr]; exact L.hl
    have obL : ∀ z y, upd (upd H a.r z) a.l y a.p = some (.lst [.ref a.r, .ref a.l, .ref a.f]) := fun z y => by rw [upd_ne L.pl]; exact obR z
    have hfL : ∀ z y, upd (upd H a.r z) a.l y a.f = some (.lst (vf S)) := fun z y => by rw [upd_ne (Ne.symm L.lf), upd_ne (Ne.symm L.rf)]; exact L.hf
    refine ⟨fun σ' H' => σ' = [some (.ref a.p), some (.int o), some (.int (if o < 0 then -o else o)), some (.int (lz S o.natAbs)), some (.int (S.R o.natAbs : Int))] ∧
      H' = upd (upd H a.r (.lst ((vq S).set (S.L o.natAbs) (.int ((if S.F o.natAbs = true then o.natAbs else S.R o.natAbs : Nat) : Int))))) a.l (.lst ((vl S).set (S.R o.natAbs) (.int ((if S.F o.natAbs = true then o.natAbs else S.L o.natAbs : Nat) : Int)))), ?_, ?_⟩
    · refine ⟨_, rfl, _, _, rfl, rfl, _, rfl, iteB (fun c => ?_) (fun c => ?_)⟩
      · have c1 := of_decide_eq_true c
        have eF : S.F o.natAbs = false := by rw [o3]; exact decide_eq_false (by omega)
        refine ⟨_, rfl, _, rfl, _, _, _, _, rfl, rfl, SqL.of L.ob, at3_0, _, rfl, _, _, _, _, rfl, rfl, L.hr, mk_ixN _ eL (by omega), ?_⟩
        refine ⟨_, rfl, _, rfl, _, _, _, _, rfl, rfl, SqL.of (obR _), at3_1, _, rfl, _, _, _, _, rfl, rfl, hlR _, mk_ixN _ rfl (by omega), rfl, ?_⟩
        rw [eF, if_neg (by decide), if_neg (by decide), eL]
      · have c1 := of_decide_eq_false c
        have eF : S.F o.natAbs = true := by rw [o3]; exact decide_eq_true (by omega)
        refine ⟨_, rfl, _, rfl, _, _, _, _, rfl, rfl, SqL.of L.ob, at3_0, _, rfl, _, _, _, _, rfl, rfl, L.hr, mk_ixN _ eL (by omega), ?_⟩
        refine ⟨_, rfl, _, rfl, _, _, _, _, rfl, rfl, SqL.of (obR _), at3_1, _, rfl, _, _, _, _, rfl, rfl, hlR _, mk_ixN _ rfl (by omega), rfl, ?_⟩
        rw [eF, if_pos rfl, if_pos rfl, eX]
    · rintro σ' H' ⟨rfl, rfl⟩
      refine ⟨_, rfl, _, _, rfl, rfl, _, rfl, _, _, _, _, rfl, rfl, SqL.of (obL _ _), at3_2, _, rfl, _, _, _, _, rfl, rfl, hfL _ _, mk_ixN _ eX (by omega), ?_⟩
      have eB : (V.bl (decide (o < 0))) = .bl (!S.F o.natAbs) := by
        rw [o3]
        by_cases c : o < 0
        · rw [decide_eq_true c, decide_eq_false (by omega)] <;> rfl
        · rw [decide_eq_false c, decide_eq_true (by omega)] <;> rfl
      dsimp only
      rw [← vq_put, ← vl_put wf x1 o2, eB, ← vf_put]
      refine k _ ⟨?_, ?_, ?_, ?_, L.lr, L.lf, L.rf, L.pr, L.pl, L.pf⟩ fun b o' e h1 h2 h3 => ?_
      · rw [upd_ne L.pf, upd_ne L.pl, upd_ne L.pr]
        exact L.ob
      · rw [upd_ne L.rf, upd_ne (Ne.symm L.lr), upd_same]
      · rw [upd_ne L.lf, upd_same]
      · exact upd_same
      · rw [upd_ne h3, upd_ne h1, upd_ne h2]
        exact e
theorem vq_len (S : Sd) : (vq S).length = S.n + 1 := by
  unfold vq
  rw [mk_len]
theorem sc__law_twin : FnScope ["_law_state"] ["_law_state"] (defScope (top 66)) := ⟨rfl, rfl, rfl, by decide +kernel, rfl, by decide +kernel, by decide +kernel⟩
theorem ok__law_twin (Z : Tx P w K mg base) : Pr P w K mg base 1 "_law_twin" sp_ltwin := by
  refine Z.pr0 49 34 (d := d__law_twin) rfl rfl rfl rfl rfl sc__law_twin (fun vs H Q E h => ?_) (fun _ _ _ _ _ _ us hl => match us, hl with | [_], _ => rfl) (fun f cdv A outer s H vs Q E hr h => ?_)
  · obtain ⟨a, S, rfl, _⟩ := h
    rfl
  · obtain ⟨a, S, rfl, L, hn, k⟩ := h
    refine ⟨_, (pss_one (ps_ret (pe_lst (pa_cons (pe_callTy call_list_of (by rfl) (Z.free 63) (by decide +kernel) (pa_cons (pe_ix ix_list (pv 0) pe_int (fun _ _ => rfl)) pa_nil)) (pa_cons (pe_callTy call_list_of (by rfl) (Z.free 63) (by decide +kernel) (pa_cons (pe_ix ix_list (pv 0) pe_int (fun _ _ => rfl)) pa_nil)) (pa_cons (pe_callTy call_list_of (by rfl) (Z.free 63) (by decide +kernel) (pa_cons (pe_ix ix_list (pv 0) pe_int (fun _ _ => rfl)) pa_nil)) pa_nil)))))), ?_⟩
    refine ⟨_, rfl, _, _, _, _, rfl, rfl, SqL.of L.ob, at3_0, _, _, rfl, Or.inl (SqL.of L.hr), fun r nr => ?_⟩
    have s1 : Same H (upd H r (.lst (vq S))) := Same.up nr
    refine ⟨_, rfl, _, _, _, _, rfl, rfl, SqL.of (s1 _ _ L.ob), at3_1, _, _, rfl, Or.inl (SqL.of (s1 _ _ L.hl)), fun l nl => ?_⟩
    have s2 := Same.trans s1 (Same.up (o := .lst (vl S)) nl)
    refine ⟨_, rfl, _, _, _, _, rfl, rfl, SqL.of (s2 _ _ L.ob), at3_2, _, _, rfl, Or.inl (SqL.of (s2 _ _ L.hf)), fun f nf => ?_⟩
    have s3 := Same.trans s2 (Same.up (o := .lst (vf S)) nf)
    refine ⟨(by show 3 ≤ sizeLine; decide), fun p np => ?_⟩
    have lr : l ≠ r := upd_away nl
    have fl : f ≠ l := upd_away nf
    have fr : f ≠ r := upd_away (upd_free nf)
    have pf : p ≠ f := upd_away np
    have pl : p ≠ l := upd_away (upd_free np)
    have pr : p ≠ r := upd_away (upd_free (upd_free np))
    refine k ⟨p, 0, l, r, f⟩ _ ⟨upd_same, ?_, ?_, ?_, lr, fl.symm, fr.symm, pr, pl, pf⟩ (Same.trans s3 (Same.up np)) (Same.free s3 np) (Same.free s1 nl) nr (Same.free s2 nf)
    · rw [upd_ne pr.symm, upd_ne fr.symm, upd_ne lr.symm, upd_same]
    · rw [upd_ne pl.symm, upd_ne fl.symm, upd_same]
    · rw [upd_ne pf.symm, upd_same]
theorem sc__law_outs : FnScope ["_law_state", "_law_v"] ["_law_state"] (defScope (top 67)) := ⟨rfl, rfl, rfl, by decide +kernel, rfl, by decide +kernel, by decide +kernel⟩
theorem ok__law_outs (Z : Tx P w K mg base) : Pr P w K mg base 1 "_law_outs" sp_louts := by
  refine Z.pr0 50 35 (d := d__law_outs) rfl rfl rfl rfl rfl sc__law_outs (fun vs H Q E h => ?_) (fun _ _ _ _ _ _ us hl => match us, hl with | [_], _ => rfl) (fun f cdv A outer s H vs Q E hr h => ?_)
  · obtain ⟨a, S, rfl, _⟩ := h
    rfl
  · obtain ⟨a, S, rfl, L, hn, k⟩ := h
    refine ⟨_, (pss_one (ps_ret (pe_lc (own := [("_law_v", 1)]) (g := gName 1) rfl sc__law_outs.nd (pi_range2 rfl (Z.free 61) (pa_cons pe_int (pa_cons (pe_callB call_len_seq (by rfl) (Z.free 60) PySem.boot_len (pa_cons (pe_ix ix_list (pv 0) pe_int (fun _ _ => rfl)) pa_nil)) pa_nil))) (blkOk_by (own := [("_law_v", 1)]) (N := ["_law_state", "_law_v"]) (sc := defScope (top 67)) (by decide +kernel)) (fun _ _ _ _ _ => pg_name (i := 1) sc__law_outs.nd rfl (Or.inl rfl)) (fun _ _ _ _ _ => pts_one (by exact (pt_val (pe_ix (ix_listK (K := K) rfl) (pe_ix (ix_listK (K := K) rfl) (pv 0) pe_int (fun _ _ => rfl)) (pv 1) (fun _ _ => rfl))))) (fun _ _ _ _ _ => (by exact (pv 1)))))), ?_⟩
    have hq := vq_len S
    refine ⟨_, rfl, _, _, _, _, rfl, rfl, SqL.of L.ob, at3_0, a.r, _, rfl, Or.inl (SqL.of L.hr), _, _, rfl, ⟨by omega, by omega, by omega, by omega⟩, fun D hD => ?_⟩
    refine lc_range (lo := 1) (n := (((vq S).length : Int) - 1).toNat) (fun i H' => Same H H' ∧ H' D = some (.lst (given i (fun v => S.F (v + 1)) fun v => .int ((v + 1 : Nat) : Int)))) ⟨Same.up hD, upd_same⟩ ?_ ?_
    · rintro i H' hi ⟨s1, e1⟩
      have hi' : i < S.n := by omega
      refine ⟨rfl, _, rfl, _, _, _, _, rfl, rfl, SqL.of (L.same s1).ob, at3_2, _, rfl, _, _, _, _, rfl, rfl, SqL.of (L.same s1).hf, mk_atI (j := i + 1) _ (by omega) (by omega), _, rfl, iteB (fun c => ?_) (fun c => ?_)⟩
      · refine ⟨_, rfl, _, e1, szlt (by have := given_len i (fun v => S.F (v + 1)) (fun v => V.int ((v + 1 : Nat) : Int)); omega), Same.mut s1 hD, ?_⟩
        rw [given_yes (f := fun v => S.F (v + 1)) (v := fun v => V.int ((v + 1 : Nat) : Int)) c, show (1 : Int) + (i : Int) = ((i + 1 : Nat) : Int) by omega]
        exact upd_same
      · refine ⟨s1, ?_⟩
        rw [given_no (f := fun v => S.F (v + 1)) c]
        exact e1
    · rintro H' ⟨s1, e1⟩
      rw [show (((vq S).length : Int) - 1).toNat = S.n by omega] at e1
      refine k D H' hD s1 ?_
      unfold nvs outs
      rw [nodes_given]
      exact e1
theorem sc__law_states : FnScope ["_law_state", "_law_rows", "_law_v", "_law_near", "_law_far"] ["_law_state"] (defScope (top 68)) := ⟨rfl, rfl, rfl, by decide +kernel, rfl, by decide +kernel, by decide +kernel⟩
theorem ok__law_states (Z : Tx P w K mg base) : Pr P w K mg base 1 "_law_states" sp_lstates := by
  refine Z.pr0 51 36 (d := d__law_states) rfl rfl rfl rfl rfl sc__law_states (fun vs H Q E h => ?_) (fun _ _ _ _ _ _ us hl => match us, hl with | [_], _ => rfl) (fun f cdv A outer s H vs Q E hr h => ?_)
  · obtain ⟨a, S, rfl, _⟩ := h
    rfl
  · obtain ⟨a, S, rfl, L, hn, k⟩ := h
    refine ⟨_, (pss_cons (ps_set (i := 1) sc__law_states.nd rfl (Or.inl rfl) (pe_lst pa_nil)) (pss_cons (ps_for PassesOwn.never rfl (pi_range1 rfl (Z.free 61) (pa_cons (pe_callB call_len_seq (by rfl) (Z.free 60) PySem.boot_len (pa_cons (pe_ix ix_list (pv 0) pe_int (fun _ _ => rfl)) pa_nil)) pa_nil)) (pg_name (i := 2) sc__law_states.nd rfl (Or.inl rfl)) (pss_cons (ps_set (i := 3) sc__law_states.nd rfl (Or.inl rfl) (pe_cmpR op_eq (pe_ix ix_list (pe_ix ix_list (pv 0) pe_int (fun _ _ => rfl)) (pv 2) (fun _ _ => rfl)) (pe_op op_add (pv 2) pe_int) (nomark _))) (Evl.pss_cut (ps_set (i := 4) sc__law_states.nd rfl (Or.inl rfl) (pe_cmpR op_eq (pe_ix ix_list (pe_ix ix_list (pv 0) pe_int (fun _ _ => rfl)) (pe_op op_add (pv 2) pe_int) (fun _ _ => rfl)) (pv 2) (nomark _))) (pss_one (ps_expr (pe_bm PySem.F.plainAttrs_list PySem.F.slot_list_append PySem.F.type_list_append mt_append (pv 1) (pa_cons (pe_ifExp (PW.pt (pw_and (pt_val (pv 3)) (pw_and1 (pt_val (pv 4))))) pe_str (pe_ifExp (pt_val (pv 3)) pe_str (pe_ifExp (pt_val (pv 4)) pe_str pe_str))) pa_nil))))))) (pss_one (ps_ret (pv 1))))), ?_⟩
    have hq := vq_len S
    refine ⟨(by show 0 ≤ sizeLine; decide), fun D hD => ?_⟩
    refine ⟨_, rfl, _, _, _, _, rfl, rfl, SqL.of (Same.up hD _ _ L.ob), at3_0, a.r, _, rfl, Or.inl (SqL.of (Same.up hD _ _ L.hr)), _, rfl, by omega, by omega, ?_⟩
    refine for_range (lo := 0) (n := ((vq S).length : Int).toNat) (fun i σ H' => ∃ v2 v3 v4 : Option V, σ = [some (.ref a.p), some (.ref D), v2, v3, v4] ∧ Same H H' ∧ H' D = some (.lst (mk i fun v => .str (gstr (gst S v))))) ⟨none, none, none, rfl, Same.up hD, upd_same⟩ ?_ ?_
    · rintro i σ H' hi ⟨v2, v3, v4, rfl, s1, e1⟩
      have hi' : i < S.n + 1 := by omega
      have L1 := L.same s1
      have n1 : decide (V.int (S.R i : Int) = V.int (0 + (i : Int) + 1)) = lh S i := by
        unfold lh
        rw [decide_eq_decide]
        exact ⟨fun z => by injection z with z; omega, fun z => by rw [z]; exact congrArg V.int (by omega)⟩
      have n2 : decide (V.int (lz S (i + 1)) = V.int (0 + (i : Int))) = rh S i := by
        unfold rh
        rw [decide_eq_decide, lz_pos (by omega)]
        exact ⟨fun z => by injection z with z; omega, fun z => by rw [z]; exact congrArg V.int (by omega)⟩
      refine ⟨_, rfl, _, _, _, _, rfl, rfl, SqL.of L1.ob, at3_0, _, rfl, _, _, _, _, rfl, rfl, SqL.of L1.hr, mk_atI (j := i) _ (by omega) hi', _, rfl, _, _, rfl, rfl, rfl, ?_⟩
      refine ⟨fun σ' H2 => σ' = [some (.ref a.p), some (.ref D), some (.int (0 + (i : Int))), some (.bl (lh S i)), some (.bl (rh S i))] ∧ H2 = H', ?_, ?_⟩
      · refine ⟨_, rfl, _, _, _, _, rfl, rfl, SqL.of L1.ob, at3_1, _, rfl, _, _, rfl, rfl, _, _, _, _, rfl, rfl, SqL.of L1.hl, mk_atI (j := i + 1) _ (by omega) (by omega), _, rfl, rfl, ?_, rfl⟩
        rw [← n1, ← n2] <;> rfl
      · rintro σ' H2 ⟨rfl, rfl⟩
        have fin : ∀ g, g = gstr (gst S i) → upd H2 D (.lst ((mk i fun v => .str (gstr (gst S v))) ++ [.str g])) D = some (.lst (mk (i + 1) fun v => .str (gstr (gst S v)))) := by
          rintro g rfl
          rw [mk_snoc]
          exact upd_same
        have hz : (mk i fun v => V.str (gstr (gst S v))).length < sizeLine := szlt (by rw [mk_len]; omega)
        cases c1 : lh S i with
        | true =>
          cases c2 : rh S i with
          | true => exact ⟨_, rfl, Or.inl ⟨rfl, _, SqL.of e1⟩, _, rfl, _, rfl, _, rfl, _, rfl, _, _, _, rfl, rfl, e1, hz, some _, some _, some _, rfl, Same.mut s1 hD, fin _ (by unfold gst; rw [c1, c2] <;> rfl)⟩
          | false => exact ⟨_, rfl, Or.inl ⟨rfl, _, SqL.of e1⟩, _, rfl, _, rfl, _, rfl, _, rfl, _, rfl, _, rfl, _, _, _, rfl, rfl, e1, hz, some _, some _, some _, rfl, Same.mut s1 hD, fin _ (by unfold gst; rw [c1, c2] <;> rfl)⟩
        | false =>
          cases c2 : rh S i with
          | true => exact ⟨_, rfl, Or.inl ⟨rfl, _, SqL.of e1⟩, _, rfl, _, rfl, _, rfl, _, rfl, _, rfl, _, rfl, _, _, _, rfl, rfl, e1, hz, some _, some _, some _, rfl, Same.mut s1 hD, fin _ (by unfold gst; rw [c1, c2] <;> rfl)⟩
          | false => exact ⟨_, rfl, Or.inl ⟨rfl, _, SqL.of e1⟩, _, rfl, _, rfl, _, rfl, _, rfl, _, rfl, _, rfl, _, _, _, rfl, rfl, e1, hz, some _, some _, some _, rfl, Same.mut s1 hD, fin _ (by unfold gst; rw [c1, c2] <;> rfl)⟩
    · rintro σ H' ⟨v2, v3, v4, rfl, s1, e1⟩
      rw [show ((vq S).length : Int).toNat = S.n + 1 by omega] at e1
      exact ⟨_, rfl, k D H' hD s1 e1⟩
theorem sc__law_deeds : FnScope ["_law_state", "_law_v"] ["_law_state"] (defScope (top 69)) := ⟨rfl, rfl, rfl, by decide +kernel, rfl, by decide +kernel, by decide +kernel⟩
theorem ok__law_deeds (Z : Tx P w K mg base) : Pr P w K mg base 1 "_law_deeds" sp_ldeeds := by
  refine Z.pr0 52 37 (d := d__law_deeds) rfl rfl rfl rfl rfl sc__law_deeds (fun vs H Q E h => ?_) (fun _ _ _ _ _ _ us hl => match us, hl with | [_], _ => rfl) (fun f cdv A outer s H vs Q E hr h => ?_)
  · obtain ⟨a, S, rfl, _⟩ := h
    rfl
  · obtain ⟨a, S, rfl, L, hn, k⟩ := h
    refine ⟨_, (pss_one (ps_ret (pe_lc (own := [("_law_v", 1)]) (g := gName 1) rfl sc__law_deeds.nd (pi_range2 rfl (Z.free 61) (pa_cons pe_int (pa_cons (pe_callB call_len_seq (by rfl) (Z.free 60) PySem.boot_len (pa_cons (pe_ix ix_list (pv 0) pe_int (fun _ _ => rfl)) pa_nil)) pa_nil))) (blkOk_by (own := [("_law_v", 1)]) (N := ["_law_state", "_law_v"]) (sc := defScope (top 69)) (by decide +kernel)) (fun _ _ _ _ _ => pg_name (i := 1) sc__law_deeds.nd rfl (Or.inl rfl)) (fun _ _ _ _ _ => pts_nil) (fun _ _ _ _ _ => (by exact (pe_ifExp (pt_val (pe_ix (ix_listK (K := K) rfl) (pe_ix (ix_listK (K := K) rfl) (pv 0) pe_int (fun _ _ => rfl)) (pv 1) (fun _ _ => rfl))) (pv 1) (pe_un un_neg (pv 1)))))))), ?_⟩
    have hq := vq_len S
    refine ⟨_, rfl, _, _, _, _, rfl, rfl, SqL.of L.ob, at3_0, a.r, _, rfl, Or.inl (SqL.of L.hr), _, _, rfl, ⟨by omega, by omega, by omega, by omega⟩, fun D hD => ?_⟩
    refine lc_range (lo := 1) (n := (((vq S).length : Int) - 1).toNat) (fun i H' => Same H H' ∧ H' D = some (.lst (mk i fun v => .int (opOn S (v + 1))))) ⟨Same.up hD, upd_same⟩ ?_ ?_
    · rintro i H' hi ⟨s1, e1⟩
      have hi' : i < S.n := by omega
      refine ⟨rfl, _, rfl, _, _, _, _, rfl, rfl, SqL.of (L.same s1).ob, at3_2, _, rfl, _, _, _, _, rfl, rfl, SqL.of (L.same s1).hf, mk_atI (j := i + 1) _ (by omega) (by omega), _, rfl, iteB (fun c => ?_) (fun c => ?_)⟩
      · refine ⟨_, rfl, _, e1, szlt (by rw [mk_len]; omega), Same.mut s1 hD, ?_⟩
        have e : opOn S (i + 1) = 1 + (i : Int) := by
          unfold opOn
          rw [if_pos c]
          omega
        rw [mk_snoc, e]
        exact upd_same
      · refine ⟨_, rfl, _, rfl, _, e1, szlt (by rw [mk_len]; omega), Same.mut s1 hD, ?_⟩
        have e : opOn S (i + 1) = -(1 + (i : Int)) := by
          unfold opOn
          rw [c, if_neg (by decide)]
          omega
        rw [mk_snoc, e]
        exact upd_same
    · rintro H' ⟨s1, e1⟩
      rw [show (((vq S).length : Int) - 1).toNat = S.n by omega] at e1
      refine k D H' hD s1 ?_
      rw [e1]
      unfold nodes mk
      rw [List.map_map, List.map_map] <;> rfl
theorem in_lost (S : Sd) : inV (.str "lost") (mk (S.n + 1) fun v => .str (gstr (gst S v))) = !(lostL S).isEmpty := by
  have e : ∀ g : G, eqV (.str (gstr g)) (.str "lost") = decide (g = .lost) := by
    intro g
    cases g <;> decide +kernel
  unfold inV mk lostL
  rw [List.any_map]
  have e2 : ((fun y => eqV y (.str "lost")) ∘ fun v => V.str (gstr (gst S v))) = fun v => decide (gst S v = .lost) := by
    funext v
    exact e _
  rw [e2]
  induction List.range (S.n + 1) with
  | nil => rfl
  | cons x r ih =>
    rw [List.any_cons, List.filter_cons, ih]
    cases decide (gst S x = .lost) <;> rfl
theorem flat_states (S : Sd) : (mk (S.n + 1) fun v => V.str (gstr (gst S v))).all flatV = true := by
  unfold mk
  rw [List.all_map, List.all_eq_true]
  intro x _
  rfl
theorem sc__law_debt : FnScope ["_law_state", "_law_rows", "_law_debt_here", "_law_v"] ["_law_state"] (defScope (top 70)) := ⟨rfl, rfl, rfl, by decide +kernel, rfl, by decide +kernel, by decide +kernel⟩
theorem ok__law_debt (Z : Tx P w K mg base) : Pr P w K mg base 2 "_law_debt" sp_ldebt := by
  refine Z.pr0 53 38 (d := d__law_debt) rfl rfl rfl rfl rfl sc__law_debt (fun vs H Q E h => ?_) (fun _ _ _ _ _ _ us hl => match us, hl with | [_], _ => rfl) (fun f cdv A outer s H vs Q E hr h => ?_)
  · obtain ⟨a, S, rfl, _⟩ := h
    rfl
  · obtain ⟨a, S, rfl, L, hn, k⟩ := h
    refine ⟨_, (pss_cons (ps_set (i := 1) sc__law_debt.nd rfl (Or.inl rfl) (pc (ok__law_states Z) hr (pa_cons (pv 0) pa_nil))) (pss_cons (ps_if (pt_cmpR op_in_seq pe_str (pv 1) (by with_unfolding_all rfl)) (pss_one (ps_ret (pe_un un_neg pe_int))) pss_nil) (pss_cons (ps_set (i := 2) sc__law_debt.nd rfl (Or.inl rfl) pe_int) (pss_cons (ps_for PassesOwn.never rfl (pi_range2 rfl (Z.free 61) (pa_cons pe_int (pa_cons (pe_callB call_len_seq (by rfl) (Z.free 60) PySem.boot_len (pa_cons (pv 1) pa_nil)) pa_nil))) (pg_name (i := 3) sc__law_debt.nd rfl (Or.inl rfl)) (pss_one (ps_if (pt_val (pe_ix ix_list (pe_ix ix_list (pv 0) pe_int (fun _ _ => rfl)) (pv 3) (fun _ _ => rfl))) (pss_one (ps_set (i := 2) sc__law_debt.nd rfl (Or.inl rfl) (pe_op op_add (pv 2) pe_int))) (pss_one (ps_if (PW.pt (pw_or (pt_cmpR op_eq (pe_ix ix_list (pv 1) (pv 3) (fun _ _ => rfl)) pe_str (nomark _)) (pw_or1 (pt_cmpR op_eq (pe_ix ix_list (pv 1) (pe_op op_sub (pv 3) pe_int) (fun _ _ => rfl)) pe_str (nomark _))))) (pss_one (ps_set (i := 2) sc__law_debt.nd rfl (Or.inl rfl) (pe_op op_add (pv 2) pe_int))) pss_nil))))) (pss_one (ps_ret (pv 2))))))), ?_⟩
    refine ⟨_, rfl, a, S, rfl, L, hn, fun p H1 np s1 e1 => ?_⟩
    have L1 := L.same s1
    unfold ldebt at k
    refine ⟨_, rfl, p, _, rfl, Or.inl (SqL.of e1), rfl, flat_states S, _, rfl, ?_⟩
    show if inV (.str "lost") (mk (S.n + 1) fun v => .str (gstr (gst S v))) = true then _ else _
    rw [in_lost]
    refine iteB (fun c => ?_) (fun c => ?_)
    · rw [Bool.not_eq_true'] at c
      rw [c, if_neg (by decide)] at k
      exact ⟨_, rfl, k H1 s1⟩
    · rw [Bool.not_eq_false'] at c
      rw [if_pos c] at k
      have hm : (mk (S.n + 1) fun v => V.str (gstr (gst S v))).length = S.n + 1 := mk_len _ _
      refine ⟨_, rfl, p, _, rfl, Or.inl (SqL.of e1), _, _, rfl, ⟨by omega, by omega, by omega, by omega⟩, ?_⟩
      refine for_range (lo := 1) (n := (((mk (S.n + 1) fun v => V.str (gstr (gst S v))).length : Int) - 1).toNat) (fun i σ H' => ∃ v3 : Option V, σ = [some (.ref a.p), some (.ref p), some (.int (sumTo (dd S) i : Int)), v3] ∧ H' = H1) ⟨none, rfl, rfl⟩ ?_ ?_
      · rintro i σ H' hi ⟨v3, rfl, rfl⟩
        have hi' : i < S.n := by omega
        have eI : (1 : Int) + (i : Int) = ((i + 1 : Nat) : Int) := by omega
        have fin : ∀ d : Nat, dd S (i + 1) = d → ∃ v3 : Option V, [some (V.ref a.p), some (.ref p), some (.int ((sumTo (dd S) i : Int) + (d : Int))), some (.int (1 + (i : Int)))] = [some (.ref a.p), some (.ref p), some (.int (sumTo (dd S) (i + 1) : Int)), v3] ∧ H' = H' := by
          rintro d rfl
          refine ⟨some (.int (1 + (i : Int))), ?_, rfl⟩
          show _ = [some (V.ref a.p), some (.ref p), some (.int ((sumTo (dd S) i + dd S (i + 1) : Nat) : Int)), some (.int (1 + (i : Int)))]
          rw [Int.natCast_add]
        refine ⟨_, rfl, _, _, _, _, rfl, rfl, SqL.of L1.ob, at3_2, _, rfl, _, _, _, _, rfl, rfl, SqL.of L1.hf, mk_atI (j := i + 1) _ eI (by omega), _, rfl, iteB (fun c2 => ?_) (fun c2 => ?_)⟩
        · exact ⟨_, rfl, _, _, rfl, rfl, fin 1 (by unfold dd; rw [if_pos c2])⟩
        · have hd : dd S (i + 1) = if sole S (i + 1) = true then 2 else 0 := by
            unfold dd
            rw [c2, if_neg (by decide)]
          rw [sole_eq, Nat.add_sub_cancel] at hd
          refine ⟨_, rfl, _, rfl, _, _, _, _, rfl, rfl, SqL.of e1, mk_atI (j := i + 1) _ eI (by omega), rfl, _, rfl, ?_⟩
          show if (decide (V.str (gstr (gst S (i + 1))) = V.str "left")) = true then _ else _
          rw [gstr_left]
          refine iteB (fun c3 => ?_) (fun c3 => ?_)
          · rw [c3, Bool.true_or, if_pos rfl] at hd
            exact ⟨_, rfl, _, _, rfl, rfl, fin 2 hd⟩
          · rw [c3, Bool.false_or] at hd
            refine ⟨_, rfl, _, rfl, _, _, rfl, rfl, _, _, _, _, rfl, rfl, SqL.of e1, mk_atI (j := i) _ (by omega) (by omega), rfl, _, rfl, ?_⟩
            show if (decide (V.str (gstr (gst S i)) = V.str "right")) = true then _ else _
            rw [gstr_right]
            refine iteB (fun c4 => ?_) (fun c4 => ?_)
            · rw [if_pos c4] at hd
              exact ⟨_, rfl, _, _, rfl, rfl, fin 2 hd⟩
            · rw [c4, if_neg (by decide)] at hd
              have z := fin 0 hd
              rw [show ((0 : Nat) : Int) = 0 from rfl, Int.add_zero] at z
              exact z
      · rintro σ H' ⟨v3, rfl, rfl⟩
        rw [show (((mk (S.n + 1) fun v => V.str (gstr (gst S v))).length : Int) - 1).toNat = S.n by omega]
        exact ⟨_, rfl, k _ s1⟩
end
end LL
namespace LL
open PySem PySem.Spec PyProof.Rows L2
/-! ### the law's own repair -/
def sp_lrepair : Sp := fun vs H Q _ => ∃ (a : LA) (S : Sd) (k : Nat), vs = [.ref a.p] ∧ StAt H a S ∧ S.n ≤ 60 ∧ Good S k ∧ RetN ((canon k S).map V.int) H Q
section
variable {P : Program} {w : World} {K : PySem.W.Frag} {mg : Str → Option Value} {base : Heap}
theorem sc__law_repair : FnScope ["_law_state", "_law_now", "_law_row", "_law_debt_here", "_law_k", "_law_deed", "_law_then"] ["_law_state"] (defScope (top 71)) := ⟨rfl, rfl, rfl, by decide +kernel, rfl, by decide +kernel, by decide +kernel⟩
theorem ok__law_repair (Z : Tx P w K mg base) : Pr P w K mg base 3 "_law_repair" sp_lrepair := by
  refine Z.pr0 54 39 (d := d__law_repair) rfl rfl rfl rfl rfl sc__law_repair (fun vs H Q E h => ?_) (fun _ _ _ _ _ _ us hl => match us, hl with | [_], _ => rfl) (fun f cdv A outer s H vs Q E hr h => ?_)
  · obtain ⟨a, S, m, rfl, _⟩ := h
    rfl
  · obtain ⟨a0, S, m, rfl, L0, hn, g, k⟩ := h
    refine ⟨_, (pss_cons (ps_set (i := 1) sc__law_repair.nd rfl (Or.inl rfl) (pc (ok__law_twin Z) hr (pa_cons (pv 0) pa_nil))) (pss_cons (ps_set (i := 2) sc__law_repair.nd rfl (Or.inl rfl) (pe_lst pa_nil)) (pss_cons (ps_set (i := 3) sc__law_repair.nd rfl (Or.inl rfl) (pc (ok__law_debt Z) hr (pa_cons (pv 1) pa_nil))) (pss_cons (ps_for PassesOwn.never rfl (pi_range1 rfl (Z.free 61) (pa_cons (pv 3) pa_nil)) (pg_name (i := 4) sc__law_repair.nd rfl (Or.inl rfl)) (pss_one (ps_for PassesOwn.never rfl (pi_list (pc (ok__law_deeds Z) hr (pa_cons (pv 1) pa_nil))) (pg_name (i := 5) sc__law_repair.nd rfl (Or.inl rfl)) (pss_cons (ps_set (i := 6) sc__law_repair.nd rfl (Or.inl rfl) (pc (ok__law_twin Z) hr (pa_cons (pv 1) pa_nil))) (pss_cons (ps_expr (pc (ok__law_put Z) hr (pa_cons (pv 6) (pa_cons (pv 5) pa_nil)))) (pss_one (ps_if (pt_cmpR op_eq (pc (ok__law_debt Z) hr (pa_cons (pv 6) pa_nil)) (pe_op op_sub (pe_op op_sub (pv 3) (pv 4)) pe_int) (nomark _)) (pss_cons (ps_expr (pe_bm PySem.F.plainAttrs_list PySem.F.slot_list_append PySem.F.type_list_append mt_append (pv 2) (pa_cons (pv 5) pa_nil))) (pss_cons (ps_set (i := 1) sc__law_repair.nd rfl (Or.inl rfl) (pv 6)) (pss_one ps_break))) pss_nil))))))) (pss_one (ps_ret (pv 2))))))), ?_⟩
    have hm : m ≤ 120 := by
      have := debt_le S
      have := g.db
      omega
    refine ⟨_, rfl, a0, S, rfl, L0, hn, fun b H1 B s1 b1 b2 b3 b4 => ?_⟩
    refine ⟨(by show 0 ≤ sizeLine; decide), fun q nq => ?_⟩
    have B1 := B.same (Same.up (o := .lst []) nq)
    have s2 : Same H (upd H1 q (.lst [])) := Same.new s1 nq
    have nq0 : H q = none := Same.free s1 nq
    have qb : q ≠ b.p ∧ q ≠ b.l ∧ q ≠ b.r ∧ q ≠ b.f := ⟨(ne_of_none B.ob nq).symm, (ne_of_none B.hl nq).symm, (ne_of_none B.hr nq).symm, (ne_of_none B.hf nq).symm⟩
    refine ⟨_, rfl, b, S, rfl, B1, hn, fun H2 s3 => ?_⟩
    rw [ldebt_good g]
    have hlen : (canon m S).length = m := canon_len g
    refine ⟨_, rfl, _, rfl, by omega, by omega, for_range (lo := 0) (n := ((m : Nat) : Int).toNat) (fun i σ H' => ∃ (c : LA) (v4 v5 v6 : Option V), σ = [some (.ref a0.p), some (.ref c.p), some (.ref q), some (.int (m : Int)), v4, v5, v6] ∧ Same H H' ∧
      H' q = some (.lst (((canon m S).take i).map V.int)) ∧ StAt H' c (after S ((canon m S).take i))) ?_ ?_ ?_⟩
    · exact ⟨b, none, none, none, rfl, Same.trans s2 s3, s3 _ _ upd_same, B1.same s3⟩
    · rintro i σ H' hi ⟨c, v4, v5, v6, rfl, s4, eq, C⟩
      rw [Int.toNat_natCast] at hi
      obtain ⟨g1, g2⟩ := canon_part i g (Nat.le_of_lt hi)
      rw [show m - i = (m - i - 1) + 1 by omega] at g1 g2
      obtain ⟨x, hx, x1, x2, xl, xg⟩ := good_next g1
      rw [canon_step hx] at g2
      have hget : (canon m S)[i]? = some (opOn (after S ((canon m S).take i)) x) := by
        have e : ((canon m S).drop i)[0]? = some (opOn (after S ((canon m S).take i)) x) := by rw [← g2] <;> rfl
        rw [List.getElem?_drop] at e
        exact e
      have wfi := g1.wf
      have hni : (after S ((canon m S).take i)).n = S.n := after_n _ _
      have hni6 : (after S ((canon m S).take i)).n ≤ 60 := by rw [hni]; exact hn
      refine ⟨_, rfl, c, _, rfl, C, hni6, fun d H3 nd s5 ed => ⟨d, rfl, ⟨_, SqL.of ed⟩, ?_⟩⟩
      obtain ⟨hlow, i0, hi0, hget0, hbef⟩ := List.find?_eq_some_iff_getElem.mp hx
      rw [nodes_len] at hi0
      have ex : x = i0 + 1 := by
        have e := nodes_at hi0
        rw [List.getElem?_eq_getElem (by rw [nodes_len]; exact hi0), hget0] at e
        exact Option.some.inj e
      have hbef2 : ∀ j, j < i0 → lowers (after S ((canon m S).take i)) (j + 1) = false := fun j hj => by
        have e := nodes_at (n := (after S ((canon m S).take i)).n) (i := j) (by omega)
        have e2 := hbef j hj
        rw [List.getElem?_eq_getElem (by rw [nodes_len]; omega)] at e
        rw [Option.some.inj e] at e2
        simpa using e2
      have s6 : Same H H3 := Same.trans s4 s5
      refine for_list (K := K) (a := d) (xs := ((nodes (after S ((canon m S).take i)).n).map (opOn (after S ((canon m S).take i)))).map V.int) (fun j σ H' => ∃ v5 v6 : Option V, σ = [some (.ref a0.p), some (.ref c.p), some (.ref q), some (.int (m : Int)), some (.int (0 + (i : Int))), v5, v6] ∧ Same H3 H' ∧ ∀ j', j' < j → lowers (after S ((canon m S).take i)) (j' + 1) = false)
        ⟨v5, v6, rfl, Same.refl _, fun j' hj => absurd hj (Nat.not_lt_zero j')⟩ (fun j σ H' _ ⟨_, _, _, s7, _⟩ => Same.seq s7 (SqL.of ed)) ?_ ?_
      · rintro j y σ H' hy ⟨u5, u6, rfl, s7, all⟩
        rw [List.map_map, List.getElem?_map] at hy
        obtain ⟨z, hz, rfl⟩ := Option.map_eq_some_iff.mp hy
        have hj : j < (after S ((canon m S).take i)).n := by
          have := (List.getElem?_eq_some_iff.mp hz).1
          rw [nodes_len] at this
          exact this
        rw [nodes_at hj] at hz
        cases hz
        have C3 := (C.same s5).same s7
        refine ⟨_, rfl, c, _, rfl, C3, hni6, fun e H4 E1 s8 e1 e2 e3 e4 => ?_⟩
        refine ⟨_, rfl, _, rfl, e, _, _, rfl, E1, wfi, hni6, okop_opOn (by omega) (by omega), fun H5 E2 kp => ?_⟩
        rw [opOn_abs] at E2
        have s9 : Same H' H5 := Keep.old s8 kp e2 e3 e4
        refine ⟨_, rfl, e, _, rfl, E2, hni6, fun H6 s10 => ?_⟩
        have s11 : Same H' H6 := Same.trans s9 s10
        refine ⟨_, rfl, _, rfl, _, _, rfl, rfl, _, _, rfl, rfl, rfl, _, rfl, ?_⟩
        have ez : decide (V.int (ldebt (put (after S ((canon m S).take i)) (j + 1))) = V.int ((m : Int) - (0 + (i : Int)) - 1)) = lowers (after S ((canon m S).take i)) (j + 1) := by
          rw [← ldebt_lowers g1 (by omega) (by omega), decide_eq_decide]
          exact ⟨fun z => by injection z with z; omega, fun z => congrArg V.int (by omega)⟩
        show if (decide (V.int (ldebt (put (after S ((canon m S).take i)) (j + 1))) = V.int ((m : Int) - (0 + (i : Int)) - 1))) = true then _ else _
        rw [ez]
        refine iteB (fun cL => ?_) (fun cL => ?_)
        · have ej : j = i0 := by
            rcases Nat.lt_trichotomy j i0 with z | z | z
            · rw [hbef2 j z] at cL
              cases cL
            · exact z
            · have q2 := all i0 z
              rw [← ex, hlow] at q2
              cases q2
          have s12 : Same H H6 := Same.trans s6 (Same.trans s7 s11)
          have eq6 : H6 q = some (.lst (((canon m S).take i).map V.int)) := s11 _ _ (s7 _ _ (s5 _ _ eq))
          have E3 := E2.same s10
          have nqe : q ≠ e.p ∧ q ≠ e.l ∧ q ≠ e.r ∧ q ≠ e.f := by
            have e0 : H' q = some (.lst (((canon m S).take i).map V.int)) := s7 _ _ (s5 _ _ eq)
            exact ⟨ne_of_none e0 e1, ne_of_none e0 e2, ne_of_none e0 e3, ne_of_none e0 e4⟩
          refine ⟨_, rfl, Or.inl ⟨rfl, _, SqL.of eq6⟩, _, rfl, _, _, _, rfl, rfl, eq6, szlt (by rw [List.length_map, List.length_take]; omega), ?_⟩
          refine ⟨_, rfl, e, some _, some _, some _, rfl, Same.mut s12 nq0, ?_, ?_⟩
          · rw [upd_same, take_snoc hget, List.map_append, ex, ej]
            rfl
          · rw [after_take hget, opOn_abs, ex, ← ej]
            exact ⟨by rw [upd_ne nqe.1.symm]; exact E3.ob, by rw [upd_ne nqe.2.2.1.symm]; exact E3.hr, by rw [upd_ne nqe.2.1.symm]; exact E3.hl, by rw [upd_ne nqe.2.2.2.symm]; exact E3.hf, E3.lr, E3.lf, E3.rf, E3.pr, E3.pl, E3.pf⟩
        · refine ⟨some _, some _, rfl, Same.trans s7 s11, fun j' hj' => ?_⟩
          by_cases e : j' < j
          · exact all j' e
          · have ej : j' = j := by omega
            rw [ej]
            exact cL
      · rintro σ H' ⟨u5, u6, rfl, s7, all⟩
        rw [List.length_map, List.length_map, nodes_len] at all
        have q2 := all i0 hi0
        rw [← ex, hlow] at q2
        cases q2
    · rintro σ H' ⟨c, v4, v5, v6, rfl, s4, eq, C⟩
      rw [Int.toNat_natCast, List.take_of_length_le (Nat.le_of_eq hlen)] at eq
      exact ⟨_, rfl, k q H' nq0 s4 eq⟩
end
end LL
namespace LL
open PySem PySem.Spec PyProof.Rows L2
/-! ### the law's own comparison, of two values of the same data -/
/-- data of less than n levels, its lists short -/
def Sz : Nat → PyData → Prop
  | 0, _ => False
  | n + 1, d => ∀ xs, d = .list xs ∨ d = .tuple xs → xs.length ≤ 1000 ∧ ∀ e ∈ xs, Sz n e
def sp_same (K : PySem.W.Frag) (n : Nat) : Sp := fun vs H Q _ => ∃ (x y : V) (d : PyData), vs = [x, y] ∧ Dp K H x d ∧ Dp K H y d ∧ Sz n d ∧ Q (.bl true) H
theorem sz_non {n : Nat} : Sz (n + 1) .none := fun xs h => by rcases h with h | h <;> cases h
theorem sz_bl {n : Nat} {b : Bool} : Sz (n + 1) (.bool b) := fun xs h => by rcases h with h | h <;> cases h
theorem sz_int {n : Nat} {i : Int} : Sz (n + 1) (.int i) := fun xs h => by rcases h with h | h <;> cases h
theorem sz_str {n : Nat} {z : Str} : Sz (n + 1) (.str z) := fun xs h => by rcases h with h | h <;> cases h
theorem sz_lst {n : Nat} {ds : List PyData} (h : ds.length ≤ 1000) (k : ∀ e ∈ ds, Sz n e) : Sz (n + 1) (.list ds) := fun xs h => by
  rcases h with h | h
  · cases h
    exact ⟨by assumption, k⟩
  · cases h
theorem sz_tup {n : Nat} {ds : List PyData} (h : ds.length ≤ 1000) (k : ∀ e ∈ ds, Sz n e) : Sz (n + 1) (.tuple ds) := fun xs h => by
  rcases h with h | h
  · cases h
  · cases h
    exact ⟨by assumption, k⟩
theorem sz_ints {n : Nat} {xs : List Int} (h : xs.length ≤ 1000) : Sz (n + 2) (.list (xs.map PyData.int)) := sz_lst (by rw [List.length_map]; exact h) fun e he => by
  obtain ⟨i, _, rfl⟩ := List.mem_map.mp he
  exact sz_int
theorem tyL {K : PySem.W.Frag} {H : Hp} {a : Addr} {xs : List V} (h : SqL K H a xs) : TyX K H (.ref a) (.type "list") := by
  rcases h with (h | ⟨o, h⟩) | ⟨o, its, n, h, c, _⟩
  · exact .base (.lst h)
  · exact .base (.frz h)
  · exact .kList h c
theorem tyT {K : PySem.W.Frag} {H : Hp} {a : Addr} {xs : List V} (h : SqT K H a xs) : TyX K H (.ref a) (.type "tuple") := by
  rcases h with (h | ⟨o, h⟩) | ⟨o, its, n, h, c, _⟩
  · exact .base (.tup h)
  · exact .fTuple h
  · exact .kTuple h c
theorem dpAll_len {K : PySem.W.Frag} {H : Hp} : ∀ {xs : List V} {ds : List PyData}, DpAll K H xs ds → xs.length = ds.length
  | _, _, .nil => rfl
  | _, _, .cons _ r => congrArg (· + 1) (dpAll_len r)
theorem dpAll_at {K : PySem.W.Frag} {H : Hp} : ∀ {xs : List V} {ds : List PyData} {i : Nat}, DpAll K H xs ds → i < xs.length → ∃ x d, xs[i]? = some x ∧ ds[i]? = some d ∧ Dp K H x d
  | _, _, i, .nil, h => absurd h (Nat.not_lt_zero i)
  | _, _, 0, .cons h r, _ => ⟨_, _, rfl, rfl, h⟩
  | _, _, i + 1, .cons h r, hi => by
    obtain ⟨x, d, h1, h2, h3⟩ := dpAll_at r (i := i) (by simpa using hi)
    exact ⟨x, d, by simpa using h1, by simpa using h2, h3⟩
theorem k_bool_bool (K : PySem.W.Frag) : PySem.W.kitOne K (.type "bool") (.type "bool") = some true := by kernel_rfl
theorem k_int_bool (K : PySem.W.Frag) : PySem.W.kitOne K (.type "int") (.type "bool") = some false := by kernel_rfl
theorem k_int_int (K : PySem.W.Frag) : PySem.W.kitOne K (.type "int") (.type "int") = some true := by kernel_rfl
theorem k_str_bool (K : PySem.W.Frag) : PySem.W.kitOne K (.type "str") (.type "bool") = some false := by kernel_rfl
theorem k_str_int (K : PySem.W.Frag) : PySem.W.kitOne K (.type "str") (.type "int") = some false := by kernel_rfl
theorem k_str_str (K : PySem.W.Frag) : PySem.W.kitOne K (.type "str") (.type "str") = some true := by kernel_rfl
theorem k_list_bool (K : PySem.W.Frag) : PySem.W.kitOne K (.type "list") (.type "bool") = some false := by kernel_rfl
theorem k_list_int (K : PySem.W.Frag) : PySem.W.kitOne K (.type "list") (.type "int") = some false := by kernel_rfl
theorem k_list_str (K : PySem.W.Frag) : PySem.W.kitOne K (.type "list") (.type "str") = some false := by kernel_rfl
theorem k_list_list (K : PySem.W.Frag) : PySem.W.kitOne K (.type "list") (.type "list") = some true := by kernel_rfl
theorem k_list_tuple (K : PySem.W.Frag) : PySem.W.kitOne K (.type "list") (.type "tuple") = some false := by kernel_rfl
theorem k_tuple_bool (K : PySem.W.Frag) : PySem.W.kitOne K (.type "tuple") (.type "bool") = some false := by kernel_rfl
theorem k_tuple_int (K : PySem.W.Frag) : PySem.W.kitOne K (.type "tuple") (.type "int") = some false := by kernel_rfl
theorem k_tuple_str (K : PySem.W.Frag) : PySem.W.kitOne K (.type "tuple") (.type "str") = some false := by kernel_rfl
theorem k_tuple_list (K : PySem.W.Frag) : PySem.W.kitOne K (.type "tuple") (.type "list") = some false := by kernel_rfl
theorem k_tuple_tuple (K : PySem.W.Frag) : PySem.W.kitOne K (.type "tuple") (.type "tuple") = some true := by kernel_rfl
section
variable {P : Program} {w : World} {K : PySem.W.Frag} {mg : Str → Option Value} {base : Heap}
theorem sc__law_same : FnScope ["_law_told_here", "_law_due_here", "_law_k"] ["_law_told_here", "_law_due_here"] (defScope (top 63)) := ⟨rfl, rfl, rfl, by decide +kernel, rfl, by decide +kernel, by decide +kernel⟩
theorem ok__law_same (Z : Tx P w K mg base) : ∀ n, Pr P w K mg base (n + 1) "_law_same" (sp_same K n)
  | 0 => by
    refine Z.pr0 46 31 (d := d__law_same) rfl rfl rfl rfl rfl sc__law_same (fun vs H Q E h => ?_) (fun _ _ _ _ _ _ us hl => match us, hl with | [_, _], _ => rfl) (fun f cdv A outer s H vs Q E hr h => ?_)
    · obtain ⟨x, y, d, rfl, _⟩ := h
      rfl
    · obtain ⟨x, y, d, rfl, _, _, h, _⟩ := h
      exact h.elim
  | n + 1 => by
    have ih := ok__law_same Z n
    refine Z.pr0 46 31 (d := d__law_same) rfl rfl rfl rfl rfl sc__law_same (fun vs H Q E h => ?_) (fun _ _ _ _ _ _ us hl => match us, hl with | [_, _], _ => rfl) (fun f cdv A outer s H vs Q E hr h => ?_)
    · obtain ⟨x, y, d, rfl, _⟩ := h
      rfl
    · obtain ⟨x, y, d, rfl, hx, hy, hd, k⟩ := h
      refine ⟨_, (pss_cons (ps_if (pt_cmpR op_isN (pv 1) pe_non (nomark _)) (pss_one (ps_ret (pe_cmpR op_isN (pv 0) pe_non (nomark _)))) pss_nil) (pss_cons (ps_if (pt_val (pe_callB call_isi (by rfl) (Z.free 64) (by decide +kernel) (pa_cons (pv 1) (pa_cons (pe_bltn (v := .ty "bool") rfl (Z.free 72) (by decide +kernel) rfl) pa_nil)))) (pss_one (ps_ret (pe_and (pe_callB call_isi (by rfl) (Z.free 64) (by decide +kernel) (pa_cons (pv 0) (pa_cons (pe_bltn (v := .ty "bool") rfl (Z.free 72) (by decide +kernel) rfl) pa_nil))) (pe_one (pe_cmpR op_eq (pv 0) (pv 1) (nomark _)))))) pss_nil) (pss_cons (ps_if (pt_val (pe_callB call_isi (by rfl) (Z.free 64) (by decide +kernel) (pa_cons (pv 1) (pa_cons (pe_bltn (v := .ty "int") rfl (Z.free 65) (by decide +kernel) rfl) pa_nil)))) (pss_one (ps_ret (pe_and (pe_callB call_isi (by rfl) (Z.free 64) (by decide +kernel) (pa_cons (pv 0) (pa_cons (pe_bltn (v := .ty "int") rfl (Z.free 65) (by decide +kernel) rfl) pa_nil))) (pe_and (pe_not (pe_callB call_isi (by rfl) (Z.free 64) (by decide +kernel) (pa_cons (pv 0) (pa_cons (pe_bltn (v := .ty "bool") rfl (Z.free 72) (by decide +kernel) rfl) pa_nil)))) (pe_one (pe_cmpR op_eq (pv 0) (pv 1) (nomark _))))))) pss_nil) (pss_cons (ps_if (pt_val (pe_callB call_isi (by rfl) (Z.free 64) (by decide +kernel) (pa_cons (pv 1) (pa_cons (pe_bltn (v := .ty "str") rfl (Z.free 66) (by decide +kernel) rfl) pa_nil)))) (pss_one (ps_ret (pe_and (pe_callB call_isi (by rfl) (Z.free 64) (by decide +kernel) (pa_cons (pv 0) (pa_cons (pe_bltn (v := .ty "str") rfl (Z.free 66) (by decide +kernel) rfl) pa_nil))) (pe_one (pe_cmpR op_eq (pv 0) (pv 1) (nomark _)))))) pss_nil) (pss_cons (ps_if (PW.pt (pw_and (pt_val (pe_callB call_isi (by rfl) (Z.free 64) (by decide +kernel) (pa_cons (pv 1) (pa_cons (pe_bltn (v := .ty "list") rfl (Z.free 63) (by decide +kernel) rfl) pa_nil)))) (pw_and1 (pt_not (pt_val (pe_callB call_isi (by rfl) (Z.free 64) (by decide +kernel) (pa_cons (pv 0) (pa_cons (pe_bltn (v := .ty "list") rfl (Z.free 63) (by decide +kernel) rfl) pa_nil)))))))) (pss_one (ps_ret pe_bl)) pss_nil) (pss_cons (ps_if (PW.pt (pw_and (pt_val (pe_callB call_isi (by rfl) (Z.free 64) (by decide +kernel) (pa_cons (pv 1) (pa_cons (pe_bltn (v := .ty "tuple") rfl (Z.free 73) (by decide +kernel) rfl) pa_nil)))) (pw_and1 (pt_not (pt_val (pe_callB call_isi (by rfl) (Z.free 64) (by decide +kernel) (pa_cons (pv 0) (pa_cons (pe_bltn (v := .ty "tuple") rfl (Z.free 73) (by decide +kernel) rfl) pa_nil)))))))) (pss_one (ps_ret pe_bl)) pss_nil) (pss_cons (ps_if (pt_cmpR op_ne (pe_callB call_len_seq (by rfl) (Z.free 60) PySem.boot_len (pa_cons (pv 0) pa_nil)) (pe_callB call_len_seq (by rfl) (Z.free 60) PySem.boot_len (pa_cons (pv 1) pa_nil)) (nomark _)) (pss_one (ps_ret pe_bl)) pss_nil) (pss_cons (ps_for PassesOwn.never rfl (pi_range1 rfl (Z.free 61) (pa_cons (pe_callB call_len_seq (by rfl) (Z.free 60) PySem.boot_len (pa_cons (pv 1) pa_nil)) pa_nil)) (pg_name (i := 2) sc__law_same.nd rfl (Or.inl rfl)) (pss_one (ps_if (pt_not (pt_val (pc ih hr (pa_cons (pe_ix (ix_list.or ix_tup) (pv 0) (pv 2) (fun _ _ => rfl)) (pa_cons (pe_ix (ix_list.or ix_tup) (pv 1) (pv 2) (fun _ _ => rfl)) pa_nil)) (Nat.le_refl _)))) (pss_one (ps_ret pe_bl)) pss_nil))) (pss_one (ps_ret pe_bl)))))))))), ?_⟩
      cases hy with
      | non =>
        cases hx
        exact ⟨_, rfl, rfl, _, rfl, _, rfl, rfl, k⟩
      | bl b =>
        cases hx
        refine ⟨_, rfl, rfl, _, rfl, ?_⟩
        refine ⟨_, rfl, _, _, _, _, _, rfl, .ty _, (.base (.bl b)), k_bool_bool K, true, rfl, _, rfl, _, _, _, _, _, rfl, .ty _, (.base (.bl b)), k_bool_bool K, true, rfl, _, rfl, _, rfl, rfl, ?_⟩
        show Q (.bl (decide (V.bl b = V.bl b))) H
        rw [decide_eq_true rfl]
        exact k
      | int i =>
        cases hx
        refine ⟨_, rfl, rfl, _, rfl, ?_⟩
        refine ⟨_, rfl, _, _, _, _, _, rfl, .ty _, (.base (.int i)), k_int_bool K, false, rfl, ?_⟩
        refine ⟨_, rfl, _, _, _, _, _, rfl, .ty _, (.base (.int i)), k_int_int K, true, rfl, _, rfl, _, _, _, _, _, rfl, .ty _, (.base (.int i)), k_int_int K, true, rfl, _, rfl, _, _, _, _, _, rfl, .ty _, (.base (.int i)), k_int_bool K, _, rfl, true, rfl, _, rfl, _, rfl, rfl, ?_⟩
        show Q (.bl (decide (V.int i = V.int i))) H
        rw [decide_eq_true rfl]
        exact k
      | str z =>
        cases hx
        refine ⟨_, rfl, rfl, _, rfl, ?_⟩
        refine ⟨_, rfl, _, _, _, _, _, rfl, .ty _, (.base (.str z)), k_str_bool K, false, rfl, ?_⟩
        refine ⟨_, rfl, _, _, _, _, _, rfl, .ty _, (.base (.str z)), k_str_int K, false, rfl, ?_⟩
        refine ⟨_, rfl, _, _, _, _, _, rfl, .ty _, (.base (.str z)), k_str_str K, true, rfl, _, rfl, _, _, _, _, _, rfl, .ty _, (.base (.str z)), k_str_str K, true, rfl, _, rfl, _, rfl, rfl, ?_⟩
        show Q (.bl (decide (V.str z = V.str z))) H
        rw [decide_eq_true rfl]
        exact k
      | @lst b ys ds hs ha =>
        cases hx with
        | @lst a xs _ hs' ha' =>
          refine ⟨_, rfl, rfl, _, rfl, ?_⟩
          refine ⟨_, rfl, _, _, _, _, _, rfl, .ty _, (tyL hs), k_list_bool K, false, rfl, ?_⟩
          refine ⟨_, rfl, _, _, _, _, _, rfl, .ty _, (tyL hs), k_list_int K, false, rfl, ?_⟩
          refine ⟨_, rfl, _, _, _, _, _, rfl, .ty _, (tyL hs), k_list_str K, false, rfl, ?_⟩
          refine ⟨_, rfl, _, _, _, _, _, rfl, .ty _, (tyL hs), k_list_list K, true, rfl, _, rfl, _, _, _, _, _, rfl, .ty _, (tyL hs'), k_list_list K, true, rfl, ?_⟩
          refine ⟨_, rfl, _, _, _, _, _, rfl, .ty _, (tyL hs), k_list_tuple K, false, rfl, ?_⟩
          have el : ys.length = xs.length := (dpAll_len ha).trans (dpAll_len ha').symm
          have hz := hd ds (by first | exact Or.inl rfl | exact Or.inr rfl)
          have hzl : xs.length ≤ 1000 := by
            have := dpAll_len ha'
            omega
          refine ⟨_, rfl, _, _, rfl, Or.inl hs', _, rfl, _, _, rfl, Or.inl hs, rfl, _, rfl, ?_⟩
          show if (!decide (V.int (xs.length : Int) = V.int (ys.length : Int))) = true then _ else _
          rw [el, decide_eq_true rfl]
          refine iteN rfl ?_
          refine ⟨_, rfl, b, _, rfl, Or.inl hs, _, rfl, by omega, by omega, ?_⟩
          refine for_range (lo := 0) (n := ((ys.length : Nat) : Int).toNat) (fun i σ H' => ∃ v2 : Option V, σ = [some (.ref a), some (.ref b), v2] ∧ H' = H) ⟨none, rfl, rfl⟩ ?_ ?_
          · rintro i σ H' hi ⟨v2, rfl, rfl⟩
            have hi1 : i < ys.length := by omega
            obtain ⟨e, d, g1, g2, g3⟩ := dpAll_at ha hi1
            obtain ⟨e', d', g1', g2', g3'⟩ := dpAll_at ha' (i := i) (by omega)
            rw [g2] at g2'
            cases g2'
            have hdd : Sz n d := hz.2 d (List.mem_of_getElem? g2)
            have a1 : atI xs (0 + (i : Int)) = some e' := by rw [Int.zero_add]; exact atI_nat g1'
            have a2 : atI ys (0 + (i : Int)) = some e := by rw [Int.zero_add]; exact atI_nat g1
            exact ⟨_, rfl, _, rfl, Or.inl ⟨_, _, _, _, rfl, rfl, hs', a1, _, rfl, _, rfl, Or.inl ⟨_, _, _, _, rfl, rfl, hs, a2, e', e, d, rfl, g3', g3, hdd, _, rfl, _, rfl, rfl⟩⟩⟩
          · rintro σ H' ⟨v2, rfl, rfl⟩
            exact k
      | @tup b ys ds hs ha =>
        cases hx with
        | @tup a xs _ hs' ha' =>
          refine ⟨_, rfl, rfl, _, rfl, ?_⟩
          refine ⟨_, rfl, _, _, _, _, _, rfl, .ty _, (tyT hs), k_tuple_bool K, false, rfl, ?_⟩
          refine ⟨_, rfl, _, _, _, _, _, rfl, .ty _, (tyT hs), k_tuple_int K, false, rfl, ?_⟩
          refine ⟨_, rfl, _, _, _, _, _, rfl, .ty _, (tyT hs), k_tuple_str K, false, rfl, ?_⟩
          refine ⟨_, rfl, _, _, _, _, _, rfl, .ty _, (tyT hs), k_tuple_list K, false, rfl, ?_⟩
          refine ⟨_, rfl, _, _, _, _, _, rfl, .ty _, (tyT hs), k_tuple_tuple K, true, rfl, _, rfl, _, _, _, _, _, rfl, .ty _, (tyT hs'), k_tuple_tuple K, true, rfl, ?_⟩
          have el : ys.length = xs.length := (dpAll_len ha).trans (dpAll_len ha').symm
          have hz := hd ds (by first | exact Or.inl rfl | exact Or.inr rfl)
          have hzl : xs.length ≤ 1000 := by
            have := dpAll_len ha'
            omega
          refine ⟨_, rfl, _, _, rfl, Or.inr hs', _, rfl, _, _, rfl, Or.inr hs, rfl, _, rfl, ?_⟩
          show if (!decide (V.int (xs.length : Int) = V.int (ys.length : Int))) = true then _ else _
          rw [el, decide_eq_true rfl]
          refine iteN rfl ?_
          refine ⟨_, rfl, b, _, rfl, Or.inr hs, _, rfl, by omega, by omega, ?_⟩
          refine for_range (lo := 0) (n := ((ys.length : Nat) : Int).toNat) (fun i σ H' => ∃ v2 : Option V, σ = [some (.ref a), some (.ref b), v2] ∧ H' = H) ⟨none, rfl, rfl⟩ ?_ ?_
          · rintro i σ H' hi ⟨v2, rfl, rfl⟩
            have hi1 : i < ys.length := by omega
            obtain ⟨e, d, g1, g2, g3⟩ := dpAll_at ha hi1
            obtain ⟨e', d', g1', g2', g3'⟩ := dpAll_at ha' (i := i) (by omega)
            rw [g2] at g2'
            cases g2'
            have hdd : Sz n d := hz.2 d (List.mem_of_getElem? g2)
            have a1 : atI xs (0 + (i : Int)) = some e' := by rw [Int.zero_add]; exact atI_nat g1'
            have a2 : atI ys (0 + (i : Int)) = some e := by rw [Int.zero_add]; exact atI_nat g1
            exact ⟨_, rfl, _, rfl, Or.inr ⟨_, _, _, _, rfl, rfl, hs', a1, _, rfl, _, rfl, Or.inr ⟨_, _, _, _, rfl, rfl, hs, a2, e', e, d, rfl, g3', g3, hdd, _, rfl, _, rfl, rfl⟩⟩⟩
          · rintro σ H' ⟨v2, rfl, rfl⟩
            exact k
end
end LL
namespace LL
open PySem PySem.Spec PyProof.Rows L2
/-! ### the law's own book of a log -/
def trip (e : Nat × Int × Nat) : List V := [.int (e.1 : Int), .int e.2.1, .int (e.2.2 : Int)]
/-- tuples of losses, one by one -/
def Trips (H : Hp) : List Addr → List (Nat × Int × Nat) → Prop
  | [], [] => True
  | t :: ts, e :: es => H t = some (.tup (trip e)) ∧ Trips H ts es
  | _, _ => False
theorem Trips.same {H H' : Hp} (s : Same H H') : ∀ {ts : List Addr} {es : List (Nat × Int × Nat)}, Trips H ts es → Trips H' ts es
  | [], [], _ => trivial
  | _ :: _, _ :: _, h => ⟨s _ _ h.1, Trips.same s h.2⟩
theorem Trips.past {H : Hp} {p : Addr} {xs : List V} {o : HO} (hp : H p = some (.lst xs)) : ∀ {ts : List Addr} {es : List (Nat × Int × Nat)}, Trips H ts es → Trips (upd H p o) ts es
  | [], [], _ => trivial
  | _ :: _, _ :: _, h => ⟨by rw [upd_ne (ne_of h.1 hp (by intro z; cases z))]; exact h.1, Trips.past hp h.2⟩
theorem Trips.snoc {H : Hp} {t : Addr} {e : Nat × Int × Nat} (h : H t = some (.tup (trip e))) : ∀ {ts : List Addr} {es : List (Nat × Int × Nat)}, Trips H ts es → Trips H (ts ++ [t]) (es ++ [e])
  | [], [], _ => ⟨h, trivial⟩
  | _ :: _, _ :: _, k => ⟨k.1, Trips.snoc h k.2⟩
theorem Trips.len {H : Hp} : ∀ {ts : List Addr} {es : List (Nat × Int × Nat)}, Trips H ts es → ts.length = es.length
  | [], [], _ => rfl
  | _ :: _, _ :: _, k => congrArg (· + 1) k.2.len
theorem Trips.lift {H H' : Hp} (k : ∀ b xs, H b = some (.tup xs) → H' b = some (.tup xs)) : ∀ {ts : List Addr} {es : List (Nat × Int × Nat)}, Trips H ts es → Trips H' ts es
  | [], [], _ => trivial
  | _ :: _, _ :: _, h => ⟨k _ _ h.1, Trips.lift k h.2⟩
structure FoundAt (H : Hp) (q : Addr) (es : List (Nat × Int × Nat)) : Prop where
  ex : ∃ ts : List Addr, H q = some (.lst (ts.map V.ref)) ∧ Trips H ts es
theorem FoundAt.same {H H' : Hp} {q : Addr} {es : List (Nat × Int × Nat)} (F : FoundAt H q es) (s : Same H H') : FoundAt H' q es := by
  obtain ⟨ts, h1, h2⟩ := F.ex
  exact ⟨ts, s _ _ h1, h2.same s⟩
theorem FoundAt.past {H : Hp} {p q : Addr} {es : List (Nat × Int × Nat)} {xs : List V} {o : HO} (F : FoundAt H q es) (hp : H p = some (.lst xs)) (n : p ≠ q) : FoundAt (upd H p o) q es := by
  obtain ⟨ts, h1, h2⟩ := F.ex
  exact ⟨ts, by rw [upd_ne n.symm]; exact h1, h2.past hp⟩
theorem FoundAt.lift {H H' : Hp} {q : Addr} {es : List (Nat × Int × Nat)} (F : FoundAt H q es) (k1 : ∀ xs, H q = some (.lst xs) → H' q = some (.lst xs)) (k : ∀ b xs, H b = some (.tup xs) → H' b = some (.tup xs)) : FoundAt H' q es := by
  obtain ⟨ts, h1, h2⟩ := F.ex
  exact ⟨ts, k1 _ h1, h2.lift k⟩
/-- what a step adds, up to gap j -/
def stepP (S : Sd) (row : List Int) (k j : Nat) : List (Nat × Int × Nat) := ((List.range j).filter fun v => decide (gat S row (k + 1) v ≠ gat S row k v) && decide (gat S row (k + 1) v = .lost)).map fun v => (v, dec S row v k, k)
theorem step_succ (S : Sd) (row : List Int) (k j : Nat) : stepP S row k (j + 1) = stepP S row k j ++ (if (decide (gat S row (k + 1) j ≠ gat S row k j) && decide (gat S row (k + 1) j = .lost)) = true then [(j, dec S row j k, k)] else []) := by
  unfold stepP
  rw [List.range_succ, List.filter_append, List.map_append, List.filter_cons, List.filter_nil]
  split <;> rfl
theorem fnd_step (S : Sd) (row : List Int) (k : Nat) : fnd S row (k + 1) = fnd S row k ++ stepP S row k (S.n + 1) := rfl
theorem step_len (S : Sd) (row : List Int) (k j : Nat) : (stepP S row k j).length ≤ j := by
  unfold stepP
  rw [List.length_map]
  exact Nat.le_trans (List.length_filter_le _ _) (by rw [List.length_range] <;> exact Nat.le_refl _)
theorem fnd_len (S : Sd) (row : List Int) : ∀ k, (fnd S row k).length ≤ k * (S.n + 1)
  | 0 => Nat.zero_le _
  | k + 1 => by
    rw [fnd_step, List.length_append, Nat.add_mul, Nat.one_mul]
    exact Nat.add_le_add (fnd_len S row k) (step_len S row k _)
def since (n : Nat) (row : List Int) (k : Nat) : List V := mk (n + 1) fun v => .int (dec (fresh n) row v k)
/-- while step k is booked, up to gap j -/
def sinceP (n : Nat) (row : List Int) (k j : Nat) : List V := mk (n + 1) fun v => .int (if v < j then dec (fresh n) row v (k + 1) else dec (fresh n) row v k)
theorem sinceP_0 (n : Nat) (row : List Int) (k : Nat) : sinceP n row k 0 = since n row k := mk_congr fun i _ => by rw [if_neg (Nat.not_lt_zero i)]
theorem sinceP_n (n : Nat) (row : List Int) (k : Nat) : sinceP n row k (n + 1) = since n row (k + 1) := mk_congr fun i hi => by rw [if_pos hi]
theorem sinceP_same {n : Nat} {row : List Int} {k j : Nat} (e : gat (fresh n) row (k + 1) j = gat (fresh n) row k j) : sinceP n row k (j + 1) = sinceP n row k j := mk_congr fun i _ => by
  by_cases c : i = j
  · subst c
    rw [if_pos (Nat.lt_succ_self i), if_neg (Nat.lt_irrefl i)]
    show V.int (if _ then _ else _) = _
    rw [if_pos e]
  · by_cases c2 : i < j
    · rw [if_pos (by omega), if_pos c2]
    · rw [if_neg (by omega), if_neg c2]
theorem sinceP_set {n : Nat} {row : List Int} {k j : Nat} (e : ¬ gat (fresh n) row (k + 1) j = gat (fresh n) row k j) : (sinceP n row k j).set j (.int (k : Int)) = sinceP n row k (j + 1) := by
  unfold sinceP
  rw [mk_set]
  refine mk_congr fun i _ => ?_
  show (if i = j then V.int (k : Int) else V.int (if i < j then dec (fresh n) row i (k + 1) else dec (fresh n) row i k)) = V.int (if i < j + 1 then dec (fresh n) row i (k + 1) else dec (fresh n) row i k)
  by_cases c : i = j
  · subst c
    rw [if_pos rfl, if_pos (Nat.lt_succ_self i)]
    show _ = V.int (if _ then _ else _)
    rw [if_neg e]
  · rw [if_neg c]
    by_cases c2 : i < j
    · rw [if_pos (show i < j + 1 by omega), if_pos c2]
    · rw [if_neg (show ¬ i < j + 1 by omega), if_neg c2]
def rows (S : Sd) : List V := mk (S.n + 1) fun v => .str (gstr (gst S v))
def sp_book (K : PySem.W.Frag) : Sp := fun vs H Q _ => ∃ (n : Nat) (p : Addr) (row : List Int), vs = [.int (n : Int), .ref p] ∧ SqL K H p (row.map V.int) ∧ legal (fresh n) row = true ∧ n ≤ 60 ∧ row.length ≤ 1000 ∧
  ∀ (t : Addr) (a : LA) (sn fd : Addr) (H' : Hp), Same H H' → H' t = some (.tup [.ref a.p, .ref sn, .ref fd]) → StAt H' a (after (fresh n) row) → H' sn = some (.lst (since n row row.length)) → FoundAt H' fd (fnd (fresh n) row row.length) →
    H a.p = none → H a.l = none → H a.r = none → H a.f = none → H sn = none → H fd = none → Q (.ref t) H'
section
variable {P : Program} {w : World} {K : PySem.W.Frag} {mg : Str → Option Value} {base : Heap}
theorem sc__law_book : FnScope ["_law_many", "_law_row", "_law_state", "_law_since", "_law_found", "_law_before", "_law_k", "_law_after", "_law_v"] ["_law_many", "_law_row"] (defScope (top 73)) := ⟨rfl, rfl, rfl, by decide +kernel, rfl, by decide +kernel, by decide +kernel⟩
theorem ok__law_book (Z : Tx P w K mg base) : Pr P w K mg base 2 "_law_book" (sp_book K) := by
  refine Z.pr0 56 41 (d := d__law_book) rfl rfl rfl rfl rfl sc__law_book (fun vs H Q E h => ?_) (fun _ _ _ _ _ _ us hl => match us, hl with | [_, _], _ => rfl) (fun f cdv A outer s H vs Q E hr h => ?_)
  · obtain ⟨n, p, row, rfl, _⟩ := h
    rfl
  · obtain ⟨n, p, row, rfl, hS, hleg, hn, hlen, k⟩ := h
    refine ⟨_, (pss_cons (ps_set (i := 2) sc__law_book.nd rfl (Or.inl rfl) (pc (ok__law_start Z) hr (pa_cons (pv 0) pa_nil))) (pss_cons (ps_set (i := 3) sc__law_book.nd rfl (Or.inl rfl) (pe_op op_rep (pe_lst (pa_cons (pe_un un_neg pe_int) pa_nil)) (pe_op op_add (pv 0) pe_int))) (pss_cons (ps_set (i := 4) sc__law_book.nd rfl (Or.inl rfl) (pe_lst pa_nil)) (pss_cons (ps_set (i := 5) sc__law_book.nd rfl (Or.inl rfl) (pc (ok__law_states Z) hr (pa_cons (pv 2) pa_nil))) (pss_cons (ps_for PassesOwn.never rfl (pi_range1 rfl (Z.free 61) (pa_cons (pe_callB call_len_seq (by rfl) (Z.free 60) PySem.boot_len (pa_cons (pv 1) pa_nil)) pa_nil)) (pg_name (i := 6) sc__law_book.nd rfl (Or.inl rfl)) (pss_cons (ps_expr (pc (ok__law_put Z) hr (pa_cons (pv 2) (pa_cons (pe_ix ix_list (pv 1) (pv 6) (fun _ _ => rfl)) pa_nil)))) (pss_cons (ps_set (i := 7) sc__law_book.nd rfl (Or.inl rfl) (pc (ok__law_states Z) hr (pa_cons (pv 2) pa_nil))) (Evl.pss_cut (ps_for PassesOwn.never rfl (pi_range1 rfl (Z.free 61) (pa_cons (pe_op op_add (pv 0) pe_int) pa_nil)) (pg_name (i := 8) sc__law_book.nd rfl (Or.inl rfl)) (pss_one (ps_if (pt_cmpR op_ne (pe_ix ix_list (pv 7) (pv 8) (fun _ _ => rfl)) (pe_ix ix_list (pv 5) (pv 8) (fun _ _ => rfl)) (nomark _)) (Evl.pss_cut (ps_if (pt_cmpR op_eq (pe_ix ix_list (pv 7) (pv 8) (fun _ _ => rfl)) pe_str (nomark _)) (pss_one (ps_expr (pe_bm PySem.F.plainAttrs_list PySem.F.slot_list_append PySem.F.type_list_append mt_append (pv 4) (pa_cons (pe_tup (pa_cons (pv 8) (pa_cons (pe_ix ix_list (pv 3) (pv 8) (fun _ _ => rfl)) (pa_cons (pv 6) pa_nil)))) pa_nil)))) pss_nil) (pss_one (ps_asg (pv 6) (pg_sub (pv 3) (pv 8) set_list)))) pss_nil))) (pss_one (ps_set (i := 5) sc__law_book.nd rfl (Or.inl rfl) (pv 7))))))) (pss_one (ps_ret (pe_tup (pa_cons (pv 2) (pa_cons (pv 3) (pa_cons (pv 4) pa_nil))))))))))), ?_⟩
    refine ⟨_, rfl, n, rfl, hn, fun a H1 A1 s1 a1 a2 a3 a4 => ?_⟩
    refine ⟨_, rfl, (by show 1 ≤ sizeLine; decide), fun u nu => ?_⟩
    refine ⟨_, rfl, _, _, rfl, rfl, _, _, _, rfl, rfl, upd_same, by omega, by omega, sz60 (by show 1 * _ ≤ _; omega), fun sn nsn => ?_⟩
    rw [rep_mk, show ((n : Int) + 1).toNat = n + 1 by omega]
    refine ⟨(by show 0 ≤ sizeLine; decide), fun fd nfd => ?_⟩
    have sA : Same H1 (upd (upd (upd H1 u (.lst [.int (-1)])) sn (.lst (mk (n + 1) fun _ => .int (-1)))) fd (.lst [])) := Same.trans (Same.trans (Same.up nu) (Same.up nsn)) (Same.up nfd)
    have nsn1 : H1 sn = none := upd_free nsn
    have nfd1 : H1 fd = none := upd_free (upd_free nfd)
    have fs : fd ≠ sn := upd_away nfd
    have sl : sn ≠ a.l ∧ sn ≠ a.r ∧ sn ≠ a.f := ⟨(ne_of_none A1.hl nsn1).symm, (ne_of_none A1.hr nsn1).symm, (ne_of_none A1.hf nsn1).symm⟩
    have fl : fd ≠ a.l ∧ fd ≠ a.r ∧ fd ≠ a.f := ⟨(ne_of_none A1.hl nfd1).symm, (ne_of_none A1.hr nfd1).symm, (ne_of_none A1.hf nfd1).symm⟩
    have sp := (ne_of_none A1.ob nsn1).symm
    have fp := (ne_of_none A1.ob nfd1).symm
    have nsn0 : H sn = none := Same.free s1 nsn1
    have nfd0 : H fd = none := Same.free s1 nfd1
    have eS : upd (upd (upd H1 u (.lst [.int (-1)])) sn (.lst (mk (n + 1) fun _ => .int (-1)))) fd (.lst []) sn = some (.lst (since n row 0)) := by
      rw [upd_ne fs.symm, upd_same] <;> rfl
    have eF : FoundAt (upd (upd (upd H1 u (.lst [.int (-1)])) sn (.lst (mk (n + 1) fun _ => .int (-1)))) fd (.lst [])) fd (fnd (fresh n) row 0) := ⟨[], upd_same, trivial⟩
    have s2 : Same H (upd (upd (upd H1 u (.lst [.int (-1)])) sn (.lst (mk (n + 1) fun _ => .int (-1)))) fd (.lst [])) := Same.trans s1 sA
    have A2 := A1.same sA
    generalize upd (upd (upd H1 u (.lst [.int (-1)])) sn (.lst (mk (n + 1) fun _ => .int (-1)))) fd (.lst []) = H2 at eS eF s2 A2 ⊢
    clear nfd nsn nsn1 nfd1 sA nu A1 s1
    refine ⟨_, rfl, a, _, rfl, A2, hn, fun bf H3 nbf s3 ebf => ?_⟩
    refine ⟨_, rfl, _, _, rfl, Or.inl (Same.seq (Same.trans s2 s3) hS), _, rfl, by omega, by rw [List.length_map]; omega, ?_⟩
    rw [List.length_map]
    refine for_range (lo := 0) (n := ((row.length : Nat) : Int).toNat) (fun i σ H' => ∃ (bf : Addr) (v6 v7 v8 : Option V), σ = [some (.int (n : Int)), some (.ref p), some (.ref a.p), some (.ref sn), some (.ref fd), some (.ref bf), v6, v7, v8] ∧ Same H H' ∧ StAt H' a (after (fresh n) (row.take i)) ∧ H' sn = some (.lst (since n row i)) ∧ FoundAt H' fd (fnd (fresh n) row i) ∧ H' bf = some (.lst (rows (after (fresh n) (row.take i)))) ∧ (bf ≠ a.l ∧ bf ≠ a.r ∧ bf ≠ a.f) ∧ bf ≠ sn ∧ bf ≠ fd)
      ⟨bf, none, none, none, rfl, Same.trans s2 s3, A2.same s3, s3 _ _ eS, eF.same s3, ebf, ⟨(ne_of_none A2.hl nbf).symm, (ne_of_none A2.hr nbf).symm, (ne_of_none A2.hf nbf).symm⟩, (ne_of_none eS nbf).symm, by obtain ⟨ts, h1, _⟩ := eF.ex; exact (ne_of_none h1 nbf).symm⟩ ?_ ?_
    · clear ebf s3 nbf eF eS s2 A2
      rintro i σ H' hi ⟨bf, v6, v7, v8, rfl, s4, A4, e4, F4, eb4, bl, bs, bd⟩
      have hi' : i < row.length := by omega
      obtain ⟨o, ho⟩ : ∃ o, row[i]? = some o := ⟨row[i], List.getElem?_eq_getElem hi'⟩
      have wf : WF (after (fresh n) (row.take i)) := wf_after (wf_fresh n) (legal_take hleg i)
      have hni : (after (fresh n) (row.take i)).n = n := after_n _ _
      have hni1 : (after (fresh n) (row.take (i + 1))).n = n := after_n _ _
      refine ⟨_, rfl, _, rfl, _, rfl, _, _, _, _, rfl, rfl, Same.seq s4 hS, ?_, a, _, o, rfl, A4, wf, (by rw [hni]; exact hn), legal_at hleg ho, fun H5 A5 kp => ?_⟩
      · rw [Int.zero_add]
        exact atI_nat (by rw [List.getElem?_map, ho] <;> rfl)
      rw [← after_take ho] at A5
      have s5 : Same H H5 := Keep.old s4 kp a2 a3 a4
      have e5 := kp _ _ e4 sl.1 sl.2.1 sl.2.2
      have F5 : FoundAt H5 fd (fnd (fresh n) row i) := F4.lift (fun xs h => kp _ _ h fl.1 fl.2.1 fl.2.2) fun b xs h => kp _ _ h (ne_of h A4.hl (by intro z; cases z)) (ne_of h A4.hr (by intro z; cases z)) (ne_of h A4.hf (by intro z; cases z))
      have eb5 := kp _ _ eb4 bl.1 bl.2.1 bl.2.2
      refine ⟨_, rfl, a, _, rfl, A5, (by rw [hni1]; exact hn), fun af H6 naf s6 eaf => ?_⟩
      have afn : (af ≠ a.l ∧ af ≠ a.r ∧ af ≠ a.f) ∧ af ≠ sn ∧ af ≠ fd := ⟨⟨(ne_of_none A5.hl naf).symm, (ne_of_none A5.hr naf).symm, (ne_of_none A5.hf naf).symm⟩, (ne_of_none e5 naf).symm, by obtain ⟨ts, h1, _⟩ := F5.ex; exact (ne_of_none h1 naf).symm⟩
      have s7 := Same.trans s5 s6
      have A6 := A5.same s6
      have F6 := F5.same s6
      have e6 := s6 _ _ e5
      have eb6 := s6 _ _ eb5
      clear naf s6 eb5 F5 e5 s5 A5 kp F4 e4 A4 s4 eb4
      have ebf0 : H6 bf = some (.lst (mk ((after (fresh n) (row.take i)).n + 1) fun v => .str (gstr (gat (fresh n) row i v)))) := eb6
      have eaf0 : H6 af = some (.lst (mk ((after (fresh n) (row.take (i + 1))).n + 1) fun v => .str (gstr (gat (fresh n) row (i + 1) v)))) := eaf
      rw [hni] at ebf0
      rw [hni1] at eaf0
      refine ⟨fun σ' H7 => ∃ v8 : Option V, σ' = [some (.int (n : Int)), some (.ref p), some (.ref a.p), some (.ref sn), some (.ref fd), some (.ref bf), some (.int (0 + (i : Int))), some (.ref af), v8] ∧ Same H H7 ∧ StAt H7 a (after (fresh n) (row.take (i + 1))) ∧ H7 sn = some (.lst (since n row (i + 1))) ∧ FoundAt H7 fd (fnd (fresh n) row (i + 1)) ∧ H7 af = some (.lst (rows (after (fresh n) (row.take (i + 1))))), ?_, ?_⟩
      · refine ⟨_, rfl, _, _, rfl, rfl, _, rfl, by omega, by omega, ?_⟩
        refine for_range (lo := 0) (n := ((n : Int) + 1).toNat) (fun j σ H7 => ∃ v8 : Option V, σ = [some (.int (n : Int)), some (.ref p), some (.ref a.p), some (.ref sn), some (.ref fd), some (.ref bf), some (.int (0 + (i : Int))), some (.ref af), v8] ∧ Same H H7 ∧ StAt H7 a (after (fresh n) (row.take (i + 1))) ∧ H7 sn = some (.lst (sinceP n row i j)) ∧ FoundAt H7 fd (fnd (fresh n) row i ++ stepP (fresh n) row i j) ∧ H7 bf = some (.lst (mk (n + 1) fun v => .str (gstr (gat (fresh n) row i v)))) ∧ H7 af = some (.lst (mk (n + 1) fun v => .str (gstr (gat (fresh n) row (i + 1) v)))))
          ⟨v8, rfl, s7, A6, by rw [sinceP_0]; exact e6, (by show FoundAt H6 fd (fnd (fresh n) row i ++ []); rw [List.append_nil]; exact F6), ebf0, eaf0⟩ ?_ ?_
        · clear ebf0 eaf0 s7 A6 e6 F6 eb6 eaf
          rintro j σ H7 hj ⟨v8, rfl, s8, A7, e7, F7, eb, ea⟩
          have hj' : j < n + 1 := by omega
          have eJ : 0 + (j : Int) = (j : Int) := Int.zero_add _
          refine ⟨_, rfl, _, rfl, _, _, _, _, rfl, rfl, SqL.of ea, mk_atI (j := j) _ eJ hj', _, rfl, _, rfl, _, _, _, _, rfl, rfl, SqL.of eb, mk_atI (j := j) _ eJ hj', rfl, _, rfl, ?_⟩
          show if (!decide (V.str (gstr (gat (fresh n) row (i + 1) j)) = V.str (gstr (gat (fresh n) row i j)))) = true then _ else _
          rw [gstr_eq]
          refine iteB (fun c => ?_) (fun c => ?_)
          · have c1 : ¬ gat (fresh n) row (i + 1) j = gat (fresh n) row i j := by simpa using c
            refine ⟨fun σ' H8 => σ' = [some (.int (n : Int)), some (.ref p), some (.ref a.p), some (.ref sn), some (.ref fd), some (.ref bf), some (.int (0 + (i : Int))), some (.ref af), some (.int (0 + (j : Int)))] ∧ Same H H8 ∧ StAt H8 a (after (fresh n) (row.take (i + 1))) ∧ H8 sn = some (.lst (sinceP n row i j)) ∧ FoundAt H8 fd (fnd (fresh n) row i ++ stepP (fresh n) row i (j + 1)) ∧ H8 bf = some (.lst (mk (n + 1) fun v => .str (gstr (gat (fresh n) row i v)))) ∧ H8 af = some (.lst (mk (n + 1) fun v => .str (gstr (gat (fresh n) row (i + 1) v)))), ?_, ?_⟩
            · refine ⟨_, rfl, _, rfl, _, _, _, _, rfl, rfl, SqL.of ea, mk_atI (j := j) _ eJ hj', rfl, _, rfl, ?_⟩
              show if (decide (V.str (gstr (gat (fresh n) row (i + 1) j)) = V.str "lost")) = true then _ else _
              rw [gstr_lost]
              rw [step_succ, decide_eq_true (show gat (fresh n) row (i + 1) j ≠ gat (fresh n) row i j from c1), Bool.true_and]
              obtain ⟨ts, h1, h2⟩ := F7.ex
              refine iteB (fun c2 => ?_) (fun c2 => ?_)
              · rw [if_pos c2]
                refine ⟨_, rfl, Or.inl ⟨rfl, _, SqL.of h1⟩, _, rfl, _, rfl, _, rfl, _, _, _, _, rfl, rfl, SqL.of e7, mk_atI (j := j) _ eJ hj', _, rfl, (by show 3 ≤ sizeLine; decide), fun t nt => ?_⟩
                have sT : Same H7 (upd H7 t (.tup [.int (0 + (j : Int)), .int (if j < j then dec (fresh n) row j (i + 1) else dec (fresh n) row j i), .int (0 + (i : Int))])) := Same.up nt
                have h1' := sT _ _ h1
                have tl : (ts.map V.ref).length < sizeLine := szlt (by
                  rw [List.length_map, h2.len, List.length_append]
                  have := fnd_len (fresh n) row i
                  have q1 : i * ((fresh n).n + 1) ≤ 1000 * 61 := Nat.mul_le_mul (by omega) (by show n + 1 ≤ 61; omega)
                  have := step_len (fresh n) row i j
                  omega)
                refine ⟨_, _, _, rfl, rfl, h1', tl, rfl, Same.mut (Same.trans s8 sT) nfd0, ?_, ?_, ?_, ?_, ?_⟩
                · have A8 := A7.same sT
                  exact ⟨by rw [upd_ne fp.symm]; exact A8.ob, by rw [upd_ne fl.2.1.symm]; exact A8.hr, by rw [upd_ne fl.1.symm]; exact A8.hl, by rw [upd_ne fl.2.2.symm]; exact A8.hf, A8.lr, A8.lf, A8.rf, A8.pr, A8.pl, A8.pf⟩
                · rw [upd_ne fs.symm]
                  exact sT _ _ e7
                · refine ⟨ts ++ [t], ?_, ?_⟩
                  · rw [upd_same, List.map_append] <;> rfl
                  · rw [← List.append_assoc]
                    refine Trips.past h1' (Trips.snoc ?_ (h2.same sT))
                    rw [upd_same]
                    show _ = some (HO.tup [V.int (j : Int), .int (dec (fresh n) row j i), .int (i : Int)])
                    rw [if_neg (Nat.lt_irrefl j), eJ, Int.zero_add]
                · rw [upd_ne bd]
                  exact sT _ _ eb
                · rw [upd_ne afn.2.2]
                  exact sT _ _ ea
              · rw [c2, if_neg (by decide), List.append_nil]
                exact ⟨rfl, s8, A7, e7, F7, eb, ea⟩
            · rintro σ' H8 ⟨rfl, s8, A8, e8, F8, eb, ea⟩
              refine ⟨_, rfl, _, rfl, _, rfl, _, _, _, _, rfl, rfl, e8, mk_ixN (j := j) _ eJ hj', ?_⟩
              rw [Int.zero_add, Int.zero_add, sinceP_set c1]
              refine ⟨some _, rfl, Same.mut s8 nsn0, ?_, upd_same, F8.past e8 fs.symm, ?_, ?_⟩
              · exact ⟨by rw [upd_ne sp.symm]; exact A8.ob, by rw [upd_ne sl.2.1.symm]; exact A8.hr, by rw [upd_ne sl.1.symm]; exact A8.hl, by rw [upd_ne sl.2.2.symm]; exact A8.hf, A8.lr, A8.lf, A8.rf, A8.pr, A8.pl, A8.pf⟩
              · rw [upd_ne bs]
                exact eb
              · rw [upd_ne afn.2.1]
                exact ea
          · have c1 : gat (fresh n) row (i + 1) j = gat (fresh n) row i j := by simpa using c
            refine ⟨some _, rfl, s8, A7, ?_, ?_, eb, ea⟩
            · rw [sinceP_same c1]
              exact e7
            · rw [step_succ, if_neg (by rw [decide_eq_false (fun z => z c1), Bool.false_and]; decide), List.append_nil]
              exact F7
        · rintro σ H7 ⟨v8, rfl, s8, A7, e7, F7, eb, ea⟩
          rw [show ((n : Int) + 1).toNat = n + 1 by omega] at e7 F7
          rw [sinceP_n] at e7
          refine ⟨v8, rfl, s8, A7, e7, F7, ?_⟩
          rw [ea]
          unfold rows
          rw [hni1] <;> rfl
      · rintro σ' H7 ⟨v8, rfl, s8, A7, e7, F7, ea⟩
        exact ⟨_, rfl, af, some _, some _, v8, rfl, s8, A7, e7, F7, ea, afn.1, afn.2.1, afn.2.2⟩
    · rintro σ H' ⟨bf, v6, v7, v8, rfl, s4, A4, e4, F4, _⟩
      rw [Int.toNat_natCast] at e4 F4 A4
      rw [List.take_length] at A4
      refine ⟨_, rfl, _, rfl, _, rfl, (by show 3 ≤ sizeLine; decide), fun t nt => ?_⟩
      exact k t a sn fd _ (Same.new s4 nt) upd_same (A4.same (Same.up nt)) (Same.up nt _ _ e4) (F4.same (Same.up nt)) a1 a2 a3 a4 nsn0 nfd0
end
end LL
namespace LL
open PySem PySem.Spec PyProof.Rows L2
open Evl (given given_yes given_no given_len)
/-! ### what a verdict is to tell, and what it tells -/
/-- a tuple of a verdict's four words comes back -/
def RetW (n : Nat) (row : List Int) (H : Hp) (Q : VK) : Prop := ∀ (t o : Addr) (H' : Hp), Same H H' → H' t = some (.tup [.ref o, vgap (after (fresh n) row), vidx n row, .bl (wholeB (after (fresh n) row))]) → H' o = some (.lst (nvs (outs (after (fresh n) row)))) → Q (.ref t) H'
def sp_words (K : PySem.W.Frag) : Sp := fun vs H Q _ => ∃ (n : Nat) (p : Addr) (row : List Int), vs = [.int (n : Int), .ref p] ∧ SqL K H p (row.map V.int) ∧ legal (fresh n) row = true ∧ n ≤ 60 ∧ row.length ≤ 1000 ∧ RetW n row H Q
def sp_leads (K : PySem.W.Frag) : Sp := fun vs H Q _ => ∃ (a : LA) (S : Sd) (p : Addr) (row : List Int), vs = [.ref a.p, .ref p] ∧ StAt H a S ∧ WF S ∧ S.n ≤ 60 ∧ SqL K H p (row.map V.int) ∧ RetS (.bl (leads S row)) H Q
theorem nvs_ints (l : List Nat) : nvs l = (l.map fun v : Nat => (v : Int)).map V.int := by
  unfold nvs
  rw [List.map_map] <;> rfl
theorem whole_parts {S : Sd} : wholeB S = ((apart S).isEmpty && (outs S).isEmpty) := by
  cases c : wholeB S with
  | true =>
    have z := whole_iff.mp (wholeB_iff.mp c)
    rw [z.1, z.2] <;> rfl
  | false =>
    cases c1 : apart S with
    | cons _ _ => rfl
    | nil =>
      cases c2 : outs S with
      | cons _ _ => rfl
      | nil => rw [wholeB_iff.mpr (whole_iff.mpr ⟨c1, c2⟩)] at c; cases c
def iQ (S : Sd) : List Int := (List.range (S.n + 1)).map fun i => (S.R i : Int)
theorem vq_i (S : Sd) : vq S = (iQ S).map V.int := by
  unfold vq iQ mk
  rw [List.map_map] <;> rfl
def stD (S : Sd) : PyData := .list [.list ((iQ S).map PyData.int), .list ((iL S).map PyData.int), .list ((iF S).map PyData.bool)]
theorem dpSt {K : PySem.W.Frag} {H : Hp} {a : LA} {S : Sd} (A : StAt H a S) : Dp K H (.ref a.p) (stD S) :=
  .lst (SqL.of A.ob) (.cons (dpI (SqL.of (by rw [← vq_i]; exact A.hr))) (.cons (dpI (SqL.of (by rw [← vl_i]; exact A.hl))) (.cons (dpB (SqL.of (by rw [← vf_i]; exact A.hf))) .nil)))
theorem shSt (S : Sd) : SeqAt.shaped (stD S) = true := by
  have a := shI (iQ S)
  have b := shI (iL S)
  have c := shB (iF S)
  unfold SeqAt.shaped at a b c ⊢
  rw [Bool.and_eq_true, decide_eq_true_eq] at a b c ⊢
  have d1 : PyData.depth (.list ((iQ S).map PyData.int)) = 1 := by
    unfold PyData.depth
    rw [(clI _).2]
  have d2 : PyData.depth (.list ((iL S).map PyData.int)) = 1 := by
    unfold PyData.depth
    rw [(clI _).2]
  have d3 : PyData.depth (.list ((iF S).map PyData.bool)) = 1 := by
    unfold PyData.depth
    rw [(clB _).2]
  constructor
  · unfold stD PyData.canLay0
    simp only [PyData.canLayAll0, a.1, b.1, c.1, Bool.and_self]
  · unfold stD
    simp only [PyData.depth, PyData.depthAll] at d1 d2 d3 ⊢
    rw [d1, d2, d3]
    decide
theorem eqvSt {S : Sd} (w : WF S) : PyData.eqv (stD S) (stD (fresh S.n)) = wholeB S := by
  have e : PyData.eqv (stD S) (stD (fresh S.n)) = (decide (iQ S = iQ (fresh S.n)) && (decide (iL S = iL (fresh S.n)) && (decide (iF S = iF (fresh S.n)) && true))) := by
    rw [← eqvI, ← eqvI, ← eqvB]
    rfl
  rw [e]
  cases c : wholeB S with
  | true =>
    obtain ⟨h1, h2⟩ := wholeB_iff.mp c
    have q1 : iQ S = iQ (fresh S.n) := List.map_congr_left fun i hi => by
      show (S.R i : Int) = ((i + 1 : Nat) : Int)
      rw [(h1 i (by have := List.mem_range.mp hi; omega)).1]
    have q2 : iL S = iL (fresh S.n) := List.map_congr_left fun i hi => by
      show lz S i = lz (fresh S.n) i
      unfold lz
      by_cases z : i = 0
      · rw [if_pos z, if_pos z]
      · rw [if_neg z, if_neg z]
        have q := (h1 (i - 1) (by have := List.mem_range.mp hi; have : i < S.n + 2 := this; omega)).2
        rw [Nat.sub_add_cancel (by omega)] at q
        rw [q] <;> rfl
    have q3 : iF S = iF (fresh S.n) := List.map_congr_left fun i hi => by
      show S.F i = false
      by_cases z : i = 0
      · rw [z]
        exact w.f0
      · by_cases z2 : i = S.n + 1
        · rw [z2]
          exact w.fn
        · exact h2 i (by omega) (by have := List.mem_range.mp hi; omega)
    rw [decide_eq_true q1, decide_eq_true q2, decide_eq_true q3] <;> rfl
  | false =>
    cases d : (decide (iQ S = iQ (fresh S.n)) && (decide (iL S = iL (fresh S.n)) && (decide (iF S = iF (fresh S.n)) && true))) with
    | false => rfl
    | true =>
      rw [Bool.and_eq_true, Bool.and_eq_true, Bool.and_eq_true, decide_eq_true_eq, decide_eq_true_eq, decide_eq_true_eq] at d
      obtain ⟨q1, q2, q3, _⟩ := d
      have p1 := List.map_inj_left.mp q1
      have p2 := List.map_inj_left.mp q2
      have p3 := List.map_inj_left.mp q3
      have wh : Whole S := ⟨fun v hv => ⟨?_, ?_⟩, fun x x1 x2 => ?_⟩
      · rw [wholeB_iff.mpr wh] at c
        cases c
      · have z : (S.R v : Int) = ((v + 1 : Nat) : Int) := p1 v (List.mem_range.mpr (by omega))
        omega
      · have z : lz S (v + 1) = lz (fresh S.n) (v + 1) := p2 (v + 1) (List.mem_range.mpr (by omega))
        rw [lz_pos (by omega), lz_pos (by omega)] at z
        have z2 : (S.L (v + 1) : Int) = ((v + 1 - 1 : Nat) : Int) := z
        omega
      · exact p3 x (List.mem_range.mpr (by omega))
section
variable {P : Program} {w : World} {K : PySem.W.Frag} {mg : Str → Option Value} {base : Heap}
theorem sc__law_due : FnScope ["_law_many", "_law_row", "_law_state", "_law_since", "_law_found", "_law_outs_here", "_law_rows", "_law_apart", "_law_v"] ["_law_many", "_law_row"] (defScope (top 74)) := ⟨rfl, rfl, rfl, by decide +kernel, rfl, by decide +kernel, by decide +kernel⟩
theorem ok__law_due (Z : Tx P w K mg base) : Pr P w K mg base 3 "_law_due" (sp_words K) := by
  refine Z.pr0 57 42 (d := d__law_due) rfl rfl rfl rfl rfl sc__law_due (fun vs H Q E h => ?_) (fun _ _ _ _ _ _ us hl => match us, hl with | [_, _], _ => rfl) (fun f cdv A outer s H vs Q E hr h => ?_)
  · obtain ⟨n, p, row, rfl, _⟩ := h
    rfl
  · obtain ⟨n, p, row, rfl, hS, hleg, hn, hlen, k⟩ := h
    refine ⟨_, (pss_cons (ps_asg (pc (ok__law_book Z) hr (pa_cons (pv 0) (pa_cons (pv 1) pa_nil))) (pg_tup rfl (pgs_cons (pg_name (i := 2) sc__law_due.nd rfl (Or.inl rfl)) (pgs_cons (pg_name (i := 3) sc__law_due.nd rfl (Or.inl rfl)) (pgs_cons (pg_name (i := 4) sc__law_due.nd rfl (Or.inl rfl)) pgs_nil))))) (pss_cons (ps_set (i := 5) sc__law_due.nd rfl (Or.inl rfl) (pc (ok__law_outs Z) hr (pa_cons (pv 2) pa_nil))) (pss_cons (ps_set (i := 6) sc__law_due.nd rfl (Or.inr rfl) (pc (ok__law_states Z) hr (pa_cons (pv 2) pa_nil))) (pss_cons (ps_setLc (i := 7) (own := [("_law_v", 8)]) (g := gName 8) rfl sc__law_due.nd rfl rfl (sw_true rfl rfl rfl (by decide +kernel)) (pi_range1 rfl (Z.free 61) (pa_cons (pe_op op_add (pv 0) pe_int) pa_nil)) (blkOk_by (own := [("_law_v", 8)]) (N := ["_law_many", "_law_row", "_law_state", "_law_since", "_law_found", "_law_outs_here", "_law_rows", "_law_apart", "_law_v"]) (sc := defScope (top 74)) (by decide +kernel)) (fun _ _ _ _ _ => pg_name (i := 8) sc__law_due.nd rfl (Or.inl rfl)) (fun _ _ _ _ _ => pts_one (by exact (pt_cmpR op_ne (pe_ix (ix_listK (K := K) rfl) (pv 6) (pv 8) (fun _ _ => rfl)) pe_str (nomark _)))) (fun _ _ _ _ _ => (by exact (pv 8)))) (pss_cons (ps_if (pt_truth (pv 7) (by intro _; rfl)) (pss_one (ps_ret (pe_tup (pa_cons (pv 5) (pa_cons (pe_ix ix_list (pv 7) pe_int (fun _ _ => rfl)) (pa_cons (pe_ix ix_list (pv 3) (pe_ix ix_list (pv 7) pe_int (fun _ _ => rfl)) (fun _ _ => rfl)) (pa_cons pe_bl pa_nil))))))) pss_nil) (pss_one (ps_ret (pe_tup (pa_cons (pv 5) (pa_cons pe_non (pa_cons pe_non (pa_cons (pe_cmpR (op_eqD hr.units) (pv 5) (pe_lst pa_nil) (nomark _)) pa_nil)))))))))))), ?_⟩
    have hn2 : (after (fresh n) row).n = n := after_n _ _
    refine ⟨_, rfl, _, rfl, n, p, row, rfl, hS, hleg, hn, hlen, fun t a sn fd H1 s1 et A1 es F1 _ _ _ _ _ _ => ?_⟩
    refine ⟨t, _, rfl, SqT.of et, rfl, _, _, rfl, _, _, rfl, _, _, rfl, rfl, ?_⟩
    refine ⟨_, rfl, a, _, rfl, A1, (by rw [hn2]; exact hn), fun o H2 no s2 eo => ?_⟩
    refine ⟨_, rfl, a, _, rfl, A1.same s2, (by rw [hn2]; exact hn), fun r H3 nr s3 er => ?_⟩
    have s12 := Same.trans s1 s2
    have s13 := Same.trans s12 s3
    refine ⟨_, rfl, _, _, rfl, rfl, _, rfl, by omega, by omega, fun D hD => ?_⟩
    refine lc_range (lo := 0) (n := ((n : Int) + 1).toNat) (fun i H' => Same H3 H' ∧ H' D = some (.lst (given i (fun v => decide (gst (after (fresh n) row) v ≠ .joined)) fun v => .int (v : Int)))) ⟨Same.up hD, upd_same⟩ ?_ ?_
    · rintro i H' hi ⟨s4, e4⟩
      refine ⟨rfl, _, rfl, _, rfl, _, _, _, _, rfl, rfl, SqL.of (s4 _ _ er), mk_atI (j := i) _ (Int.zero_add _) (by rw [hn2]; omega), rfl, _, rfl, ?_⟩
      show if (!decide (V.str (gstr (gst (after (fresh n) row) i)) = V.str "joined")) = true then _ else _
      rw [gstr_joined]
      refine iteB (fun c => ?_) (fun c => ?_)
      · refine ⟨_, rfl, _, e4, szlt (by have := given_len i (fun v => decide (gst (after (fresh n) row) v ≠ .joined)) (fun v => V.int (v : Int)); omega), Same.mut s4 hD, ?_⟩
        rw [given_yes (f := fun v => decide (gst (after (fresh n) row) v ≠ .joined)) (v := fun v => V.int (v : Int)) (by simpa using c), Int.zero_add]
        exact upd_same
      · refine ⟨s4, ?_⟩
        rw [given_no (f := fun v => decide (gst (after (fresh n) row) v ≠ .joined)) (by simpa using c)]
        exact e4
    rintro H4 ⟨s4, e4⟩
    have s14 := Same.trans s13 s4
    have eA : given ((n : Int) + 1).toNat (fun v => decide (gst (after (fresh n) row) v ≠ .joined)) (fun v => V.int (v : Int)) = nvs (apart (after (fresh n) row)) := by
      unfold apart nvs
      rw [hn2, show ((n : Int) + 1).toNat = n + 1 by omega] <;> rfl
    rw [eA] at e4
    have eo4 := s4 _ _ (s3 _ _ eo)
    unfold RetW at k
    rw [whole_parts] at k
    unfold vgap vidx at k
    cases c : apart (after (fresh n) row) with
    | nil =>
      rw [c] at e4 k
      refine ⟨_, rfl, _, Or.inl ⟨_, SqL.of e4, rfl⟩, ?_⟩
      refine ⟨_, rfl, _, rfl, (by show 0 ≤ sizeLine; decide), fun q nq => ?_⟩
      have eo5 : SqL K (upd H4 q (.lst [])) o (((outs (after (fresh n) row)).map fun v : Nat => (v : Int)).map V.int) := SqL.of (by rw [← nvs_ints]; exact Same.up nq _ _ eo4)
      refine ⟨_, _, dpI eo5, dpI (xs := []) (SqL.of upd_same), shI _, shI _, (by show 4 ≤ sizeLine; decide), fun t' nt => ?_⟩
      rw [eqvI]
      have ez : decide ((outs (after (fresh n) row)).map (fun v : Nat => (v : Int)) = []) = (([] : List Nat).isEmpty && (outs (after (fresh n) row)).isEmpty) := by
        cases outs (after (fresh n) row) <;> rfl
      rw [ez]
      have s15 := Same.new (o := .lst []) s14 nq
      exact k t' o _ (Same.new s15 nt) upd_same (Same.up nt _ _ (Same.up nq _ _ eo4))
    | cons g rest =>
      rw [c] at e4 k
      refine ⟨_, rfl, _, Or.inl ⟨_, SqL.of e4, rfl⟩, ?_⟩
      have hg : g ≤ n := by
        have hm : g ∈ apart (after (fresh n) row) := by rw [c]; exact List.mem_cons_self
        have := List.mem_range.mp (List.mem_filter.mp hm).1
        omega
      have a0 : atI (nvs (g :: rest)) 0 = some (.int (g : Int)) := atI_nat (j := 0) rfl
      refine ⟨_, rfl, _, rfl, _, _, _, _, rfl, rfl, SqL.of e4, a0, _, rfl, _, rfl, _, _, _, _, rfl, rfl, SqL.of e4, a0, _, _, _, _, rfl, rfl, SqL.of (s4 _ _ (s3 _ _ (s2 _ _ es))), mk_atI (j := g) _ rfl (by omega), (by show 4 ≤ sizeLine; decide), fun q nq => ?_⟩
      exact k q o _ (Same.new s14 nq) upd_same (Same.up nq _ _ eo4)
theorem sc__law_told : FnScope ["_law_many", "_law_row", "_law_told_here"] ["_law_many", "_law_row"] (defScope (top 75)) := ⟨rfl, rfl, rfl, by decide +kernel, rfl, by decide +kernel, by decide +kernel⟩
theorem ok__law_told (Z : Tx P w K mg base) : Pr P w K mg base 7 "_law_told" (sp_words K) := by
  refine Z.pr0 58 43 (d := d__law_told) rfl rfl rfl rfl rfl sc__law_told (fun vs H Q E h => ?_) (fun _ _ _ _ _ _ us hl => match us, hl with | [_, _], _ => rfl) (fun f cdv A outer s H vs Q E hr h => ?_)
  · obtain ⟨n, p, row, rfl, _⟩ := h
    rfl
  · obtain ⟨n, p, row, rfl, hS, hleg, hn, hlen, k⟩ := h
    refine ⟨_, (pss_cons (ps_set (i := 2) sc__law_told.nd rfl (Or.inl rfl) (pc (ok_verdict Z) hr (pa_cons (pv 0) (pa_cons (pe_callTy call_list_of (by rfl) (Z.free 63) (by decide +kernel) (pa_cons (pv 1) pa_nil)) pa_nil)))) (pss_one (ps_ret (pe_tup (pa_cons (pe_fld (pv 2) rfl) (pa_cons (pe_fld (pv 2) rfl) (pa_cons (pe_fld (pv 2) rfl) (pa_cons (pe_fld (pv 2) rfl) pa_nil)))))))), ?_⟩
    refine ⟨_, rfl, _, rfl, _, _, rfl, Or.inl hS, fun q nq => ?_⟩
    refine ⟨n, q, row, rfl, SqL.of upd_same, hleg, hn, fun v dx r H1 s1 ev er => ?_⟩
    have s2 := Same.trans (Same.up (o := .lst (row.map V.int)) nq) s1
    refine ⟨_, rfl, _, _, _, _, _, rfl, ev, Z.cV, Z.nOut, rfl, _, rfl, _, _, _, _, _, rfl, ev, Z.cV, Z.nGap, rfl, _, rfl, _, _, _, _, _, rfl, ev, Z.cV, Z.nIndex, rfl, _, rfl, _, _, _, _, _, rfl, ev, Z.cV, Z.nWhole, rfl, (by show 4 ≤ sizeLine; decide), fun t nt => ?_⟩
    exact k t r _ (Same.new s2 nt) upd_same (Same.up nt _ _ er)
theorem sc__law_leads : FnScope ["_law_state", "_law_row", "_law_now", "_law_many", "_law_deed"] ["_law_state", "_law_row"] (defScope (top 78)) := ⟨rfl, rfl, rfl, by decide +kernel, rfl, by decide +kernel, by decide +kernel⟩
theorem ok__law_leads (Z : Tx P w K mg base) : Pr P w K mg base 2 "_law_leads" (sp_leads K) := by
  refine Z.pr0 61 46 (d := d__law_leads) rfl rfl rfl rfl rfl sc__law_leads (fun vs H Q E h => ?_) (fun _ _ _ _ _ _ us hl => match us, hl with | [_, _], _ => rfl) (fun f cdv A outer s H vs Q E hr h => ?_)
  · obtain ⟨a, S, p, row, rfl, _⟩ := h
    rfl
  · obtain ⟨a, S, p, row, rfl, A, wf, hn, hS, k⟩ := h
    refine ⟨_, (pss_cons (ps_set (i := 2) sc__law_leads.nd rfl (Or.inl rfl) (pc (ok__law_twin Z) hr (pa_cons (pv 0) pa_nil))) (pss_cons (ps_set (i := 3) sc__law_leads.nd rfl (Or.inl rfl) (pe_op op_sub (pe_callB call_len_seq (by rfl) (Z.free 60) PySem.boot_len (pa_cons (pe_ix ix_list (pv 0) pe_int (fun _ _ => rfl)) pa_nil)) pe_int)) (pss_cons (ps_for PassesOwn.never rfl (pi_list (pv 1)) (pg_name (i := 4) sc__law_leads.nd rfl (Or.inl rfl)) (pss_cons (ps_if (PW.pt (pw_or (pt_cmpR op_eq (pv 4) pe_int (nomark _)) (pw_or (pt_cmpR op_gt (pe_callB call_abs (by rfl) (Z.free 62) (by decide +kernel) (pa_cons (pv 4) pa_nil)) (pv 3) (nomark _)) (pw_or1 (pt_cmpR op_eq (pe_ix ix_list (pe_ix ix_list (pv 2) pe_int (fun _ _ => rfl)) (pe_callB call_abs (by rfl) (Z.free 62) (by decide +kernel) (pa_cons (pv 4) pa_nil)) (fun _ _ => rfl)) (pe_cmpR op_lt (pv 4) pe_int (nomark _)) (nomark _)))))) (pss_one (ps_ret pe_bl)) pss_nil) (pss_one (ps_expr (pc (ok__law_put Z) hr (pa_cons (pv 2) (pa_cons (pv 4) pa_nil))))))) (pss_one (ps_ret (pe_cmpR (op_eqD hr.units) (pv 2) (pc (ok__law_start Z) hr (pa_cons (pv 3) pa_nil)) (nomark _))))))), ?_⟩
    refine ⟨_, rfl, a, S, rfl, A, hn, fun b H1 B s1 b1 b2 b3 b4 => ?_⟩
    have hq := vq_len S
    have A1 := A.same s1
    refine ⟨_, rfl, _, _, _, _, rfl, rfl, SqL.of A1.ob, at3_0, a.r, _, rfl, Or.inl (SqL.of A1.hr), _, _, rfl, rfl, ?_⟩
    refine ⟨_, rfl, p, rfl, ⟨_, Same.seq s1 hS⟩, ?_⟩
    refine for_list (K := K) (a := p) (xs := row.map V.int) (fun i σ H' => ∃ v4 : Option V, σ = [some (.ref a.p), some (.ref p), some (.ref b.p), some (.int (((vq S).length : Int) - 1)), v4] ∧ Same H H' ∧ StAt H' b (after S (row.take i)) ∧ legal S (row.take i) = true)
      ⟨none, rfl, s1, B, rfl⟩ (fun i σ H' _ ⟨_, _, s2, _⟩ => Same.seq s2 hS) ?_ ?_
    · rintro i y σ H' hy ⟨v4, rfl, s2, B2, hlg⟩
      obtain ⟨o, ho, rfl⟩ := row_at hy
      have hni : (after S (row.take i)).n = S.n := after_n _ _
      have wfi : WF (after S (row.take i)) := wf_after wf hlg
      have hl1 : legal S (row.take (i + 1)) = okop (after S (row.take i)) o := by
        rw [take_snoc ho, legal_snoc, hlg, Bool.true_and]
      have bad : okop (after S (row.take i)) o = false → Q (.bl false) H' := fun e => by
        have e2 : leads S row = false := by
          unfold leads
          cases q : legal S row with
          | false => rfl
          | true =>
            have := legal_take q (i + 1)
            rw [hl1, e] at this
            cases this
        rw [e2] at k
        exact k H' s2
      refine ⟨_, rfl, rfl, _, rfl, ?_⟩
      show if (decide (V.int o = V.int 0)) = true then _ else _
      refine iteB (fun c => ?_) (fun c => ?_)
      · refine iteK (c := true) rfl (bad ?_)
        have c1 := of_decide_eq_true c
        injection c1 with c1
        cases e : okop (after S (row.take i)) o with
        | false => rfl
        | true => exact absurd c1 (okop_iff.mp e).1
      have o0 : o ≠ 0 := fun z => by
        rw [z] at c
        exact absurd c (by decide)
      refine ⟨_, rfl, _, rfl, _, rfl, _, _, rfl, rfl, _, rfl, iteB (fun c2 => ?_) (fun c2 => ?_)⟩
      · refine iteK (c := true) rfl (bad ?_)
        have c3 := of_decide_eq_true c2
        rw [abs_int] at c3
        cases e : okop (after S (row.take i)) o with
        | false => rfl
        | true =>
          have := (okop_iff.mp e).2.1
          omega
      have c3 := of_decide_eq_false c2
      rw [abs_int] at c3
      have o1 : o.natAbs ≤ S.n := by omega
      refine ⟨_, rfl, _, _, _, _, rfl, rfl, SqL.of B2.ob, at3_2, _, rfl, _, rfl, _, _, _, _, rfl, rfl, SqL.of B2.hf, mk_atI _ (abs_int o) (by omega), _, rfl, _, _, rfl, rfl, rfl, _, rfl, ?_⟩
      show if (decide (V.bl ((after S (row.take i)).F o.natAbs) = V.bl (decide (o < 0)))) = true then _ else _
      refine iteB (fun c4 => ?_) (fun c4 => ?_)
      · refine bad ?_
        have c5 := of_decide_eq_true c4
        injection c5 with c5
        cases e : okop (after S (row.take i)) o with
        | false => rfl
        | true =>
          have z := (okop_iff.mp e).2.2
          rw [c5] at z
          by_cases q : o < 0
          · rw [decide_eq_true q, decide_eq_false (by omega)] at z
            cases z
          · rw [decide_eq_false q, decide_eq_true (by omega)] at z
            cases z
      have hok : okop (after S (row.take i)) o = true := by
        refine okop_iff.mpr ⟨o0, by rw [hni]; exact o1, ?_⟩
        have c5 := of_decide_eq_false c4
        by_cases q : o < 0
        · rw [decide_eq_true q] at c5
          rw [decide_eq_false (by omega)]
          cases e : (after S (row.take i)).F o.natAbs with
          | false => rfl
          | true => exact absurd (by rw [e]) c5
        · rw [decide_eq_false q] at c5
          rw [decide_eq_true (by omega)]
          cases e : (after S (row.take i)).F o.natAbs with
          | true => rfl
          | false => exact absurd (by rw [e]) c5
      refine ⟨_, rfl, _, rfl, b, _, o, rfl, B2, wfi, (by rw [hni]; exact hn), hok, fun H5 B5 kp => ?_⟩
      refine ⟨some _, rfl, Keep.old s2 kp b2 b3 b4, ?_, hl1.trans hok⟩
      rw [after_take ho]
      exact B5
    · rintro σ H' ⟨v4, rfl, s2, B2, hlg⟩
      rw [List.length_map, List.take_length] at B2 hlg
      refine ⟨_, rfl, _, rfl, S.n, ?_, hn, fun c H2 C s3 _ _ _ _ => ?_⟩
      · rw [show ((vq S).length : Int) - 1 = (S.n : Int) by omega] <;> rfl
      refine ⟨_, _, dpSt (B2.same s3), dpSt C, shSt _, shSt _, ?_⟩
      have hni : (after S row).n = S.n := after_n _ _
      rw [← hni, eqvSt (wf_after wf hlg)]
      have e : leads S row = wholeB (after S row) := by
        unfold leads
        rw [hlg, Bool.true_and]
      rw [← e]
      exact k H2 (Same.trans s2 s3)
end
end LL
namespace LL
open PySem PySem.Spec PySem.Calls PyProof.Rows L2
open PySem.W (Looks looks_findIn looks_find looks_subIn InstAt findObj any_some KitX clsIn check_slot class_get)
/-! ### isinstance of a caught error that has attributes of its own -/
section
variable {prog : Program} {w : World} {A : Around} {E : Value → Shared → Prop} {K : PySem.W.Frag} {x D : Addr} {ox : Obj} {od : Option Obj}
theorem fo_class (c : ExcC K D) : findObj K D od "__class__" = some (.bind (.builtin "getset_descriptor.__get__") (.builtin "object.__class__")) := by
  obtain ⟨cd, e, _⟩ := any_some c.hd
  unfold findObj
  rw [e, Option.bind_some]
  rw [c.ha, Option.bind_some]
  simp [c.hn, c.ht]
theorem class_of {s : Shared} {Q : Option Value → Shared → Prop} (c : ExcC K D) (X : K.In s.heap) (I : InstAt s.heap x ox D od)
    (q : Q (some (.ref D)) { s with toks := s.toks + 1 }) : wpAny (model prog w) A (getAttr? (.ref x) "__class__") Q E s := by
  have fo := fo_class (od := od) c
  obtain ⟨h0, g0, d0, k0, o0⟩ := s
  have w0 := I.type (M := model prog w)
  have w1 := looks_findIn (M := model prog w) X c.hg
  have w2 := looks_findIn (M := model prog w) X c.hk
  have w3 := looks_find (M := model prog w) X I fo
  have isB : Looks (model prog w) h0 (isInstance (.ref x) (.type "BaseException")) true := w0.andThen (looks_subIn X c.hs)
  have n0 : (false && onTheHeap (Value.builtin "BaseException.__getattribute__")) = false := rfl
  have n2 : (Value.builtin "BaseException.__getattribute__" == Value.builtin "object.__getattribute__") = false := by decide +kernel
  have n1 : (onTheHeap (Value.ref D) && Value.builtin "BaseException.__getattribute__" == Value.builtin "object.__getattribute__") = false := by
    rw [n2]
    rfl
  unfold getAttr?
  unfold getAttrBy?
  unfold getAttrBy
  refine wpAny_bind (wpAny_mkText ?_)
  refine wpAny_bind (wpAny_attempt (wpAny_holding ?_))
  refine wpAny_bind (w0.at ?_)
  refine wpAny_bind (w1.at ?_)
  show wpAny _ _ (if (onTheHeap (Value.ref D) && Value.builtin "BaseException.__getattribute__" == .builtin "object.__getattribute__") = true then _ else _) _ _ _
  rw [n1]
  rw [if_neg Bool.false_ne_true]
  unfold getAttrByItsOwn
  unfold hookBefore
  refine wpAny_bind ?_
  rw [if_pos (show onTheHeap (.ref D) = true from rfl)]
  refine w2.at ?_
  refine wpAny_bind ?_
  refine wpAny_attempt (wpAny_holding ?_)
  unfold callGetattribute
  rw [n0]
  rw [if_neg Bool.false_ne_true]
  unfold boundAndCalled
  rw [PySem.F.excAttr_ValueError.ga.bind]
  refine wpAny_bind (wpAny_pure ?_)
  show wpAny _ _ (call (.builtin "BaseException.__getattribute__") [.ref x, .str "__class__" k0]) _ _ _
  refine wpAny_call ?_
  refine codeAny_call_builtin PySem.F.excAttr_ValueError.ga.plain PySem.F.entry_bexc_ga ?_
  refine @check_slot (model prog w) _ _ ⟨h0, g0, d0, k0 + 1, o0⟩ "BaseException.__getattribute__" "BaseException" "__getattribute__" (.ref x) [.str "__class__" k0] [] _ (by decide +kernel) (by decide +kernel) isB (PySem.F.args_bexc_ga (.ref x) (.str "__class__" k0)) ?_
  unfold Builtin.«object.__getattribute__»
  refine wpAny_bind (wpAny_of_eq (a := ((Value.ref x : Value), [Value.str "__class__" k0])) (by first | rfl | (simp only [slotArgs]; rfl)) ?_)
  refine wpAny_bind (wpAny_pure ?_)
  refine wpAny_bind (w0.at ?_)
  refine wpAny_bind (w3.at ?_)
  show wpAny _ _ (holding [.builtin "object.__class__"] (call (.builtin "getset_descriptor.__get__") [.builtin "object.__class__", .ref x, .ref D]) >>= ret) _ _ _
  refine wpAny_bind (wpAny_holding (wpAny_call ?_))
  refine class_get (s := ⟨h0, g0, d0, k0 + 1, o0⟩) (ox := ox) (od := od) X I c.hm ?_
  refine wpAny_pure ?_
  show wpAny _ _ (handedOut (.ref D)) _ _ _
  rw [PySem.W.handedOut_of (v := .ref D) rfl]
  first
    | exact wpAny_pure (wpAny_pure q)
    | exact wpAny_pure q
    | exact wpAny_pure (wpAny_bind (wpAny_pure (wpAny_pure q)))
theorem kit_err (c : ExcC K D) (od : Option Obj) : KitX K (.ref x) (.ref D) (fun h => InstAt h x ox D od) where
  ty := fun _ _ _ I => I.type
  it := fun _ _ X _ => by
    obtain ⟨cd, e, _⟩ := any_some c.hd
    unfold clsIn at e
    split at e
    · rename_i c1 c2 c3 c4 ho
      intro A1 Q1 E1 s1 k q
      unfold isType loadHead
      refine wpAny_bind (wpAny_loadPart (k _ _ (X _ _ ho)) ?_)
      exact wpAny_pure q
    · cases e
  ne := fun h tp dd its n sl X htp => by
    obtain ⟨cd, e, _⟩ := any_some c.hd
    refine Bool.eq_false_iff.mpr fun q => ?_
    have e2 : D = tp := Value.ref.inj (beq_iff_eq.mp q)
    subst e2
    unfold clsIn at e
    split at e
    · rename_i c1 c2 c3 c4 ho
      cases (X _ _ ho).symm.trans htp
    · cases e
  ca := fun X I k => class_of c X I k
end
/-- isinstance(e, c), e the caught error of the class at D, its attributes at dd -/
def rIsD (K : PySem.W.Frag) (D : Addr) (cls : Value) (d : Option Addr) (a : Addr) : List V → Hp → VK → Prop := fun xs H Q => ∃ (c : Addr) (b : Bool) (dd : Addr) (fs : List (Str × V)), xs = [.ref a, .ref c] ∧ cls = .ref D ∧ d = some dd ∧ H dd = some (.xd fs) ∧ PySem.W.kitOne K (.ref D) (.ref c) = some b ∧ Q (.bl b) H
theorem call_isD {X : Cx} {a D : Addr} {oe : Obj} {cls : Value} {d : Option Addr} {pn : List (Addr × Obj)} (C : ExcC X.K D) (hz : Zc cls d oe) (hf : ∃ vs, oe.data = .fields vs) : CallR (X.suite a ((a, oe) :: pn)) (.builtin "isinstance") (rIsD X.K D cls d a) := by
  intro pins s σ H xs us Q I r h
  obtain ⟨c, b, dd, fs, rfl, rfl, rfl, hd, e, q⟩ := h
  obtain ⟨u1, u2, rfl, r1, r2⟩ := vals2 r
  cases r1
  cases r2
  obtain ⟨at_, _⟩ := I.pin (a, oe) (List.mem_append.mpr (.inl List.mem_cons_self))
  obtain ⟨vs, hv⟩ := hf
  have hx : ObjOk X.prog X.w H s.heap dd (.xd fs) := I.hok dd _ hd
  obtain ⟨mA, hns, _⟩ := hx
  obtain ⟨od, ho, _⟩ := lookIn_ns hns
  have J : InstAt s.heap a oe D (some od) := ⟨at_, hz.1, (by unfold PySem.W.notCls; rw [hv] <;> rfl), (by rw [hz.2]; exact ho)⟩
  exact PySem.W.kia_one (kit_err C (some od)) I.kIn J e (fun z => nomatch z) fun tk => ⟨.bl b, H, I.kept (t' := tk) fun _ _ z => z, rfl, q⟩
end LL
namespace LL
open PySem PySem.Spec PyProof.Rows L2
/-! ### what is told of losses and repairs, refusals caught -/
abbrev rLo (K : PySem.W.Frag) : List V → Hp → VK → Prop := fun xs H Q => ∃ p ys, xs = [.ref p] ∧ (SqL K H p ys ∨ SqT K H p ys) ∧ ∀ l, H l = none → Q (.ref l) (upd H l (.lst ys))
def sp_paper (K : PySem.W.Frag) : Sp := fun vs H Q _ => ∃ (n : Nat) (p : Addr) (row : List Int), vs = [.int (n : Int), .ref p] ∧ SqL K H p (row.map V.int) ∧ legal (fresh n) row = true ∧ n ≤ 60 ∧
  (lostL (after (fresh n) row) = [] → RetT [.str "refused", .int (n : Int), .bl true, .bl false] H Q) ∧
  (∀ (g : Nat) (r : List Nat) (k : Nat), lostL (after (fresh n) row) = g :: r → dec (fresh n) row g row.length = (k : Int) → ∀ (t u : Addr) (H' : Hp), Same H H' → H' t = some (.tup [.str "paper", .ref u]) → H' u = some (.tup [.int (g : Int), .int (dec (fresh n) row g k), .int (k : Int)]) → Q (.ref t) H')
def sp_mend (K : PySem.W.Frag) (C : Addr) : Sp := fun vs H Q _ => ∃ (a : LA) (S : Sd), vs = [.ref a.p] ∧ LinksAt C H a S ∧ WF S ∧ S.n ≤ 60 ∧
  (∀ k, Good S k → ∀ (t u : Addr) (H' : Hp), Same H H' → H' t = some (.tup [.str "repair", .ref u]) → H' u = some (.lst ((canon k S).map V.int)) → Q (.ref t) H') ∧
  (∀ (g : Nat) (r : List Nat), lostL S = g :: r → RetT [.str "refused", .int (g : Int), .bl true, .bl false] H Q)
section
variable {P : Program} {w : World} {K : PySem.W.Frag} {mg : Str → Option Value} {base : Heap}
theorem Tx.xfN (Z : Tx P w K mg base) : XfC K (He.ga K "NotLost") := ⟨Z.xEN.hg, Z.xEN.hk, Z.xEN.hs, Z.xEN.hd⟩
theorem Tx.xfR (Z : Tx P w K mg base) : XfC K (He.ga K "NotRepairable") := ⟨Z.xER.hg, Z.xER.hk, Z.xER.hs, Z.xER.hd⟩
theorem Tx.nN (Z : Tx P w K mg base) : PySem.W.findIn K (.ref (He.ga K "NotLost")) "size" = some none := by
  obtain ⟨f, T⟩ := Z.xN
  exact T.noN _ (by decide)
theorem Tx.nR (Z : Tx P w K mg base) : PySem.W.findIn K (.ref (He.ga K "NotRepairable")) "gap" = some none := by
  obtain ⟨f, T⟩ := Z.xR
  exact T.noN _ (by decide)
theorem sc__law_paper : FnScope ["_law_many", "_law_row", "_law_told_here", "raised"] ["_law_many", "_law_row"] (defScope (top 76)) := ⟨rfl, rfl, rfl, by decide +kernel, rfl, by decide +kernel, by decide +kernel⟩
theorem ok__law_paper (Z : Tx P w K mg base) : Pr P w K mg base 8 "_law_paper" (sp_paper K) := by
  refine Z.pr0 59 44 (d := d__law_paper) rfl rfl rfl rfl rfl sc__law_paper (fun vs H Q E h => ?_) (fun _ _ _ _ _ _ us hl => match us, hl with | [_, _], _ => rfl) (fun f cdv A outer s H vs Q E hr h => ?_)
  · obtain ⟨n, p, row, rfl, _⟩ := h
    rfl
  · obtain ⟨n, p, row, rfl, hS, hleg, hn, k1, k2⟩ := h
    refine ⟨_, (pss_cons (ps_try_as (i := 3) (tb := fun W => tAsg (tCallS (sp_loss K) (WE W) (tCons (tVar 0) (tCons (tCB (rLo K) (tCons (tVar 1) tNil)) tNil))) (gName 2)) (ts := fun a cls d => tRet (tTup (tCons (tC (.str "refused")) (tCons (tXf a cls d (He.ga K "NotLost") "size" (tVar 3)) (tCons (tCB (rIsD K (He.ga K "NotLost") cls d a) (tCons (tVar 3) (tCons (tC (.ref (He.ga K "LinkError"))) tNil))) (tCons (tCB (rIsD K (He.ga K "NotLost") cls d a) (tCons (tVar 3) (tCons (tC (.ref (He.ga K "NotRepairable"))) tNil))) tNil)))))) (Wout := fun _ _ _ _ => False) rfl rfl sc__law_paper.nd rfl rfl ⟨rfl, by decide, Or.inl (Z.glo 57)⟩ takes0 (fun W pn xe tk _ => pss_one (ps_set (i := 2) sc__law_paper.nd rfl (Or.inl rfl) (by exact (pcS (ok_loss_certificate Z) hr (fun σ => passAt tk σ) (by exact (pa_cons (pv 0) (pa_cons (pe_callTy call_list_of rfl (Z.free 63) (by decide +kernel) (pa_cons (pv 1) pa_nil)) pa_nil))))))) (fun a oe cls d pn hz hf => pss_one (ps_ret (by exact (pe_tup (pa_cons pe_str (pa_cons (pe_xf Z.xfN Z.nN hz hf (pv 3)) (pa_cons (pe_callB (call_isD Z.xEN hz hf) (by rfl) (Z.free 64) (by decide +kernel) (pa_cons (pv 3) (pa_cons (pe_glob (v := .ref (He.ga K "LinkError")) rfl (Z.glo 52) rfl) pa_nil))) (pa_cons (pe_callB (call_isD Z.xEN hz hf) (by rfl) (Z.free 64) (by decide +kernel) (pa_cons (pv 3) (pa_cons (pe_glob (v := .ref (He.ga K "NotRepairable")) rfl (Z.glo 56) rfl) pa_nil))) pa_nil))))))))) (pss_one (ps_ret (pe_tup (pa_cons pe_str (pa_cons (pv 2) pa_nil)))))), ?_⟩
    refine ⟨_, rfl, _, rfl, _, _, rfl, Or.inl hS, fun q nq => ?_⟩
    have s0 : Same H (upd H q (.lst (row.map V.int))) := Same.up nq
    refine ⟨n, q, row, rfl, SqL.of upd_same, hleg, hn, fun c d H1 s1 ed => ?_, fun g r m c em u H1 s1 eu => ?_⟩
    · refine ⟨true, He.exm_ok (Z.fa 104 _ rfl), fun _ a ha => ?_, fun z => nomatch z⟩
      refine ⟨_, rfl, rfl, rfl, _, _, _, rfl, ed, rfl, _, rfl, _, _, _, _, rfl, rfl, rfl, ed, Z.kN1, _, rfl, _, _, _, _, rfl, rfl, rfl, ed, Z.kN2, (by show 4 ≤ sizeLine; decide), fun t nt => ?_⟩
      exact k1 c t _ (Same.new (Same.trans s0 s1) nt) upd_same
    · refine ⟨_, rfl, (by show 2 ≤ sizeLine; decide), fun t nt => ?_⟩
      exact k2 g r m c em t u _ (Same.new (Same.trans s0 s1) nt) upd_same (Same.up nt _ _ eu)
theorem sc__law_mend : FnScope ["_law_links", "_law_told_here", "raised"] ["_law_links"] (defScope (top 77)) := ⟨rfl, rfl, rfl, by decide +kernel, rfl, by decide +kernel, by decide +kernel⟩
theorem ok__law_mend (Z : Tx P w K mg base) : Pr P w K mg base 10 "_law_mend" (sp_mend K (He.ga K "Links")) := by
  refine Z.pr0 60 45 (d := d__law_mend) rfl rfl rfl rfl rfl sc__law_mend (fun vs H Q E h => ?_) (fun _ _ _ _ _ _ us hl => match us, hl with | [_], _ => rfl) (fun f cdv A outer s H vs Q E hr h => ?_)
  · obtain ⟨a, S, rfl, _⟩ := h
    rfl
  · obtain ⟨b, S, rfl, L, wf, hn, k1, k2⟩ := h
    refine ⟨_, (pss_cons (ps_try_as (i := 2) (tb := fun W => tAsg (tCallS (sp_first_repair K (He.ga K "Links")) (WE W) (tCons (tVar 0) tNil)) (gName 1)) (ts := fun a cls d => tRet (tTup (tCons (tC (.str "refused")) (tCons (tXf a cls d (He.ga K "NotRepairable") "gap" (tVar 2)) (tCons (tCB (rIsD K (He.ga K "NotRepairable") cls d a) (tCons (tVar 2) (tCons (tC (.ref (He.ga K "LinkError"))) tNil))) (tCons (tCB (rIsD K (He.ga K "NotRepairable") cls d a) (tCons (tVar 2) (tCons (tC (.ref (He.ga K "LogError"))) tNil))) tNil)))))) (Wout := fun _ _ _ _ => False) rfl rfl sc__law_mend.nd rfl rfl ⟨rfl, by decide, Or.inl (Z.glo 56)⟩ takes0 (fun W pn xe tk _ => pss_one (ps_set (i := 1) sc__law_mend.nd rfl (Or.inl rfl) (by exact (pcS (ok_first_repair Z) hr (fun σ => passAt tk σ) (by exact (pa_cons (pv 0) pa_nil)))))) (fun a oe cls d pn hz hf => pss_one (ps_ret (by exact (pe_tup (pa_cons pe_str (pa_cons (pe_xf Z.xfR Z.nR hz hf (pv 2)) (pa_cons (pe_callB (call_isD Z.xER hz hf) (by rfl) (Z.free 64) (by decide +kernel) (pa_cons (pv 2) (pa_cons (pe_glob (v := .ref (He.ga K "LinkError")) rfl (Z.glo 52) rfl) pa_nil))) (pa_cons (pe_callB (call_isD Z.xER hz hf) (by rfl) (Z.free 64) (by decide +kernel) (pa_cons (pv 2) (pa_cons (pe_glob (v := .ref (He.ga K "LogError")) rfl (Z.glo 53) rfl) pa_nil))) pa_nil))))))))) (pss_one (ps_ret (pe_tup (pa_cons pe_str (pa_cons (pv 1) pa_nil)))))), ?_⟩
    refine ⟨_, rfl, b, S, rfl, L, wf, hn, fun m g u H1 nu s1 eu => ?_, fun g r c d H1 s1 ed => ?_⟩
    · refine ⟨_, rfl, (by show 2 ≤ sizeLine; decide), fun t nt => ?_⟩
      exact k1 m g t u _ (Same.new s1 nt) upd_same (Same.up nt _ _ eu)
    · refine ⟨true, He.exm_ok (Z.fa 105 _ rfl), fun _ a ha => ?_, fun z => nomatch z⟩
      refine ⟨_, rfl, rfl, rfl, _, _, _, rfl, ed, rfl, _, rfl, _, _, _, _, rfl, rfl, rfl, ed, Z.kR1, _, rfl, _, _, _, _, rfl, rfl, rfl, ed, Z.kR2, (by show 4 ≤ sizeLine; decide), fun t nt => ?_⟩
      exact k2 g r c t _ (Same.new s1 nt) upd_same
end
end LL
namespace LL
open PySem PySem.Spec PyProof.Rows L2
open Evl (given given_yes given_no given_len)
/-! ### the law's source of draws -/
structure BoxAt (H : Hp) (b q : Addr) (N : Nat) : Prop where
  ex : ∃ (cs : List Int) (u v c : Int), H b = some (.lst [.ref q, .int u, .int v, .int c]) ∧ H q = some (.lst (cs.map V.int)) ∧ cs.length ≤ 63 ∧ 0 ≤ v ∧ v < 2147483648 ∧ 0 ≤ c ∧ c ≤ (N : Int) ∧ q ≠ b
theorem BoxAt.same {H H' : Hp} {b q : Addr} {N : Nat} (B : BoxAt H b q N) (e : Same H H') : BoxAt H' b q N := by
  obtain ⟨cs, u, v, c, h1, h2, h⟩ := B.ex
  exact ⟨cs, u, v, c, e _ _ h1, e _ _ h2, h⟩
theorem BoxAt.mono {H : Hp} {b q : Addr} {N M : Nat} (B : BoxAt H b q N) (h : N ≤ M) : BoxAt H b q M := by
  obtain ⟨cs, u, v, c, h1, h2, h3, h4, h5, h6, h7, h8⟩ := B.ex
  exact ⟨cs, u, v, c, h1, h2, h3, h4, h5, h6, by omega, h8⟩
theorem BoxAt.past {H : Hp} {a b q : Addr} {N : Nat} {o : HO} (B : BoxAt H b q N) (h1 : a ≠ b) (h2 : a ≠ q) : BoxAt (upd H a o) b q N := by
  obtain ⟨cs, u, v, c, e1, e2, h⟩ := B.ex
  exact ⟨cs, u, v, c, by rw [upd_ne h1.symm]; exact e1, by rw [upd_ne h2.symm]; exact e2, h⟩
theorem BoxAt.ne {H : Hp} {a b q : Addr} {N : Nat} (B : BoxAt H b q N) (h : H a = none) : a ≠ b := by
  obtain ⟨_, _, _, _, h1, _⟩ := B.ex
  exact (ne_of_none h1 h).symm
theorem BoxAt.ne2 {H : Hp} {a b q : Addr} {N : Nat} (B : BoxAt H b q N) (h : H a = none) : a ≠ q := by
  obtain ⟨_, _, _, _, _, h1, _⟩ := B.ex
  exact (ne_of_none h1 h).symm
/-- the cells stand where they stood, or at a new place -/
def CN (H : Hp) (q q' : Addr) : Prop := q' = q ∨ H q' = none
theorem CN.ne {H : Hp} {a q q' : Addr} {o : HO} (h : CN H q q') (e : H a = some o) (n : a ≠ q) : a ≠ q' := by
  rcases h with h | h
  · rw [h]
    exact n
  · exact ne_of_none e h
/-- all but the box -/
def KeepB (b : Addr) (H H' : Hp) : Prop := ∀ a o, H a = some o → a ≠ b → H' a = some o
theorem Same.keepB {H H' : Hp} {b : Addr} (e : Same H H') : KeepB b H H' := fun a o h _ => e a o h
theorem KeepB.trans {b : Addr} {H H1 H2 : Hp} (x : KeepB b H H1) (y : KeepB b H1 H2) : KeepB b H H2 := fun a o h n => y a o (x a o h n) n
theorem KeepB.old {b : Addr} {H H1 H2 : Hp} (x : Same H H1) (y : KeepB b H1 H2) (n : H b = none) : Same H H2 := fun a o h => y a o (x a o h) (ne_of_none h n)
theorem KeepB.up {b : Addr} {H H1 : Hp} {o : HO} (x : KeepB b H H1) : KeepB b H (upd H1 b o) := fun a u h n => by
  rw [upd_ne n]
  exact x a u h n
theorem KeepB.new {b p : Addr} {H H1 : Hp} {o : HO} (x : KeepB b H H1) (h : H1 p = none) : KeepB b H (upd H1 p o) := fun a u e n => by
  rw [upd_ne (ne_of_none (x a u e n) h)]
  exact x a u e n
theorem KeepB.seq {K : PySem.W.Frag} {b p : Addr} {H H1 : Hp} {xs : List V} (x : KeepB b H H1) (h : SqL K H p xs) (n : p ≠ b) : SqL K H1 p xs := by
  rcases h with (h | ⟨o, h⟩) | h
  · exact .inl (.inl (x _ _ h n))
  · exact .inl (.inr ⟨o, x _ _ h n⟩)
  · exact .inr h
theorem KeepB.free {H H1 : Hp} {a b q : Addr} {N : Nat} (B : BoxAt H1 b q N) (k : KeepB b H H1) (h : H1 a = none) : H a = none := by
  cases e : H a with
  | none => rfl
  | some o =>
    rw [k _ _ e (B.ne h)] at h
    cases h
theorem KeepB.past {a b : Addr} {H H1 : Hp} {o : HO} (x : KeepB b H H1) (h : H a = none) : KeepB b H (upd H1 a o) := fun c u e n => by
  rw [upd_ne (ne_of_none e h)]
  exact x c u e n
theorem CN.same {H H' : Hp} {q q' : Addr} (h : CN H' q q') (e : Same H H') : CN H q q' := h.imp id fun n => Same.free e n
theorem CN.trans {H H1 : Hp} {b q q1 q2 : Addr} {N : Nat} (B : BoxAt H1 b q1 N) (k : KeepB b H H1) (x : CN H q q1) (y : CN H1 q1 q2) : CN H q q2 := by
  rcases y with y | y
  · rw [y]
    exact x
  · exact .inr (KeepB.free B k y)
def sp_draw : Sp := fun vs H Q _ => ∃ (b q : Addr) (N : Nat) (m : Int), vs = [.ref b, .int m] ∧ BoxAt H b q N ∧ 1 ≤ m ∧ m ≤ 1000000 ∧ N ≤ 1000000 ∧ ∀ (r : Int) (q' : Addr) (H' : Hp), 0 ≤ r → r < m → BoxAt H' b q' (N + 1) → KeepB b H H' → CN H q q' → Q (.int r) H'
def sp_box (K : PySem.W.Frag) : Sp := fun vs H Q _ => ∃ (p : Addr) (xs : List Int) (i : Int), vs = [.ref p, .int i] ∧ SqL K H p (xs.map V.int) ∧ 0 ≤ i ∧ i < 2147483648 ∧ ∀ (b q : Addr) (H' : Hp), BoxAt H' b q 0 → Same H H' → H b = none → H q = none → Q (.ref b) H'
theorem atc (o : Int) (r : List Int) : atI ((o :: r).map V.int) 0 = some (.int o) := atI_nat (j := 0) (xs := (o :: r).map V.int) rfl
theorem at4_0 {x y z u : V} : atI [x, y, z, u] 0 = some x := rfl
theorem at4_1 {x y z u : V} : atI [x, y, z, u] 1 = some y := rfl
theorem at4_2 {x y z u : V} : atI [x, y, z, u] 2 = some z := rfl
theorem at4_3 {x y z u : V} : atI [x, y, z, u] 3 = some u := rfl
theorem div_ok {m : Int} (i : Int) (h1 : 1 ≤ m) (h2 : m ≤ 1000000) : CDivW i m := by
  have e : (2 : Nat) ^ 20 = 1048576 := by decide
  exact wide_div (b := 20) (by omega) (by omega) (by decide) (by decide)
theorem mul_r {i j : Int} (h1 : 0 ≤ j) (h2 : j ≤ 2147483648) : CMul i j := by
  have e : (2 : Int) ^ 64 = 18446744073709551616 := by decide
  exact .inr ⟨by omega, by omega⟩
theorem cells_all (l : List Int) (c : Int → Bool) : (l.filter c).length ≤ l.length := List.length_filter_le c l
section
variable {P : Program} {w : World} {K : PySem.W.Frag} {mg : Str → Option Value} {base : Heap}
theorem sc__law_box : FnScope ["_law_script", "_law_start_here", "_law_cells", "_law_seed", "_law_cell"] ["_law_script", "_law_start_here"] (defScope (top 61)) := ⟨rfl, rfl, rfl, by decide +kernel, rfl, by decide +kernel, by decide +kernel⟩
theorem ok__law_box (Z : Tx P w K mg base) : Pr P w K mg base 1 "_law_box" (sp_box K) := by
  refine Z.pr0 44 29 (d := d__law_box) rfl rfl rfl rfl rfl sc__law_box (fun vs H Q E h => ?_) (fun _ _ _ _ _ _ us hl => match us, hl with | [_, _], _ => rfl) (fun f cdv A outer s H vs Q E hr h => ?_)
  · obtain ⟨p, xs, i, rfl, _⟩ := h
    rfl
  · obtain ⟨p, xs, i, rfl, hS, h1, h2, k⟩ := h
    refine ⟨_, (pss_cons (ps_set (i := 2) sc__law_box.nd rfl (Or.inl rfl) (pe_slice sl_list (pv 0) po_none (po_some pe_int))) (pss_cons (ps_set (i := 3) sc__law_box.nd rfl (Or.inl rfl) (pv 1)) (pss_cons (ps_for PassesOwn.never rfl (pi_list (pv 2)) (pg_name (i := 4) sc__law_box.nd rfl (Or.inl rfl)) (pss_one (ps_set (i := 3) sc__law_box.nd rfl (Or.inl rfl) (pe_op op_mod (pe_callTy call_int1 (by rfl) (Z.free 65) (by decide +kernel) (pa_cons (pe_op op_add (pe_op op_add (pe_op op_mul (pv 3) pe_int) (pe_op op_mod (pe_callTy call_int1 (by rfl) (Z.free 65) (by decide +kernel) (pa_cons (pv 4) pa_nil)) pe_int)) pe_int) pa_nil)) pe_int)))) (pss_one (ps_ret (pe_lst (pa_cons (pe_lc (own := [("_law_cell", 4)]) (g := gName 4) rfl sc__law_box.nd (pi_list (pv 2)) (blkOk_by (own := [("_law_cell", 4)]) (N := ["_law_script", "_law_start_here", "_law_cells", "_law_seed", "_law_cell"]) (sc := defScope (top 61)) (by decide +kernel)) (fun _ _ _ _ _ => pg_name (i := 4) sc__law_box.nd rfl (Or.inl rfl)) (fun _ _ _ _ _ => pts_one (by exact (pt_cmpR op_ge (pv 4) (pe_op op_pow pe_int pe_int) (nomark _)))) (fun _ _ _ _ _ => (by exact (pv 4)))) (pa_cons pe_int (pa_cons (pv 3) (pa_cons pe_int pa_nil)))))))))), ?_⟩
    refine ⟨_, rfl, _, rfl, p, _, rfl, hS, fun q nq => ?_⟩
    rw [show (some (63 : Int)) = some ((63 : Nat) : Int) from rfl, cutV_to, ← List.map_take]
    have hl : (xs.take 63).length ≤ 63 := by rw [List.length_take]; omega
    generalize xs.take 63 = cs at hl ⊢
    refine ⟨_, rfl, ?_⟩
    refine ⟨_, rfl, q, rfl, ⟨_, SqL.of upd_same⟩, ?_⟩
    refine for_list (K := K) (a := q) (xs := cs.map V.int) (fun j σ H' => ∃ (v : Int) (v4 : Option V), σ = [some (.ref p), some (.int i), some (.ref q), some (.int v), v4] ∧ 0 ≤ v ∧ v < 2147483648 ∧ H' = upd H q (.lst (cs.map V.int)))
      ⟨i, none, rfl, h1, h2, rfl⟩ (fun j σ H' _ ⟨_, _, _, _, _, e⟩ => by rw [e]; exact SqL.of upd_same) ?_ ?_
    · rintro j y σ H' hy ⟨v, v4, rfl, b1, b2, rfl⟩
      obtain ⟨o, ho, rfl⟩ := row_at hy
      refine ⟨_, rfl, _, _, rfl, rfl, mul_r (by omega) (by omega), _, rfl, Or.inl ⟨_, rfl, _, _, rfl, rfl, (by show (0 : Int) < _; decide), _, _, rfl, rfl, _, _, rfl, rfl, Or.inl ⟨_, rfl, _, _, rfl, rfl, (by show (0 : Int) < _; decide), _, _, rfl, ?_, ?_, rfl⟩⟩⟩
      · exact Int.emod_nonneg _ (by decide)
      · have := Int.emod_lt_of_pos (v * 48271 + o % 2147483629 + 97) (show (0 : Int) < 2147483647 by decide)
        omega
    · rintro σ H' ⟨v, v4, rfl, b1, b2, rfl⟩
      have s1 : Same H (upd H q (.lst (cs.map V.int))) := Same.up nq
      refine ⟨_, rfl, q, rfl, ⟨_, SqL.of upd_same⟩, fun D hD => ?_⟩
      refine lc_list (K := K) (a := q) (xs := cs.map V.int) (fun j H' => Same (upd H q (.lst (cs.map V.int))) H' ∧ H' D = some (.lst (((cs.take j).filter fun o => decide ((10 : Int) ^ 18 ≤ o)).map V.int))) ⟨Same.up hD, upd_same⟩ (fun j H' _ z => Same.seq z.1 (SqL.of upd_same)) ?_ ?_
      · rintro j y H' hy ⟨s2, e2⟩
        obtain ⟨o, ho, rfl⟩ := row_at hy
        refine ⟨rfl, _, rfl, _, _, rfl, rfl, ⟨by decide, by decide, by decide⟩, _, _, rfl, rfl, _, rfl, ?_⟩
        show if (decide ((10 : Int) ^ (18 : Int).toNat ≤ o)) = true then _ else _
        have et : ((cs.take (j + 1)).filter fun o => decide ((10 : Int) ^ 18 ≤ o)) = ((cs.take j).filter fun o => decide ((10 : Int) ^ 18 ≤ o)) ++ (if decide ((10 : Int) ^ (18 : Int).toNat ≤ o) = true then [o] else []) := by
          rw [take_snoc ho, List.filter_append, List.filter_cons, List.filter_nil] <;> rfl
        refine iteB (fun c => ?_) (fun c => ?_)
        · refine ⟨_, rfl, _, e2, szlt (by rw [List.length_map]; have := cells_all (cs.take j) fun o => decide ((10 : Int) ^ 18 ≤ o); rw [List.length_take] at this; omega), Same.mut s2 hD, ?_⟩
          rw [et, if_pos c, List.map_append]
          exact upd_same
        · refine ⟨s2, ?_⟩
          rw [et, c, if_neg (by decide), List.append_nil]
          exact e2
      · rintro H' ⟨s2, e2⟩
        refine ⟨_, rfl, (by show 4 ≤ sizeLine; decide), fun b nb => ?_⟩
        have s3 := Same.trans s1 s2
        refine k b D _ ⟨_, 0, v, 0, upd_same, by rw [upd_ne (ne_of_none e2 nb)]; exact e2, ?_, b1, b2, Int.le_refl _, Int.le_refl _, ne_of_none e2 nb⟩ (Same.new s3 nb) (Same.free s3 nb) (Same.free s1 hD)
        have := cells_all (cs.take (cs.map V.int).length) fun o => decide ((10 : Int) ^ 18 ≤ o)
        rw [List.length_take] at this
        omega
theorem sc__law_draw : FnScope ["_law_box_here", "_law_many", "_law_cell", "_law_rest"] ["_law_box_here", "_law_many"] (defScope (top 62)) := ⟨rfl, rfl, rfl, by decide +kernel, rfl, by decide +kernel, by decide +kernel⟩
theorem ok__law_draw (Z : Tx P w K mg base) : Pr P w K mg base 1 "_law_draw" sp_draw := by
  refine Z.pr0 45 30 (d := d__law_draw) rfl rfl rfl rfl rfl sc__law_draw (fun vs H Q E h => ?_) (fun _ _ _ _ _ _ us hl => match us, hl with | [_, _], _ => rfl) (fun f cdv A outer s H vs Q E hr h => ?_)
  · obtain ⟨b, q, N, m, rfl, _⟩ := h
    rfl
  · obtain ⟨b, q, N, m, rfl, B, m1, m2, hN, k⟩ := h
    refine ⟨_, (pss_cons (ps_if (pt_truth (pe_ix ix_list (pv 0) pe_int (fun _ _ => rfl)) (by intro _; rfl)) (pss_cons (ps_set (i := 2) sc__law_draw.nd rfl (Or.inl rfl) (pe_ix ix_list (pe_ix ix_list (pv 0) pe_int (fun _ _ => rfl)) pe_int (fun _ _ => rfl))) (pss_cons (ps_set (i := 3) sc__law_draw.nd rfl (Or.inl rfl) (pe_op op_fdivW (pv 2) (pv 1))) (pss_cons (ps_asg (pe_op op_add (pe_ix ix_list (pv 0) pe_int (fun _ _ => rfl)) pe_int) (pg_sub (pv 0) pe_int set_list)) (Evl.pss_cut (ps_if (PW.pt (pw_or (pt_cmpR op_eq (pv 3) pe_int (nomark _)) (pw_or1 (pt_cmpR op_eq (pe_ix ix_list (pv 0) pe_int (fun _ _ => rfl)) pe_int (nomark _))))) (pss_cons (ps_asg (pe_slice sl_list (pe_ix ix_list (pv 0) pe_int (fun _ _ => rfl)) (po_some pe_int) po_none) (pg_sub (pv 0) pe_int set_list)) (pss_one (ps_asg pe_int (pg_sub (pv 0) pe_int set_list)))) (pss_one (ps_asg (pe_op op_cat (pe_lst (pa_cons (pv 3) pa_nil)) (pe_slice sl_list (pe_ix ix_list (pv 0) pe_int (fun _ _ => rfl)) (po_some pe_int) po_none)) (pg_sub (pv 0) pe_int set_list)))) (pss_one (ps_ret (pe_op op_mod (pe_callTy call_int1 (by rfl) (Z.free 65) (by decide +kernel) (pa_cons (pv 2) pa_nil)) (pv 1)))))))) pss_nil) (pss_cons (ps_asg (pe_op op_add (pe_ix ix_list (pv 0) pe_int (fun _ _ => rfl)) pe_int) (pg_sub (pv 0) pe_int set_list)) (pss_cons (ps_asg (pe_op op_mod (pe_callTy call_int1 (by rfl) (Z.free 65) (by decide +kernel) (pa_cons (pe_op op_add (pe_op op_add (pe_op op_mul (pe_ix ix_list (pv 0) pe_int (fun _ _ => rfl)) pe_int) (pe_op op_mul (pe_ix ix_list (pv 0) pe_int (fun _ _ => rfl)) pe_int)) pe_int) pa_nil)) pe_int) (pg_sub (pv 0) pe_int set_list)) (pss_one (ps_ret (pe_op op_mod (pe_op op_fdivW (pe_op op_mod (pe_callTy call_int1 (by rfl) (Z.free 65) (by decide +kernel) (pa_cons (pe_op op_add (pe_op op_mul (pe_op op_fdivW (pe_ix ix_list (pv 0) pe_int (fun _ _ => rfl)) pe_int) pe_int) (pe_op op_mul (pe_ix ix_list (pv 0) pe_int (fun _ _ => rfl)) (pe_ix ix_list (pv 0) pe_int (fun _ _ => rfl)))) pa_nil)) pe_int) pe_int) (pv 1))))))), ?_⟩
    obtain ⟨cs, u, v, c, hb, hq, hlen, v1, v2, c1, c2, qb⟩ := B.ex
    have done : ∀ r : Int, 0 ≤ r % m ∧ r % m < m := fun r => ⟨Int.emod_nonneg _ (by omega), Int.emod_lt_of_pos _ (by omega)⟩
    refine ⟨_, rfl, _, _, _, _, rfl, rfl, SqL.of hb, at4_0, _, Or.inl ⟨_, SqL.of hq, rfl⟩, ?_⟩
    cases cs with
    | nil =>
      have hx : ∀ x y z u' : V, ixN [x, y, z, u'].length 3 = some 3 := fun _ _ _ _ => rfl
      have hx2 : ∀ x y z u' : V, ixN [x, y, z, u'].length 2 = some 2 := fun _ _ _ _ => rfl
      refine ⟨_, rfl, _, _, _, _, rfl, rfl, SqL.of hb, at4_3, _, _, rfl, rfl, _, rfl, _, _, _, _, rfl, rfl, hb, hx _ _ _ _, ?_⟩
      dsimp only [List.set]
      refine ⟨_, rfl, _, _, _, _, rfl, rfl, SqL.of upd_same, at4_2, _, _, rfl, rfl, mul_r (by decide) (by decide), _, rfl, _, _, _, _, rfl, rfl, SqL.of upd_same, at4_3, _, _, rfl, rfl, mul_r (by decide) (by decide), _, _, rfl, rfl, _, _, rfl, rfl, Or.inl ⟨_, rfl, _, _, rfl, rfl, (by show (0 : Int) < _; decide), _, rfl, _, _, _, _, rfl, rfl, upd_same, hx2 _ _ _ _, ?_⟩⟩
      dsimp only [List.set]
      have w1 := Int.emod_nonneg (v * 48271 + (c + 1) * 9973 + 1) (show (2147483647 : Int) ≠ 0 by decide)
      have w2 := Int.emod_lt_of_pos (v * 48271 + (c + 1) * 9973 + 1) (show (0 : Int) < 2147483647 by decide)
      generalize (v * 48271 + (c + 1) * 9973 + 1) % 2147483647 = v' at w1 w2 ⊢
      have hb' : upd (upd H b (.lst [.ref q, .int u, .int v, .int (c + 1)])) b (.lst [.ref q, .int u, .int v', .int (c + 1)]) b = some (.lst [.ref q, .int u, .int v', .int (c + 1)]) := upd_same
      have kb : KeepB b H (upd (upd H b (.lst [.ref q, .int u, .int v, .int (c + 1)])) b (.lst [.ref q, .int u, .int v', .int (c + 1)])) := KeepB.up (KeepB.up (Same.keepB (Same.refl H)))
      refine ⟨_, rfl, _, _, _, _, rfl, rfl, SqL.of hb', at4_2, _, _, rfl, rfl, div_ok _ (by decide) (by decide), _, _, rfl, rfl, mul_r (by decide) (by decide), _, rfl, _, _, _, _, rfl, rfl, SqL.of hb', at4_3, _, rfl, _, _, _, _, rfl, rfl, SqL.of hb', at4_3, _, _, rfl, rfl, mul_r (by omega) (by omega), _, _, rfl, rfl, Or.inl ⟨_, rfl, _, _, rfl, rfl, (by show (0 : Int) < _; decide), _, _, rfl, rfl, div_ok _ (by decide) (by decide), _, rfl, _, _, rfl, rfl, (by show (0 : Int) < _; omega), ?_⟩⟩
      refine k _ q _ (done _).1 (done _).2 ⟨[], u, v', c + 1, hb', ?_, by decide, w1, by omega, by omega, by omega, qb⟩ kb (.inl rfl)
      exact kb _ _ hq qb
    | cons o r =>
      refine ⟨_, rfl, _, _, _, _, rfl, rfl, SqL.of hb, at4_0, _, _, _, _, rfl, rfl, SqL.of hq, atc o r, ?_⟩
      refine ⟨_, rfl, _, rfl, _, _, rfl, rfl, div_ok _ m1 m2, ?_⟩
      have hx1 : ∀ x y z u' : V, ixN [x, y, z, u'].length 1 = some 1 := fun _ _ _ _ => rfl
      have hx0 : ∀ x y z u' : V, ixN [x, y, z, u'].length 0 = some 0 := fun _ _ _ _ => rfl
      refine ⟨_, rfl, _, _, _, _, rfl, rfl, SqL.of hb, at4_1, _, _, rfl, rfl, _, rfl, _, _, _, _, rfl, rfl, hb, hx1 _ _ _ _, ?_⟩
      dsimp only [List.set]
      refine ⟨fun σ' H' => σ' = [some (.ref b), some (.int m), some (.int o), some (.int (o / m))] ∧ KeepB b H H' ∧ ∃ (q' : Addr) (cs' : List Int) (u' : Int), H' b = some (.lst [.ref q', .int u', .int v, .int c]) ∧ H' q' = some (.lst (cs'.map V.int)) ∧ cs'.length ≤ 63 ∧ q' ≠ b ∧ CN H q q', ?_, ?_⟩
      · have kb : KeepB b H (upd H b (.lst [.ref q, .int (u + 1), .int v, .int c])) := KeepB.up (Same.keepB (Same.refl H))
        have hq1 := kb _ _ hq qb
        have cutr : cutV ((o :: r).map V.int) (some 1) none = r.map V.int := by
          rw [show (some (1 : Int)) = some ((1 : Nat) : Int) from rfl, cutV_from] <;> rfl
        have hr1 : r.length ≤ 62 := by
          rw [List.length_cons] at hlen
          omega
        refine ⟨_, rfl, rfl, _, rfl, ?_⟩
        show if (decide (V.int (o / m) = V.int 0)) = true then _ else _
        refine iteB (fun z1 => ?_) (fun z1 => ?_)
        · refine iteK (c := true) rfl ?_
          refine ⟨_, rfl, _, _, _, _, rfl, rfl, SqL.of upd_same, at4_0, _, rfl, _, _, rfl, SqL.of hq1, fun q' nq => ?_⟩
          rw [cutr]
          have q'b : q' ≠ b := upd_away nq
          refine ⟨_, rfl, _, _, _, _, rfl, rfl, (by rw [upd_ne q'b.symm]; exact upd_same), hx0 _ _ _ _, ?_⟩
          dsimp only [List.set]
          refine ⟨_, rfl, _, _, _, _, rfl, rfl, upd_same, hx1 _ _ _ _, ?_⟩
          dsimp only [List.set]
          refine ⟨rfl, KeepB.up (KeepB.up (KeepB.new kb nq)), q', r, 0, upd_same, ?_, by omega, q'b, .inr (upd_free nq)⟩
          rw [upd_ne q'b, upd_ne q'b, upd_same]
        · refine ⟨_, rfl, _, _, _, _, rfl, rfl, SqL.of upd_same, at4_1, rfl, _, rfl, ?_⟩
          show if (decide (V.int (u + 1) = V.int 60)) = true then _ else _
          refine iteB (fun z2 => ?_) (fun z2 => ?_)
          · show tSeq _ _ _ _ _
            refine ⟨_, rfl, _, _, _, _, rfl, rfl, SqL.of upd_same, at4_0, _, rfl, _, _, rfl, SqL.of hq1, fun q' nq => ?_⟩
            rw [cutr]
            have q'b : q' ≠ b := upd_away nq
            refine ⟨_, rfl, _, _, _, _, rfl, rfl, (by rw [upd_ne q'b.symm]; exact upd_same), hx0 _ _ _ _, ?_⟩
            dsimp only [List.set]
            refine ⟨_, rfl, _, _, _, _, rfl, rfl, upd_same, hx1 _ _ _ _, ?_⟩
            dsimp only [List.set]
            refine ⟨rfl, KeepB.up (KeepB.up (KeepB.new kb nq)), q', r, 0, upd_same, ?_, by omega, q'b, .inr (upd_free nq)⟩
            rw [upd_ne q'b, upd_ne q'b, upd_same]
          · refine ⟨_, rfl, (by show 1 ≤ sizeLine; decide), fun p np => ?_⟩
            have pb : p ≠ b := upd_away np
            have kb2 := KeepB.new (o := .lst [.int (o / m)]) kb np
            refine ⟨_, rfl, _, _, _, _, rfl, rfl, SqL.of (by rw [upd_ne pb.symm]; exact upd_same), at4_0, _, rfl, _, _, rfl, SqL.of (kb2 _ _ hq qb), fun q' nq => ?_⟩
            rw [cutr]
            have q'b : q' ≠ b := upd_away (upd_free nq)
            have q'p : q' ≠ p := upd_away nq
            have kb3 := KeepB.new (o := .lst (r.map V.int)) kb2 nq
            refine ⟨p, q', _, _, rfl, rfl, (by rw [upd_ne q'p.symm]; exact upd_same), upd_same, (by rw [List.length_map]; exact sz60 (by show 1 + r.length ≤ _; omega)), fun l nl => ?_⟩
            have lb : l ≠ b := upd_away (upd_free (upd_free nl))
            refine ⟨_, rfl, _, _, _, _, rfl, rfl, (by rw [upd_ne lb.symm, upd_ne q'b.symm, upd_ne pb.symm]; exact upd_same), hx0 _ _ _ _, ?_⟩
            dsimp only [List.set]
            refine ⟨rfl, KeepB.up (KeepB.new kb3 nl), l, (o / m) :: r, u + 1, upd_same, ?_, by rw [List.length_cons]; omega, lb, .inr (upd_free (upd_free (upd_free nl)))⟩
            rw [upd_ne lb, upd_same] <;> rfl
      · rintro σ' H' ⟨rfl, kb, q', cs', u', e1, e2, e3, e4, e5⟩
        refine ⟨_, rfl, Or.inl ⟨_, rfl, _, rfl, _, _, rfl, rfl, (by show (0 : Int) < _; omega), k _ q' H' (done o).1 (done o).2 ⟨cs', u', v, c, e1, e2, e3, v1, v2, c1, by omega, e4⟩ kb e5⟩⟩
end
end LL
namespace LL
open PySem PySem.Spec PyProof.Rows L2
/-! ### rows near the repair, judged -/
theorem box_ints {H : Hp} {b q p : Addr} {N : Nat} {xs : List Int} (B : BoxAt H b q N) (h : H p = some (.lst (xs.map V.int))) : p ≠ b := by
  obtain ⟨cs, u, v, c, h1, _⟩ := B.ex
  refine ne_of h h1 fun z => ?_
  injection z with z
  cases xs with
  | nil => cases z
  | cons x r => cases z
theorem box_bools {H : Hp} {b q p : Addr} {N : Nat} {xs : List Bool} (B : BoxAt H b q N) (h : H p = some (.lst (xs.map V.bl))) : p ≠ b := by
  obtain ⟨cs, u, v, c, h1, _⟩ := B.ex
  refine ne_of h h1 fun z => ?_
  injection z with z
  cases xs with
  | nil => cases z
  | cons x r => cases z
theorem box_refs {H : Hp} {b q p : Addr} {N : Nat} {xs : List Addr} (B : BoxAt H b q N) (h : H p = some (.lst (xs.map V.ref))) : p ≠ b := by
  obtain ⟨cs, u, v, c, h1, _⟩ := B.ex
  refine ne_of h h1 fun z => ?_
  injection z with z
  match xs, z with
  | [], z => cases z
  | [_], z => cases z
  | _ :: _ :: _, z => cases z
theorem LinksAt.keepB {C : Addr} {H H' : Hp} {a : LA} {S : Sd} {b q : Addr} {N : Nat} (B : BoxAt H b q N) (L : LinksAt C H a S) (k : KeepB b H H') : LinksAt C H' a S := by
  have hb := B.ex
  obtain ⟨cs, u, v, c, h1, _⟩ := hb
  refine ⟨k _ _ L.ob (ne_of L.ob h1 (by intro z; cases z)), k _ _ L.hl (box_ints (xs := iL S) B (by rw [← vl_i]; exact L.hl)), k _ _ L.hr (box_ints (xs := iR S) B (by rw [← vr_i]; exact L.hr)), k _ _ L.hf (box_bools (xs := iF S) B (by rw [← vf_i]; exact L.hf)), L.lr, L.lf, L.rf⟩
theorem StAt.keepB {H H' : Hp} {a : LA} {S : Sd} {b q : Addr} {N : Nat} (B : BoxAt H b q N) (L : StAt H a S) (k : KeepB b H H') : StAt H' a S := by
  refine ⟨k _ _ L.ob (box_refs (xs := [a.r, a.l, a.f]) B L.ob), k _ _ L.hr (box_ints (xs := iQ S) B (by rw [← vq_i]; exact L.hr)), k _ _ L.hl (box_ints (xs := iL S) B (by rw [← vl_i]; exact L.hl)), k _ _ L.hf (box_bools (xs := iF S) B (by rw [← vf_i]; exact L.hf)), L.lr, L.lf, L.rf, L.pr, L.pl, L.pf⟩
theorem cut_ints (xs : List Int) (lo hi : Option Int) : ∃ ys : List Int, ys.length ≤ xs.length ∧ cutV (xs.map V.int) lo hi = ys.map V.int := by
  refine ⟨(xs.drop (HT.sIx (xs.map V.int).length 0 lo)).take (HT.sIx (xs.map V.int).length (xs.map V.int).length hi - HT.sIx (xs.map V.int).length 0 lo), ?_, ?_⟩
  · rw [List.length_take, List.length_drop]
    omega
  · unfold cutV
    rw [← List.map_drop, ← List.map_take]
/-- rows of numbers, in a list -/
structure RowsAt (H : Hp) (q : Addr) (ps : List Addr) : Prop where
  hq : H q = some (.lst (ps.map V.ref))
  hp : ∀ p ∈ ps, ∃ row : List Int, H p = some (.lst (row.map V.int))
  ln : ps.length ≤ 20
theorem RowsAt.same {H H' : Hp} {q : Addr} {ps : List Addr} (R : RowsAt H q ps) (s : Same H H') : RowsAt H' q ps := ⟨s _ _ R.hq, fun p hp => (R.hp p hp).imp fun row h => s _ _ h, R.ln⟩
theorem RowsAt.ne {H : Hp} {q p : Addr} {ps : List Addr} (R : RowsAt H q ps) (hp : p ∈ ps) : p ≠ q := by
  obtain ⟨row, h⟩ := R.hp p hp
  refine ne_of h R.hq fun z => ?_
  injection z with z
  cases ps with
  | nil => cases hp
  | cons x r =>
    cases row with
    | nil => cases z
    | cons y t => cases z
theorem RowsAt.snoc {H : Hp} {q x : Addr} {ps : List Addr} {row : List Int} (R : RowsAt H q ps) (h : H x = some (.lst (row.map V.int))) (n : x ≠ q) (l : ps.length < 20) : RowsAt (upd H q (.lst (ps.map V.ref ++ [.ref x]))) q (ps ++ [x]) := by
  refine ⟨by rw [upd_same, List.map_append] <;> rfl, fun p hp => ?_, by rw [List.length_append]; show ps.length + 1 ≤ 20; omega⟩
  rcases List.mem_append.mp hp with hp | hp
  · rw [upd_ne (R.ne hp)]
    exact R.hp p hp
  · rw [List.mem_singleton.mp hp, upd_ne n]
    exact ⟨row, h⟩
theorem RowsAt.keepB {H H' : Hp} {q b c : Addr} {N : Nat} {ps : List Addr} (B : BoxAt H b c N) (R : RowsAt H q ps) (k : KeepB b H H') : RowsAt H' q ps :=
  ⟨k _ _ R.hq (box_refs B R.hq), fun p hp => (R.hp p hp).imp fun row h => k _ _ h (box_ints B h), R.ln⟩
def sp_judged (K : PySem.W.Frag) (C : Addr) : Sp := fun vs H Q _ => ∃ (a s : LA) (S : Sd) (i : Int) (p : Addr) (row : List Int), vs = [.ref a.p, .ref s.p, .int i, .ref p] ∧ i = (debt S : Int) ∧ LinksAt C H a S ∧ StAt H s S ∧ WF S ∧ S.n ≤ 60 ∧ SqL K H p (row.map V.int) ∧ RetS (.bl true) H Q
def sp_near (C : Addr) : Sp := fun vs H Q _ => ∃ (b q : Addr) (N : Nat) (a s : LA) (S : Sd) (p : Addr) (due : List Int), vs = [.ref b, .ref a.p, .ref s.p, .ref p] ∧ BoxAt H b q N ∧ N ≤ 500000 ∧ LinksAt C H a S ∧ StAt H s S ∧ WF S ∧ S.n ≤ 60 ∧ H p = some (.lst (due.map V.int)) ∧ due.length = debt S ∧
  ∀ (q' : Addr) (H' : Hp), BoxAt H' b q' (N + 2) → KeepB b H H' → CN H q q' → Q (.bl true) H'
/-- the rows while they are laid -/
structure Nr (H0 : Hp) (b q0 rq : Addr) (N k : Nat) (H : Hp) : Prop where
  ex : ∃ (ps : List Addr) (q : Addr), RowsAt H rq ps ∧ ps.length ≤ k ∧ BoxAt H b q N ∧ CN H0 q0 q ∧ rq ≠ q
  kb : KeepB b H0 H
  n0 : H0 rq = none
theorem Nr.same {H0 H H' : Hp} {b q0 rq : Addr} {N k : Nat} (R : Nr H0 b q0 rq N k H) (s : Same H H') : Nr H0 b q0 rq N k H' := by
  obtain ⟨ps, q, h1, h2, h3, h4, h5⟩ := R.ex
  exact ⟨⟨ps, q, h1.same s, h2, h3.same s, h4, h5⟩, KeepB.trans R.kb (Same.keepB s), R.n0⟩
theorem Nr.get {H0 H : Hp} {b q0 rq : Addr} {N k : Nat} (R : Nr H0 b q0 rq N k H) : ∃ acc : List V, H rq = some (.lst acc) ∧ acc.length ≤ k := by
  obtain ⟨ps, q, h1, h2, h3, h4, h5⟩ := R.ex
  exact ⟨_, h1.hq, by rw [List.length_map]; exact h2⟩
theorem Nr.app {H0 H : Hp} {b q0 rq x : Addr} {N k : Nat} {acc : List V} {row : List Int} (R : Nr H0 b q0 rq N k H) (ha : H rq = some (.lst acc)) (hx : H x = some (.lst (row.map V.int))) (n : x ≠ rq) (l : k < 20) : Nr H0 b q0 rq N (k + 1) (upd H rq (.lst (acc ++ [.ref x]))) := by
  obtain ⟨ps, q, h1, h2, h3, h4, h5⟩ := R.ex
  rw [h1.hq] at ha
  cases ha
  exact ⟨⟨ps ++ [x], q, h1.snoc hx n (by omega), by rw [List.length_append]; show ps.length + 1 ≤ _; omega, h3.past (box_refs h3 h1.hq) h5, h4, h5⟩, KeepB.past R.kb R.n0, R.n0⟩
theorem Nr.due {H0 H : Hp} {b q0 rq p : Addr} {N N0 k : Nat} {due : List Int} (R : Nr H0 b q0 rq N k H) (B : BoxAt H0 b q0 N0) (hp : H0 p = some (.lst (due.map V.int))) : H p = some (.lst (due.map V.int)) := R.kb _ _ hp (box_ints B hp)
section
variable {P : Program} {w : World} {K : PySem.W.Frag} {mg : Str → Option Value} {base : Heap}
theorem sc__law_judged : FnScope ["_law_links", "_law_state", "_law_debt_here", "_law_row", "_law_leads_here"] ["_law_links", "_law_state", "_law_debt_here", "_law_row"] (defScope (top 79)) := ⟨rfl, rfl, rfl, by decide +kernel, rfl, by decide +kernel, by decide +kernel⟩
theorem ok__law_judged (Z : Tx P w K mg base) : Pr P w K mg base 9 "_law_judged" (sp_judged K (He.ga K "Links")) := by
  refine Z.pr0 62 47 (d := d__law_judged) rfl rfl rfl rfl rfl sc__law_judged (fun vs H Q E h => ?_) (fun _ _ _ _ _ _ us hl => match us, hl with | [_, _, _, _], _ => rfl) (fun f cdv A outer s H vs Q E hr h => ?_)
  · obtain ⟨a, t, S, i, p, row, rfl, _⟩ := h
    rfl
  · obtain ⟨a, t, S, i, p, row, rfl, rfl, L, T, wf, hn, hS, k⟩ := h
    refine ⟨_, (pss_cons (ps_set (i := 4) sc__law_judged.nd rfl (Or.inl rfl) (pc (ok__law_leads Z) hr (pa_cons (pv 1) (pa_cons (pv 3) pa_nil)))) (pss_cons (ps_if (pt_not (pt_val (pc (ok__law_same Z 3) hr (pa_cons (pc (ok_is_repair Z) hr (pa_cons (pv 0) (pa_cons (pe_callTy call_list_of (by rfl) (Z.free 63) (by decide +kernel) (pa_cons (pv 3) pa_nil)) pa_nil))) (pa_cons (pv 4) pa_nil))))) (pss_one (ps_ret pe_bl)) pss_nil) (pss_one (ps_ret (pc (ok__law_same Z 3) hr (pa_cons (pc (ok_is_least_repair Z) hr (pa_cons (pv 0) (pa_cons (pe_callTy call_list_of (by rfl) (Z.free 63) (by decide +kernel) (pa_cons (pv 3) pa_nil)) pa_nil))) (pa_cons (pe_and (pv 4) (pe_one (pe_cmpR op_eq (pe_callB call_len_seq (by rfl) (Z.free 60) PySem.boot_len (pa_cons (pv 3) pa_nil)) (pv 2) (nomark _)))) pa_nil))))))), ?_⟩
    refine ⟨_, rfl, _, rfl, t, S, p, row, rfl, T, wf, hn, hS, fun H1 s1 => ?_⟩
    refine ⟨_, rfl, _, rfl, _, _, rfl, Or.inl (Same.seq s1 hS), fun x nx => ?_⟩
    have s2 : Same H (upd H1 x (.lst (row.map V.int))) := Same.new s1 nx
    refine ⟨a, S, x, row, rfl, L.same s2, wf, hn, SqL.of upd_same, fun H3 s3 => ⟨_, rfl, _, _, .bool (leads S row), rfl, .bl _, .bl _, sz_bl, _, rfl, ?_⟩⟩
    have s4 := Same.trans s2 s3
    refine iteN rfl ?_
    refine ⟨_, rfl, _, rfl, _, _, rfl, Or.inl (Same.seq s4 hS), fun y ny => ?_⟩
    have s5 : Same H (upd H3 y (.lst (row.map V.int))) := Same.new s4 ny
    refine ⟨a, S, y, row, rfl, L.same s5, wf, hn, SqL.of upd_same, fun H6 s6 => ⟨_, rfl, _, rfl, ?_⟩⟩
    have s7 := Same.trans s5 s6
    refine iteB (fun c => ?_) (fun c => ?_)
    · refine ⟨_, rfl, _, _, rfl, Or.inl (Same.seq s7 hS), _, rfl, rfl, _, _, .bool (leads S row && decide (row.length = debt S)), rfl, .bl _, ?_, sz_bl, k _ s7⟩
      rw [List.length_map, c, Bool.true_and]
      show Dp K H6 (.bl (decide (V.int (row.length : Int) = V.int (debt S : Int)))) _
      rw [dec_int_nat]
      exact .bl _
    · refine ⟨_, _, .bool (leads S row && decide (row.length = debt S)), rfl, .bl _, ?_, sz_bl, k _ s7⟩
      rw [c, Bool.false_and]
      exact .bl false
theorem sc__law_neighbours : FnScope ["_law_box_here", "_law_links", "_law_state", "_law_due_here", "_law_debt_here", "_law_many", "_law_rows", "_law_at", "_law_node", "_law_row"] ["_law_box_here", "_law_links", "_law_state", "_law_due_here"] (defScope (top 80)) := ⟨rfl, rfl, rfl, by decide +kernel, rfl, by decide +kernel, by decide +kernel⟩
theorem ok__law_neighbours (Z : Tx P w K mg base) : Pr P w K mg base 10 "_law_neighbours" (sp_near (He.ga K "Links")) := by
  refine Z.pr0 63 48 (d := d__law_neighbours) rfl rfl rfl rfl rfl sc__law_neighbours (fun vs H Q E h => ?_) (fun _ _ _ _ _ _ us hl => match us, hl with | [_, _, _, _], _ => rfl) (fun f cdv A outer s H vs Q E hr h => ?_)
  · obtain ⟨b, q, N, a, t, S, p, due, rfl, _⟩ := h
    rfl
  · obtain ⟨b, q0, N, a, t, S, p, due, rfl, B, hN, L, T, wf, hn, hp, hlen, k⟩ := h
    refine ⟨_, (pss_cons (ps_set (i := 4) sc__law_neighbours.nd rfl (Or.inl rfl) (pe_callB call_len_seq (by rfl) (Z.free 60) PySem.boot_len (pa_cons (pv 3) pa_nil))) (pss_cons (ps_set (i := 5) sc__law_neighbours.nd rfl (Or.inl rfl) (pe_op op_sub (pe_callB call_len_seq (by rfl) (Z.free 60) PySem.boot_len (pa_cons (pe_ix ix_list (pv 2) pe_int (fun _ _ => rfl)) pa_nil)) pe_int)) (pss_cons (ps_set (i := 6) sc__law_neighbours.nd rfl (Or.inl rfl) (pe_lst (pa_cons (pe_callTy call_list_of (by rfl) (Z.free 63) (by decide +kernel) (pa_cons (pv 3) pa_nil)) (pa_cons (pe_op op_cat (pv 3) (pe_slice sl_list (pv 3) (po_some (pe_un un_neg pe_int)) po_none)) pa_nil)))) (Evl.pss_cut (ps_if (pt_truth (pv 3) (by intro _; rfl)) (pss_cons (ps_set (i := 7) sc__law_neighbours.nd rfl (Or.inl rfl) (pc (ok__law_draw Z) hr (pa_cons (pv 0) (pa_cons (pv 4) pa_nil)))) (pss_cons (ps_expr (pe_bm PySem.F.plainAttrs_list PySem.F.slot_list_append PySem.F.type_list_append mt_append (pv 6) (pa_cons (pe_op op_cat (pe_slice sl_list (pv 3) po_none (po_some (pv 7))) (pe_slice sl_list (pv 3) (po_some (pe_op op_add (pv 7) pe_int)) po_none)) pa_nil))) (pss_cons (ps_expr (pe_bm PySem.F.plainAttrs_list PySem.F.slot_list_append PySem.F.type_list_append mt_append (pv 6) (pa_cons (pe_op op_cat (pe_op op_cat (pe_slice sl_list (pv 3) po_none (po_some (pv 7))) (pe_revL (pe_slice sl_list (pv 3) (po_some (pv 7)) (po_some (pe_op op_add (pv 7) pe_int))))) (pe_slice sl_list (pv 3) (po_some (pe_op op_add (pv 7) pe_int)) po_none)) pa_nil))) (pss_one (ps_expr (pe_bm PySem.F.plainAttrs_list PySem.F.slot_list_append PySem.F.type_list_append mt_append (pv 6) (pa_cons (pe_op op_cat (pe_op op_cat (pe_slice sl_list (pv 3) po_none (po_some (pv 7))) (pe_lst (pa_cons (pe_un un_neg (pe_ix ix_list (pv 3) (pv 7) (fun _ _ => rfl))) pa_nil))) (pe_slice sl_list (pv 3) (po_some (pe_op op_add (pv 7) pe_int)) po_none)) pa_nil))))))) pss_nil) (Evl.pss_cut (ps_if (pt_cmpR op_gt (pv 5) pe_int (nomark _)) (pss_cons (ps_set (i := 8) sc__law_neighbours.nd rfl (Or.inl rfl) (pe_op op_add pe_int (pc (ok__law_draw Z) hr (pa_cons (pv 0) (pa_cons (pv 5) pa_nil))))) (pss_cons (ps_expr (pe_bm PySem.F.plainAttrs_list PySem.F.slot_list_append PySem.F.type_list_append mt_append (pv 6) (pa_cons (pe_op op_cat (pv 3) (pe_lst (pa_cons (pe_un un_neg (pv 8)) (pa_cons (pv 8) pa_nil)))) pa_nil))) (pss_cons (ps_expr (pe_bm PySem.F.plainAttrs_list PySem.F.slot_list_append PySem.F.type_list_append mt_append (pv 6) (pa_cons (pe_op op_cat (pv 3) (pe_lst (pa_cons (pe_un un_neg (pv 8)) pa_nil))) pa_nil))) (pss_cons (ps_expr (pe_bm PySem.F.plainAttrs_list PySem.F.slot_list_append PySem.F.type_list_append mt_append (pv 6) (pa_cons (pe_op op_cat (pv 3) (pe_lst (pa_cons (pv 8) pa_nil))) pa_nil))) (pss_one (ps_expr (pe_bm PySem.F.plainAttrs_list PySem.F.slot_list_append PySem.F.type_list_append mt_append (pv 6) (pa_cons (pe_op op_cat (pe_lst (pa_cons (pv 8) (pa_cons (pe_un un_neg (pv 8)) pa_nil))) (pv 3)) pa_nil)))))))) pss_nil) (pss_cons (ps_for PassesOwn.never rfl (pi_list (pv 6)) (pg_name (i := 9) sc__law_neighbours.nd rfl (Or.inl rfl)) (pss_one (ps_if (pt_not (pt_val (pc (ok__law_judged Z) hr (pa_cons (pv 1) (pa_cons (pv 2) (pa_cons (pv 4) (pa_cons (pv 9) pa_nil))))))) (pss_one (ps_ret pe_bl)) pss_nil))) (pss_one (ps_ret pe_bl)))))))), ?_⟩
    have hd := debt_le S
    have hq := vq_len S
    refine ⟨_, rfl, _, _, rfl, Or.inl (SqL.of hp), ?_⟩
    refine ⟨_, rfl, _, _, _, _, rfl, rfl, SqL.of T.ob, at3_0, t.r, _, rfl, Or.inl (SqL.of T.hr), _, _, rfl, rfl, ?_⟩
    refine ⟨_, rfl, _, _, rfl, Or.inl (SqL.of hp), fun x1 n1 => ?_⟩
    have s1 : Same H (upd H x1 (.lst (due.map V.int))) := Same.up n1
    refine ⟨_, rfl, _, rfl, _, rfl, _, rfl, _, _, rfl, SqL.of (s1 _ _ hp), fun x2 n2 => ?_⟩
    obtain ⟨y2, l2, e2⟩ := cut_ints due (some (-1)) none
    rw [e2]
    have s2 : Same H (upd (upd H x1 (.lst (due.map V.int))) x2 (.lst (y2.map V.int))) := Same.new s1 n2
    have cz : ∀ {u v : List Int}, u.length ≤ 1000 → v.length ≤ 1000 → (u.map V.int).length + (v.map V.int).length ≤ sizeLine := fun hu hv => by
      rw [List.length_map, List.length_map]
      exact sz60 (by omega)
    have dl : due.length ≤ 120 := by omega
    refine ⟨_, _, _, _, rfl, rfl, s2 _ _ hp, upd_same, cz (by omega) (by omega), fun x3 n3 => ?_⟩
    have s3 := Same.new (o := .lst (due.map V.int ++ y2.map V.int)) s2 n3
    refine ⟨(by show 2 ≤ sizeLine; decide), fun rq nr => ?_⟩
    have s4 := Same.new (o := .lst [.ref x1, .ref x3]) s3 nr
    have x1r : x1 ≠ rq := (upd_away (upd_free (upd_free nr))).symm
    have x3r : x3 ≠ rq := (upd_away nr).symm
    have x13 : x1 ≠ x3 := (upd_away (upd_free n3)).symm
    have x12 : x1 ≠ x2 := (upd_away n2).symm
    have nr0 : H rq = none := Same.free s3 nr
    have R0 : Nr H b q0 rq N 2 (upd (upd (upd (upd H x1 (.lst (due.map V.int))) x2 (.lst (y2.map V.int))) x3 (.lst (due.map V.int ++ y2.map V.int))) rq (.lst [.ref x1, .ref x3])) := by
      refine ⟨⟨[x1, x3], q0, ⟨upd_same, fun x hx => ?_, by show 2 ≤ 20; decide⟩, Nat.le_refl 2, B.same s4, .inl rfl, B.ne2 nr0⟩, Same.keepB s4, nr0⟩
      rcases List.mem_cons.mp hx with rfl | hx
      · exact ⟨due, by rw [upd_ne x1r, upd_ne x13, upd_ne x12, upd_same]⟩
      · rw [List.mem_singleton.mp hx]
        exact ⟨due ++ y2, by rw [upd_ne x3r, upd_same, List.map_append]⟩
    generalize upd (upd (upd (upd H x1 (.lst (due.map V.int))) x2 (.lst (y2.map V.int))) x3 (.lst (due.map V.int ++ y2.map V.int))) rq (.lst [.ref x1, .ref x3]) = H1 at R0 ⊢
    clear x12 x13 x3r x1r nr s4 n3 s3 s2 e2 l2 n2 s1 n1
    refine ⟨fun σ' H' => ∃ v7 : Option V, σ' = [some (.ref b), some (.ref a.p), some (.ref t.p), some (.ref p), some (.int (due.map V.int).length), some (.int (((vq S).length : Int) - 1)), some (.ref rq), v7, none, none] ∧ Nr H b q0 rq (N + 1) 5 H', ?_, ?_⟩
    · refine ⟨_, rfl, _, Or.inl ⟨_, SqL.of (R0.due B hp), rfl⟩, ?_⟩
      cases due with
      | nil =>
        obtain ⟨ps, q, h1, h2, h3, h4, h5⟩ := R0.ex
        exact ⟨none, rfl, ⟨ps, q, h1, by omega, h3.mono (by omega), h4, h5⟩, R0.kb, R0.n0⟩
      | cons o0 due0 =>
        generalize hdue : o0 :: due0 = due at hp hlen dl cz R0 ⊢
        have hpos : 1 ≤ due.length := by rw [← hdue, List.length_cons]; omega
        refine iteK (by rw [← hdue] <;> rfl) ?_
        obtain ⟨ps0, q0', r1, r2, r3, r4, r5⟩ := R0.ex
        refine ⟨_, rfl, _, rfl, b, q0', N, _, rfl, r3, by rw [List.length_map]; omega, by rw [List.length_map]; omega, by omega, fun at_ q1 H2 a1 a2 B2 k2 n2 => ?_⟩
        rw [List.length_map] at a2
        have R1 : Nr H b q0 rq (N + 1) 2 H2 := ⟨⟨ps0, q1, r1.keepB r3 k2, r2, B2, CN.trans r3 R0.kb r4 n2, n2.ne r1.hq r5⟩, KeepB.trans R0.kb k2, R0.n0⟩
        have hp1 := R1.due B hp
        clear r1 r2 r3 r4 r5 R0 k2 n2 B2
        -- one dropped
        obtain ⟨acc, ea, la⟩ := R1.get
        refine ⟨_, rfl, Or.inl ⟨rfl, _, SqL.of ea⟩, _, rfl, _, rfl, _, rfl, _, _, rfl, SqL.of hp1, fun x1 n1 => ?_⟩
        obtain ⟨y1, l1, e1⟩ := cut_ints due none (some at_)
        rw [e1]
        have s1 : Same H2 (upd H2 x1 (.lst (y1.map V.int))) := Same.up n1
        refine ⟨_, rfl, _, rfl, _, _, rfl, rfl, _, rfl, _, _, rfl, SqL.of (s1 _ _ hp1), fun x2 n2 => ?_⟩
        obtain ⟨y2, l2, e2⟩ := cut_ints due (some (at_ + 1)) none
        rw [e2]
        have s2 := Same.new (o := .lst (y2.map V.int)) s1 n2
        refine ⟨_, _, _, _, rfl, rfl, Same.up n2 _ _ upd_same, upd_same, cz (by omega) (by omega), fun x3 n3 => ?_⟩
        have s3 := Same.new (o := .lst (y1.map V.int ++ y2.map V.int)) s2 n3
        have ea3 := s3 _ _ ea
        refine ⟨_, _, _, rfl, rfl, ea3, szlt (by omega), ?_⟩
        have R2 := (R1.same s3).app (x := x3) (row := y1 ++ y2) ea3 (by rw [upd_same, List.map_append]) (ne_of_none (s2 _ _ ea) n3).symm (by decide)
        generalize upd (upd (upd (upd H2 x1 (.lst (y1.map V.int))) x2 (.lst (y2.map V.int))) x3 (.lst (y1.map V.int ++ y2.map V.int))) rq (.lst (acc ++ [.ref x3])) = H3 at R2 ⊢
        have hp2 := R2.due B hp
        clear ea3 s3 n3 s2 e2 l2 n2 s1 e1 l1 n1 ea la hp1 R1
        -- two swapped
        obtain ⟨acc, ea, la⟩ := R2.get
        refine ⟨_, rfl, Or.inl ⟨rfl, _, SqL.of ea⟩, _, rfl, _, rfl, _, rfl, _, _, rfl, SqL.of hp2, fun x1 n1 => ?_⟩
        obtain ⟨y1, l1, e1⟩ := cut_ints due none (some at_)
        rw [e1]
        have s1 : Same H3 (upd H3 x1 (.lst (y1.map V.int))) := Same.up n1
        refine ⟨_, rfl, _, rfl, _, rfl, _, rfl, _, _, rfl, rfl, _, rfl, _, _, rfl, SqL.of (s1 _ _ hp2), fun x2 n2 => ?_⟩
        obtain ⟨y2, l2, e2⟩ := cut_ints due (some at_) (some (at_ + 2))
        rw [e2]
        have s2 := Same.new (o := .lst (y2.map V.int)) s1 n2
        refine ⟨_, _, rfl, SqL.of upd_same, fun x3 n3 => ?_⟩
        rw [← List.map_reverse]
        have s3 := Same.new (o := .lst (y2.reverse.map V.int)) s2 n3
        refine ⟨_, _, _, _, rfl, rfl, Same.up n3 _ _ (Same.up n2 _ _ upd_same), upd_same, cz (by omega) (by rw [List.length_reverse]; omega), fun x4 n4 => ?_⟩
        have s4 := Same.new (o := .lst (y1.map V.int ++ y2.reverse.map V.int)) s3 n4
        refine ⟨_, rfl, _, rfl, _, _, rfl, rfl, _, rfl, _, _, rfl, SqL.of (s4 _ _ hp2), fun x5 n5 => ?_⟩
        obtain ⟨y5, l5, e5⟩ := cut_ints due (some (at_ + 2)) none
        rw [e5]
        have s5 := Same.new (o := .lst (y5.map V.int)) s4 n5
        refine ⟨_, _, _, _, rfl, rfl, Same.up n5 _ _ upd_same, upd_same, sz60 (by rw [List.length_append, List.length_map, List.length_map, List.length_map, List.length_reverse]; omega), fun x6 n6 => ?_⟩
        have s6 := Same.new (o := .lst ((y1.map V.int ++ y2.reverse.map V.int) ++ y5.map V.int)) s5 n6
        have ea6 := s6 _ _ ea
        refine ⟨_, _, _, rfl, rfl, ea6, szlt (by omega), ?_⟩
        have R3 := (R2.same s6).app (x := x6) (row := (y1 ++ y2.reverse) ++ y5) ea6 (by rw [upd_same, List.map_append, List.map_append]) (ne_of_none (s5 _ _ ea) n6).symm (by decide)
        generalize upd (upd (upd (upd (upd (upd (upd H3 x1 (.lst (y1.map V.int))) x2 (.lst (y2.map V.int))) x3 (.lst (y2.reverse.map V.int))) x4 (.lst (y1.map V.int ++ y2.reverse.map V.int))) x5 (.lst (y5.map V.int))) x6 (.lst ((y1.map V.int ++ y2.reverse.map V.int) ++ y5.map V.int))) rq (.lst (acc ++ [.ref x6])) = H4 at R3 ⊢
        have hp3 := R3.due B hp
        clear ea6 s6 n6 s5 e5 l5 n5 s4 n4 s3 n3 s2 e2 l2 n2 s1 e1 l1 n1 ea la hp2 R2
        -- one turned
        obtain ⟨acc, ea, la⟩ := R3.get
        obtain ⟨ov, hov⟩ : ∃ ov, due[at_.toNat]? = some ov := ⟨due[at_.toNat]'(by omega), List.getElem?_eq_getElem (by omega)⟩
        refine ⟨_, rfl, Or.inl ⟨rfl, _, SqL.of ea⟩, _, rfl, _, rfl, _, rfl, _, _, rfl, SqL.of hp3, fun x1 n1 => ?_⟩
        obtain ⟨y1, l1, e1⟩ := cut_ints due none (some at_)
        rw [e1]
        have s1 : Same H4 (upd H4 x1 (.lst (y1.map V.int))) := Same.up n1
        refine ⟨_, rfl, _, rfl, _, _, _, .int ov, rfl, rfl, SqL.of (s1 _ _ hp3), ?_, _, rfl, (by show 1 ≤ sizeLine; decide), fun x2 n2 => ?_⟩
        · rw [show at_ = ((at_.toNat : Nat) : Int) by omega]
          exact atI_nat (by rw [List.getElem?_map, hov] <;> rfl)
        have s2 := Same.new (o := .lst [.int (-ov)]) s1 n2
        refine ⟨_, _, _, _, rfl, rfl, Same.up n2 _ _ upd_same, upd_same, sz60 (by rw [List.length_map]; show y1.length + 1 ≤ _; omega), fun x3 n3 => ?_⟩
        have s3 := Same.new (o := .lst (y1.map V.int ++ [.int (-ov)])) s2 n3
        refine ⟨_, rfl, _, rfl, _, _, rfl, rfl, _, rfl, _, _, rfl, SqL.of (s3 _ _ hp3), fun x4 n4 => ?_⟩
        obtain ⟨y4, l4, e4⟩ := cut_ints due (some (at_ + 1)) none
        rw [e4]
        have s4 := Same.new (o := .lst (y4.map V.int)) s3 n4
        refine ⟨_, _, _, _, rfl, rfl, Same.up n4 _ _ upd_same, upd_same, sz60 (by rw [List.length_append, List.length_map, List.length_map]; show y1.length + 1 + y4.length ≤ _; omega), fun x5 n5 => ?_⟩
        have s5 := Same.new (o := .lst ((y1.map V.int ++ [.int (-ov)]) ++ y4.map V.int)) s4 n5
        have ea5 := s5 _ _ ea
        refine ⟨_, _, _, rfl, rfl, ea5, szlt (by omega), some _, rfl, ?_⟩
        exact (R3.same s5).app (x := x5) (row := (y1 ++ [-ov]) ++ y4) ea5 (by rw [upd_same, List.map_append, List.map_append] <;> rfl) (ne_of_none (s4 _ _ ea) n5).symm (by decide)
    clear R0
    rintro σ' H2 ⟨v7, rfl, R2⟩
    refine ⟨fun σ' H' => ∃ v8 : Option V, σ' = [some (.ref b), some (.ref a.p), some (.ref t.p), some (.ref p), some (.int (due.map V.int).length), some (.int (((vq S).length : Int) - 1)), some (.ref rq), v7, v8, none] ∧ Nr H b q0 rq (N + 2) 9 H', ?_, ?_⟩
    · refine ⟨_, rfl, _, _, rfl, rfl, _, rfl, iteB (fun c => ?_) (fun c => ?_)⟩
      · have c1 := of_decide_eq_true c
        obtain ⟨ps0, q0', r1, r2, r3, r4, r5⟩ := R2.ex
        refine ⟨_, rfl, _, rfl, b, q0', _, _, rfl, r3, by omega, by omega, by omega, fun nd q1 H3 a1 a2 B3 k3 n3 => ⟨_, _, rfl, rfl, ?_⟩⟩
        have R3 : Nr H b q0 rq (N + 2) 5 H3 := ⟨⟨ps0, q1, r1.keepB r3 k3, r2, B3, CN.trans r3 R2.kb r4 n3, n3.ne r1.hq r5⟩, KeepB.trans R2.kb k3, R2.n0⟩
        clear r1 r2 r3 r4 r5 R2 k3 n3 B3
        obtain ⟨acc, ea, la⟩ := R3.get
        have hp3 := R3.due B hp
        refine ⟨_, rfl, Or.inl ⟨rfl, _, SqL.of ea⟩, _, rfl, _, rfl, _, rfl, _, rfl, (by show 2 ≤ sizeLine; decide), fun x1 n1 => ?_⟩
        have s1 := Same.up (o := .lst [.int (-(1 + nd)), .int (1 + nd)]) n1
        refine ⟨_, _, _, _, rfl, rfl, s1 _ _ hp3, upd_same, sz60 (by rw [List.length_map]; show due.length + 2 ≤ _; omega), fun x2 n2 => ?_⟩
        have s2 := Same.new (o := .lst (due.map V.int ++ [.int (-(1 + nd)), .int (1 + nd)])) s1 n2
        have ea2 := s2 _ _ ea
        refine ⟨_, _, _, rfl, rfl, ea2, szlt (by omega), ?_⟩
        have R4 := (R3.same s2).app (x := x2) (row := due ++ [-(1 + nd), 1 + nd]) ea2 (by rw [upd_same, List.map_append] <;> rfl) (ne_of_none (s1 _ _ ea) n2).symm (by decide)
        generalize upd (upd (upd H3 x1 (.lst [.int (-(1 + nd)), .int (1 + nd)])) x2 (.lst (due.map V.int ++ [.int (-(1 + nd)), .int (1 + nd)]))) rq (.lst (acc ++ [.ref x2])) = H4 at R4 ⊢
        clear ea2 s2 n2 s1 n1 ea la hp3 R3
        obtain ⟨acc, ea, la⟩ := R4.get
        have hp4 := R4.due B hp
        refine ⟨_, rfl, Or.inl ⟨rfl, _, SqL.of ea⟩, _, rfl, _, rfl, _, rfl, (by show 1 ≤ sizeLine; decide), fun x1 n1 => ?_⟩
        have s1 := Same.up (o := .lst [.int (-(1 + nd))]) n1
        refine ⟨_, _, _, _, rfl, rfl, s1 _ _ hp4, upd_same, sz60 (by rw [List.length_map]; show due.length + 1 ≤ _; omega), fun x2 n2 => ?_⟩
        have s2 := Same.new (o := .lst (due.map V.int ++ [.int (-(1 + nd))])) s1 n2
        have ea2 := s2 _ _ ea
        refine ⟨_, _, _, rfl, rfl, ea2, szlt (by omega), ?_⟩
        have R5 := (R4.same s2).app (x := x2) (row := due ++ [-(1 + nd)]) ea2 (by rw [upd_same, List.map_append] <;> rfl) (ne_of_none (s1 _ _ ea) n2).symm (by decide)
        generalize upd (upd (upd H4 x1 (.lst [.int (-(1 + nd))])) x2 (.lst (due.map V.int ++ [.int (-(1 + nd))]))) rq (.lst (acc ++ [.ref x2])) = H5 at R5 ⊢
        clear ea2 s2 n2 s1 n1 ea la hp4 R4
        obtain ⟨acc, ea, la⟩ := R5.get
        have hp5 := R5.due B hp
        refine ⟨_, rfl, Or.inl ⟨rfl, _, SqL.of ea⟩, _, rfl, _, rfl, (by show 1 ≤ sizeLine; decide), fun x1 n1 => ?_⟩
        have s1 := Same.up (o := .lst [.int (1 + nd)]) n1
        refine ⟨_, _, _, _, rfl, rfl, s1 _ _ hp5, upd_same, sz60 (by rw [List.length_map]; show due.length + 1 ≤ _; omega), fun x2 n2 => ?_⟩
        have s2 := Same.new (o := .lst (due.map V.int ++ [.int (1 + nd)])) s1 n2
        have ea2 := s2 _ _ ea
        refine ⟨_, _, _, rfl, rfl, ea2, szlt (by omega), ?_⟩
        have R6 := (R5.same s2).app (x := x2) (row := due ++ [1 + nd]) ea2 (by rw [upd_same, List.map_append] <;> rfl) (ne_of_none (s1 _ _ ea) n2).symm (by decide)
        generalize upd (upd (upd H5 x1 (.lst [.int (1 + nd)])) x2 (.lst (due.map V.int ++ [.int (1 + nd)]))) rq (.lst (acc ++ [.ref x2])) = H6 at R6 ⊢
        clear ea2 s2 n2 s1 n1 ea la hp5 R5
        obtain ⟨acc, ea, la⟩ := R6.get
        have hp6 := R6.due B hp
        refine ⟨_, rfl, Or.inl ⟨rfl, _, SqL.of ea⟩, _, rfl, _, rfl, _, rfl, (by show 2 ≤ sizeLine; decide), fun x1 n1 => ?_⟩
        have s1 := Same.up (o := .lst [.int (1 + nd), .int (-(1 + nd))]) n1
        refine ⟨_, rfl, _, _, _, _, rfl, rfl, upd_same, s1 _ _ hp6, sz60 (by rw [List.length_map]; show 2 + due.length ≤ _; omega), fun x2 n2 => ?_⟩
        have s2 := Same.new (o := .lst ([.int (1 + nd), .int (-(1 + nd))] ++ due.map V.int)) s1 n2
        have ea2 := s2 _ _ ea
        refine ⟨_, _, _, rfl, rfl, ea2, szlt (by omega), some _, rfl, ?_⟩
        exact (R6.same s2).app (x := x2) (row := [1 + nd, -(1 + nd)] ++ due) ea2 (by rw [upd_same, List.map_append] <;> rfl) (ne_of_none (s1 _ _ ea) n2).symm (by decide)
      · obtain ⟨ps, q, h1, h2, h3, h4, h5⟩ := R2.ex
        exact ⟨none, rfl, ⟨ps, q, h1, by omega, h3.mono (by omega), h4, h5⟩, R2.kb, R2.n0⟩
    clear R2
    rintro σ' H3 ⟨v8, rfl, R3⟩
    obtain ⟨ps, q, h1, h2, h3, h4, h5⟩ := R3.ex
    have L3 := L.keepB B R3.kb
    have T3 := T.keepB B R3.kb
    refine ⟨_, rfl, rq, rfl, ⟨_, SqL.of h1.hq⟩, ?_⟩
    refine for_list (K := K) (a := rq) (xs := ps.map V.ref) (fun i σ H' => ∃ v9 : Option V, σ = [some (.ref b), some (.ref a.p), some (.ref t.p), some (.ref p), some (.int (due.map V.int).length), some (.int (((vq S).length : Int) - 1)), some (.ref rq), v7, v8, v9] ∧ Same H3 H') ⟨none, rfl, Same.refl _⟩ (fun i σ H' _ ⟨_, _, s⟩ => Same.seq s (SqL.of h1.hq)) ?_ ?_
    · rintro i y σ H' hy ⟨v9, rfl, s⟩
      rw [List.getElem?_map] at hy
      obtain ⟨x, hx, rfl⟩ := Option.map_eq_some_iff.mp hy
      obtain ⟨row, hrow⟩ := h1.hp x (List.mem_of_getElem? hx)
      refine ⟨_, rfl, _, rfl, _, rfl, _, rfl, a, t, S, _, x, row, rfl, ?_, L3.same s, T3.same s, wf, hn, SqL.of (s _ _ hrow), fun H5 s5 => ⟨_, rfl, iteN rfl ⟨some _, rfl, Same.trans s s5⟩⟩⟩
      rw [List.length_map, hlen]
    · rintro σ H' ⟨v9, rfl, s⟩
      exact k q H' (h3.same s) (KeepB.trans R3.kb (Same.keepB s)) h4
end
end LL
namespace LL
open PySem PySem.Spec PyProof.Rows L2
/-! ### a log without a loss -/
theorem whole_lists {S : Sd} (w : WF S) (h : Whole S) : iL S = iL (fresh S.n) ∧ iR S = iR (fresh S.n) ∧ iF S = iF (fresh S.n) := by
  obtain ⟨h1, h2⟩ := h
  refine ⟨List.map_congr_left fun i hi => ?_, List.map_congr_left fun i hi => ?_, List.map_congr_left fun i hi => ?_⟩
  · have hi := List.mem_range.mp hi
    unfold lz
    by_cases z : i = 0
    · rw [if_pos z, if_pos z]
    · rw [if_neg z, if_neg z]
      have q := (h1 (i - 1) (by omega)).2
      rw [Nat.sub_add_cancel (by omega)] at q
      rw [q] <;> rfl
  · have hi := List.mem_range.mp hi
    show (S.R i : Int) = ((i + 1 : Nat) : Int)
    by_cases z : i = S.n + 1
    · rw [z, w.rn]
    · rw [(h1 i (by omega)).1]
  · have hi := List.mem_range.mp hi
    show S.F i = false
    by_cases z : i = 0
    · rw [z]
      exact w.f0
    · by_cases z2 : i = S.n + 1
      · rw [z2]
        exact w.fn
      · exact h2 i (by omega) (by omega)
def gD (v : V) : PyData := match v with
  | .int i => .int i
  | _ => .none
def dW (n : Nat) (row : List Int) : PyData := .tuple [.list (((outs (after (fresh n) row)).map fun v : Nat => (v : Int)).map PyData.int), gD (vgap (after (fresh n) row)), gD (vidx n row), .bool (wholeB (after (fresh n) row))]
theorem dp_gap (K : PySem.W.Frag) (H : Hp) (S : Sd) : Dp K H (vgap S) (gD (vgap S)) := by
  unfold vgap
  cases apart S with
  | nil => exact .non
  | cons g r => exact .int _
theorem dp_idx (K : PySem.W.Frag) (H : Hp) (n : Nat) (row : List Int) : Dp K H (vidx n row) (gD (vidx n row)) := by
  unfold vidx
  cases apart (after (fresh n) row) with
  | nil => exact .non
  | cons g r => exact .int _
theorem dpW {K : PySem.W.Frag} {H : Hp} {t o : Addr} {n : Nat} {row : List Int} (ht : H t = some (.tup [.ref o, vgap (after (fresh n) row), vidx n row, .bl (wholeB (after (fresh n) row))])) (ho : H o = some (.lst (nvs (outs (after (fresh n) row))))) : Dp K H (.ref t) (dW n row) :=
  .tup (SqT.of ht) (.cons (dpI (SqL.of (by rw [← nvs_ints]; exact ho))) (.cons (dp_gap K H _) (.cons (dp_idx K H n row) (.cons (.bl _) .nil))))
theorem sz_g {n : Nat} (v : V) : Sz (n + 1) (gD v) := by
  unfold gD
  split
  · exact sz_int
  · exact sz_non
theorem outs_le (S : Sd) : (outs S).length ≤ S.n := by
  have := List.length_filter_le S.F (nodes S.n)
  rw [nodes_len] at this
  exact this
theorem szW {n : Nat} {row : List Int} (hn : n ≤ 60) : Sz 3 (dW n row) := by
  have ol := outs_le (after (fresh n) row)
  rw [after_n] at ol
  have ol2 : (outs (after (fresh n) row)).length ≤ n := ol
  refine sz_tup (by show 4 ≤ 1000; decide) fun e he => ?_
  rcases List.mem_cons.mp he with rfl | he
  · exact sz_ints (n := 0) (by rw [List.length_map]; omega)
  rcases List.mem_cons.mp he with rfl | he
  · exact sz_g _
  rcases List.mem_cons.mp he with rfl | he
  · exact sz_g _
  rw [List.mem_singleton.mp he]
  exact sz_bl
def rD (xs : List Int) : PyData := .tuple [.str "repair", .list (xs.map PyData.int)]
theorem dpR {K : PySem.W.Frag} {H : Hp} {t u : Addr} {xs : List Int} (ht : H t = some (.tup [.str "repair", .ref u])) (hu : H u = some (.lst (xs.map V.int))) : Dp K H (.ref t) (rD xs) :=
  .tup (SqT.of ht) (.cons (.str _) (.cons (dpI (SqL.of hu)) .nil))
theorem szR {xs : List Int} (h : xs.length ≤ 1000) : Sz 3 (rD xs) := by
  refine sz_tup (by show 2 ≤ 1000; decide) fun e he => ?_
  rcases List.mem_cons.mp he with rfl | he
  · exact sz_str
  rw [List.mem_singleton.mp he]
  exact sz_ints (n := 0) h
def fD (i : Int) : PyData := .tuple [.str "refused", .int i, .bool true, .bool false]
theorem dpF {K : PySem.W.Frag} {H : Hp} {t : Addr} {i : Int} (ht : H t = some (.tup [.str "refused", .int i, .bl true, .bl false])) : Dp K H (.ref t) (fD i) :=
  .tup (SqT.of ht) (.cons (.str _) (.cons (.int _) (.cons (.bl _) (.cons (.bl _) .nil))))
theorem szF {i : Int} : Sz 3 (fD i) := by
  refine sz_tup (by show 4 ≤ 1000; decide) fun e he => ?_
  rcases List.mem_cons.mp he with rfl | he
  · exact sz_str
  rcases List.mem_cons.mp he with rfl | he
  · exact sz_int
  rcases List.mem_cons.mp he with rfl | he
  · exact sz_bl
  rw [List.mem_singleton.mp he]
  exact sz_bl
theorem iteQ {c : Bool} {X Y R : Prop} (h : X) (hR : X → R) : if c = true then (if true = true then X else Y) else R := by
  cases c with
  | true => exact h
  | false => exact hR h
theorem dW_whole {n : Nat} {row : List Int} (h : Whole (after (fresh n) row)) : dW n row = .tuple [.list [], .none, .none, .bool true] := by
  have z := whole_iff.mp h
  unfold dW vgap vidx
  rw [z.1, z.2, wholeB_iff.mpr h] <;> rfl
def sp_mended : Sp := fun vs H Q _ => ∃ (b q : Addr) (N n : Nat) (p : Addr) (row : List Int) (a : LA), vs = [.ref b, .int (n : Int), .ref p, .ref a.p] ∧ BoxAt H b q N ∧ N ≤ 400000 ∧ H p = some (.lst (row.map V.int)) ∧ legal (fresh n) row = true ∧ n ≤ 60 ∧ row.length ≤ 100 ∧
  StAt H a (after (fresh n) row) ∧ NoLost (after (fresh n) row) ∧ ∀ H', Q (.bl true) H'
section
variable {P : Program} {w : World} {K : PySem.W.Frag} {mg : Str → Option Value} {base : Heap}
theorem sc__law_mended : FnScope ["_law_box_here", "_law_many", "_law_row", "_law_state", "_law_due_here", "_law_links", "_law_before", "_law_told_here", "_law_end", "_law_k", "_law_part"] ["_law_box_here", "_law_many", "_law_row", "_law_state"] (defScope (top 81)) := ⟨rfl, rfl, rfl, by decide +kernel, rfl, by decide +kernel, by decide +kernel⟩
theorem ok__law_mended (Z : Tx P w K mg base) : Pr P w K mg base 11 "_law_mended" sp_mended := by
  refine Z.pr0 64 49 (d := d__law_mended) rfl rfl rfl rfl rfl sc__law_mended (fun vs H Q E h => ?_) (fun _ _ _ _ _ _ us hl => match us, hl with | [_, _, _, _], _ => rfl) (fun f cdv A outer s H vs Q E hr h => ?_)
  · obtain ⟨b, q, N, n, p, row, a, rfl, _⟩ := h
    rfl
  · obtain ⟨b, q, N, n, p, row, a, rfl, B, hN, hp, hleg, hn, hlen, A, nl, k⟩ := h
    refine ⟨_, (pss_cons (ps_set (i := 4) sc__law_mended.nd rfl (Or.inl rfl) (pc (ok__law_repair Z) hr (pa_cons (pv 3) pa_nil))) (pss_cons (ps_set (i := 5) sc__law_mended.nd rfl (Or.inl rfl) (pc (ok_replay Z) hr (pa_cons (pv 1) (pa_cons (pe_callTy call_list_of (by rfl) (Z.free 63) (by decide +kernel) (pa_cons (pv 2) pa_nil)) pa_nil)))) (pss_cons (ps_set (i := 6) sc__law_mended.nd rfl (Or.inl rfl) (pe_str_own (ok_Links___str__ Z) hr (Z.free 66) (pa_cons (pv 5) pa_nil))) (pss_cons (ps_set (i := 7) sc__law_mended.nd rfl (Or.inl rfl) (pc (ok_first_repair Z) hr (pa_cons (pv 5) pa_nil))) (pss_cons (ps_if (pt_not (pt_val (pc (ok__law_same Z 3) hr (pa_cons (pv 7) (pa_cons (pv 4) pa_nil))))) (pss_one (ps_ret pe_bl)) pss_nil) (pss_cons (ps_expr (pe_bm PySem.F.plainAttrs_list PySem.F.slot_list_append PySem.F.type_list_append mt_append (pv 7) (pa_cons pe_int pa_nil))) (pss_cons (ps_expr (pe_bm0 PySem.F.plainAttrs_list PySem.F.slot_list_reverse PySem.F.type_list_reverse mt_reverse (pv 7))) (pss_cons (ps_if (PW.pt (pw_or (pt_not (pt_val (pc (ok__law_same Z 3) hr (pa_cons (pc (ok__law_mend Z) hr (pa_cons (pv 5) pa_nil)) (pa_cons (pe_tup (pa_cons pe_str (pa_cons (pv 4) pa_nil))) pa_nil))))) (pw_or1 (pt_not (pt_val (pc (ok__law_neighbours Z) hr (pa_cons (pv 0) (pa_cons (pv 5) (pa_cons (pv 3) (pa_cons (pv 4) pa_nil)))))))))) (pss_one (ps_ret pe_bl)) pss_nil) (pss_cons (ps_if (pt_not (pt_val (pc (ok__law_same Z 3) hr (pa_cons (pc (ok__law_told Z) hr (pa_cons (pv 1) (pa_cons (pe_op op_cat (pv 2) (pv 4)) pa_nil))) (pa_cons (pe_tup (pa_cons (pe_lst pa_nil) (pa_cons pe_non (pa_cons pe_non (pa_cons pe_bl pa_nil))))) pa_nil))))) (pss_one (ps_ret pe_bl)) pss_nil) (pss_cons (ps_set (i := 8) sc__law_mended.nd rfl (Or.inl rfl) (pc (ok_play Z) hr (pa_cons (pv 5) (pa_cons (pe_callTy call_list_of (by rfl) (Z.free 63) (by decide +kernel) (pa_cons (pv 4) pa_nil)) pa_nil)))) (pss_cons (ps_if (PW.pt (pw_or (pt_not (pt_val (pc (ok__law_same Z 3) hr (pa_cons (pm0 (ok_Links_is_whole Z) hr (pv 8)) (pa_cons pe_bl pa_nil))))) (pw_or (pt_not (pt_cmpR (op_eqL (ok_Links___eq__ Z) hr) (pv 8) (pmk (ok_Links___init__ Z) hr (pa_cons (pv 1) pa_nil)) (nomark _))) (pw_or1 (pt_not (pt_val (pc (ok__law_same Z 3) hr (pa_cons (pe_str_own (ok_Links___str__ Z) hr (Z.free 66) (pa_cons (pv 5) pa_nil)) (pa_cons (pv 6) pa_nil))))))))) (pss_one (ps_ret pe_bl)) pss_nil) (pss_cons (ps_for PassesOwn.never rfl (pi_range1 rfl (Z.free 61) (pa_cons (pe_op op_add (pe_callB call_len_seq (by rfl) (Z.free 60) PySem.boot_len (pa_cons (pv 4) pa_nil)) pe_int) pa_nil)) (pg_name (i := 9) sc__law_mended.nd rfl (Or.inl rfl)) (pss_one (ps_if (PW.pt (pw_or (pt_cmpR op_lt (pv 9) pe_int (nomark _)) (pw_or1 (pt_cmpR op_eq (pv 9) (pe_callB call_len_seq (by rfl) (Z.free 60) PySem.boot_len (pa_cons (pv 4) pa_nil)) (nomark _))))) (pss_cons (ps_set (i := 10) sc__law_mended.nd rfl (Or.inl rfl) (pe_op op_cat (pv 2) (pe_slice sl_list (pv 4) po_none (po_some (pv 9))))) (pss_cons (ps_if (pt_not (pt_val (pc (ok__law_same Z 3) hr (pa_cons (pc (ok__law_told Z) hr (pa_cons (pv 1) (pa_cons (pv 10) pa_nil))) (pa_cons (pc (ok__law_due Z) hr (pa_cons (pv 1) (pa_cons (pv 10) pa_nil))) pa_nil))))) (pss_one (ps_ret pe_bl)) pss_nil) (pss_cons (ps_if (pt_not (pt_val (pc (ok__law_same Z 3) hr (pa_cons (pe_ix ix_tup (pc (ok__law_told Z) hr (pa_cons (pv 1) (pa_cons (pv 10) pa_nil))) pe_int (fun _ _ => rfl)) (pa_cons (pe_cmpR op_eq (pv 9) (pe_callB call_len_seq (by rfl) (Z.free 60) PySem.boot_len (pa_cons (pv 4) pa_nil)) (nomark _)) pa_nil))))) (pss_one (ps_ret pe_bl)) pss_nil) (pss_cons (ps_if (pt_not (pt_val (pc (ok__law_same Z 3) hr (pa_cons (pc (ok__law_mend Z) hr (pa_cons (pc (ok_replay Z) hr (pa_cons (pv 1) (pa_cons (pv 10) pa_nil))) pa_nil)) (pa_cons (pe_tup (pa_cons pe_str (pa_cons (pe_slice sl_list (pv 4) (po_some (pv 9)) po_none) pa_nil))) pa_nil))))) (pss_one (ps_ret pe_bl)) pss_nil) (pss_one (ps_if (pt_not (pt_val (pc (ok__law_same Z 3) hr (pa_cons (pc (ok__law_paper Z) hr (pa_cons (pv 1) (pa_cons (pv 10) pa_nil))) (pa_cons (pe_tup (pa_cons pe_str (pa_cons (pv 1) (pa_cons pe_bl (pa_cons pe_bl pa_nil))))) pa_nil))))) (pss_one (ps_ret pe_bl)) pss_nil)))))) pss_nil))) (pss_one (ps_ret pe_bl)))))))))))))), ?_⟩
    have wf : WF (after (fresh n) row) := wf_after (wf_fresh n) hleg
    have hSn : (after (fresh n) row).n = n := after_n _ _
    have hS60 : (after (fresh n) row).n ≤ 60 := by rw [hSn]; exact hn
    obtain ⟨S, hS⟩ : ∃ S, S = after (fresh n) row := ⟨_, rfl⟩
    obtain ⟨m, hm⟩ : ∃ m, m = debt S := ⟨_, rfl⟩
    rw [← hS] at A nl wf hSn hS60
    have g : Good S m := ⟨wf, nl, hm.symm⟩
    have hcl : (canon m S).length = m := canon_len g
    have hm120 : m ≤ 120 := by
      have := debt_le S
      omega
    have clg := canon_legal g
    -- the repair due, the links, their text
    refine ⟨_, rfl, a, S, m, rfl, A, hS60, g, fun du H1 nd s1 ed => ?_⟩
    refine ⟨_, rfl, _, rfl, _, _, rfl, Or.inl (SqL.of (s1 _ _ hp)), fun x nx => ?_⟩
    have s2 : Same H (upd H1 x (.lst (row.map V.int))) := Same.new s1 nx
    refine ⟨n, x, row, rfl, SqL.of upd_same, hleg, hn, fun l H3 L s3 _ _ _ _ => ?_⟩
    rw [← hS] at L
    have s4 := Same.trans s2 s3
    have ed3 := s3 _ _ (Same.up nx _ _ ed)
    refine ⟨_, rfl, _, _, _, rfl, L.ob, l, S, rfl, L, wf, hS60, fun H4 s5 => ⟨_, rfl, ?_⟩⟩
    have L4 := L.same s5
    have ed4 := s5 _ _ ed3
    have s6 := Same.trans s4 s5
    refine ⟨_, rfl, l, S, rfl, L4, wf, hS60, fun m' g' tp H5 nt s7 et => ?_, fun g' r e => by rw [lostL_nil.mpr nl] at e; cases e⟩
    have em : m' = m := by
      rw [← g'.db, hm]
    subst em
    have s8 := Same.trans s6 s7
    have ed5 := s7 _ _ ed4
    have L5 := L4.same s7
    refine ⟨_, rfl, _, rfl, _, _, _, rfl, dpI (SqL.of et), dpI (SqL.of ed5), sz_ints (n := 1) (by omega), _, rfl, iteN rfl ?_⟩
    -- told is spoiled
    have nt0 : H tp = none := Same.free s6 nt
    refine ⟨_, rfl, Or.inl ⟨rfl, _, SqL.of et⟩, _, _, _, rfl, rfl, et, szlt (by rw [List.length_map]; omega), ?_⟩
    have q9 : Same H4 (upd H5 tp (.lst ((canon m' S).map V.int ++ [.int 1]))) := Same.mut s7 nt
    refine ⟨_, rfl, Or.inl ⟨rfl, _, SqL.of upd_same⟩, _, _, rfl, rfl, upd_same, ?_⟩
    have q10 : Same H4 (upd (upd H5 tp (.lst ((canon m' S).map V.int ++ [.int 1]))) tp (.lst ((canon m' S).map V.int ++ [V.int 1]).reverse)) := Same.mut q9 nt
    generalize upd (upd H5 tp (.lst ((canon m' S).map V.int ++ [.int 1]))) tp (.lst ((canon m' S).map V.int ++ [V.int 1]).reverse) = H6 at q10 ⊢
    have s11 := Same.trans s6 q10
    have L6 := L4.same q10
    have ed6 := q10 _ _ ed4
    clear q9 et s8 s7 ed5 L5 nt
    have B6 := B.same s11
    have A6 := A.same s11
    have hp6 := s11 _ _ hp
    -- mended, and so are its neighbours
    refine ⟨_, rfl, l, S, rfl, L6, wf, hS60, fun k' g2 t7 u7 H7 s7 et eu => ?_, fun g' r e => by rw [lostL_nil.mpr nl] at e; cases e⟩
    have em : k' = m' := by
      rw [← g2.db, hm]
    subst em
    refine ⟨_, rfl, (by show 2 ≤ sizeLine; decide), fun y ny => ?_⟩
    have s8 := Same.new (o := .tup [.str "repair", .ref du]) s7 ny
    refine ⟨_, _, _, rfl, dpR (Same.up ny _ _ et) (Same.up ny _ _ eu), dpR upd_same (s8 _ _ ed6), szR (by omega), _, rfl, iteN rfl ?_⟩
    have B8 := B6.same s8
    refine ⟨_, rfl, _, rfl, _, rfl, _, rfl, b, q, N, l, a, S, du, _, rfl, B8, by omega, L6.same s8, A6.same s8, wf, hS60, s8 _ _ ed6, (by rw [hcl, hm]), fun q9 H9 B9 k9 n9 => ⟨_, rfl, iteN rfl ?_⟩⟩
    have pb : p ≠ b := box_ints B hp
    have hp9 := k9 _ _ (s8 _ _ hp6) pb
    have ed9 := k9 _ _ (s8 _ _ ed6) (box_ints B6 ed6)
    have L9 := (L6.same s8).keepB B8 k9
    clear k9 n9 B9 B8 s8 ny et eu s7 hp6 A6 B6 ed6 L6 s11 q10 ed4 L4 s6 ed3 L s4 s3 s2 s1 nx nt0
    -- the law's laws of a mended log
    have after_a : ∀ more : List Int, after (fresh n) (row ++ more) = after S more := fun more => by rw [after_append, ← hS]
    have legal_a : ∀ more : List Int, legal S more = true → legal (fresh n) (row ++ more) = true := fun more h => by
      rw [legal_append, hleg, ← hS, h] <;> rfl
    have hW : Whole (after (fresh n) (row ++ canon k' S)) := by
      rw [after_a]
      exact clg.2
    have cz : ∀ {u v : List Int}, u.length ≤ 1000 → v.length ≤ 1000 → (u.map V.int).length + (v.map V.int).length ≤ sizeLine := fun hu hv => by
      rw [List.length_map, List.length_map]
      exact sz60 (by omega)
    refine ⟨_, rfl, _, rfl, _, rfl, _, _, _, _, rfl, rfl, hp9, ed9, cz (by omega) (by omega), fun x nx => ?_⟩
    have ex : upd H9 x (.lst (row.map V.int ++ (canon k' S).map V.int)) x = some (.lst ((row ++ canon k' S).map V.int)) := by rw [upd_same, List.map_append]
    have s10 : Same H9 (upd H9 x (.lst (row.map V.int ++ (canon k' S).map V.int))) := Same.up nx
    refine ⟨n, x, row ++ canon k' S, rfl, SqL.of ex, legal_a _ clg.1, hn, by rw [List.length_append]; omega, fun t o H11 s11 et eo => ?_⟩
    refine ⟨(by show 0 ≤ sizeLine; decide), fun z nz => ⟨(by show 4 ≤ sizeLine; decide), fun y ny => ?_⟩⟩
    have s12 := Same.trans (Same.up (o := .lst []) nz) (Same.up (o := .tup [.ref z, .non, .non, .bl true]) ny)
    refine ⟨_, _, _, rfl, dpW (s12 _ _ et) (s12 _ _ eo), ?_, szW hn, _, rfl, iteN rfl ?_⟩
    · rw [dW_whole hW]
      exact .tup (SqT.of upd_same) (.cons (dpI (xs := []) (SqL.of (Same.up ny _ _ upd_same))) (.cons .non (.cons .non (.cons (.bl true) .nil))))
    have s13 := Same.trans (Same.trans s10 s11) s12
    -- led on, it is whole
    have L13 := L9.same s13
    refine ⟨_, rfl, _, rfl, _, _, rfl, Or.inl (SqL.of (s13 _ _ ed9)), fun x2 nx2 => ?_⟩
    have s14 := Same.new (o := .lst ((canon k' S).map V.int)) s13 nx2
    refine ⟨l, S, x2, canon k' S, rfl, L9.same s14, wf, hS60, SqL.of upd_same, fun _ e H15 Le s15 _ _ _ _ => ?_, fun z => by rw [clg.1] at z; cases z⟩
    have s16 := Same.trans s14 s15
    have wf2 := wf_after wf clg.1
    have hn2 : (after S (canon k' S)).n = n := by rw [after_n]; exact hSn
    refine ⟨_, rfl, _, _, _, rfl, Le.ob, rfl, e, _, rfl, Le, wf2, (by rw [hn2]; exact hn), fun H17 s17 => ⟨_, _, .bool true, rfl, ?_, .bl true, sz_bl, _, rfl, iteN rfl ?_⟩⟩
    · rw [wholeB_iff.mpr clg.2]
      exact .bl true
    have s18 := Same.trans s16 s17
    refine ⟨_, rfl, _, rfl, fun x3 dx nx3 ndx ne => ⟨x3, dx, n, rfl, upd_same, hn, fun c H19 ec ed Lc kp c1 c2 c3 => ⟨rfl, ?_⟩⟩⟩
    subst ec
    subst ed
    have s19 : Same H17 H19 := fun b o e => kp b o (by rw [upd_ne (ne_of_none e nx3), upd_ne (ne_of_none e ndx)]; exact e) (ne_of_none e nx3)
    have wl := whole_lists wf2 clg.2
    rw [hn2] at wl
    refine ⟨⟨_, _, _, _, _, _, rfl, rfl, s19 _ _ (s17 _ _ Le.ob), Lc.ob, e, c, _, _, rfl, rfl, (Le.same s17).same s19, Lc, wl.1, wl.2.1, wl.2.2⟩, fun H20 s20 => ⟨_, rfl, iteN rfl ?_⟩⟩
    have s21 : Same H9 H20 := Same.trans (Same.trans s18 s19) s20
    refine ⟨_, rfl, _, _, _, rfl, (L9.same s21).ob, l, S, rfl, L9.same s21, wf, hS60, fun H22 s22 => ⟨_, rfl, _, rfl, _, _, .str (dumpS S), rfl, .str _, .str _, sz_str, _, rfl, iteN rfl ?_⟩⟩
    have s23 := Same.trans s21 s22
    -- every part of it
    have ed23 := s23 _ _ ed9
    have hp23 := s23 _ _ hp9
    clear s22 s21 s20 s19 s18 s17 s16 s15 s14 s13 s12 s11 s10
    refine ⟨_, rfl, _, _, rfl, Or.inl (SqL.of ed23), _, _, rfl, rfl, _, rfl, by omega, by rw [List.length_map]; omega, ?_⟩
    refine for_range (lo := 0) (n := ((((canon k' S).map V.int).length : Int) + 1).toNat) (fun i σ H' => ∃ v9 v10 : Option V, σ = [some (.ref b), some (.int (n : Int)), some (.ref p), some (.ref a.p), some (.ref du), some (.ref l.p), some (.str (dumpS S)), some (.ref tp), some (.ref e.p), v9, v10] ∧ Same H22 H') ⟨none, none, rfl, Same.refl _⟩ ?_ ?_
    · rintro i σ H' hi ⟨v9, v10, rfl, s1⟩
      rw [List.length_map, hcl] at hi
      have hi' : i ≤ k' := by omega
      have ed1 := s1 _ _ ed23
      have hp1 := s1 _ _ hp23
      obtain ⟨g3, g4⟩ := canon_part i g hi'
      have hlg := legal_a _ (legal_take clg.1 i)
      refine ⟨_, rfl, _, _, rfl, rfl, _, rfl, ?_⟩
      show if (decide (0 + (i : Int) < 7)) = true then (if true = true then _ else _) else _
      refine iteQ ?_ (fun key => ?_)
      · refine ⟨_, rfl, _, rfl, _, rfl, _, rfl, _, _, rfl, SqL.of ed1, fun y ny => ?_⟩
        rw [Int.zero_add, cutV_to, ← List.map_take]
        have s2 := Same.new (o := .lst (((canon k' S).take i).map V.int)) s1 ny
        refine ⟨_, _, _, _, rfl, rfl, Same.up ny _ _ hp1, upd_same, cz (by omega) (by rw [List.length_take]; omega), fun x nx => ?_⟩
        have s3 := Same.new (o := .lst (row.map V.int ++ ((canon k' S).take i).map V.int)) s2 nx
        have ex : upd (upd H' y (.lst (((canon k' S).take i).map V.int))) x (.lst (row.map V.int ++ ((canon k' S).take i).map V.int)) x = some (.lst ((row ++ (canon k' S).take i).map V.int)) := by rw [upd_same, List.map_append]
        generalize upd (upd H' y (.lst (((canon k' S).take i).map V.int))) x (.lst (row.map V.int ++ ((canon k' S).take i).map V.int)) = H3 at s3 ex ⊢
        clear nx s2 ny
        have hpl : (row ++ (canon k' S).take i).length ≤ 1000 := by rw [List.length_append, List.length_take]; omega
        -- the verdict
        refine ⟨_, rfl, _, rfl, n, x, _, rfl, SqL.of ex, hlg, hn, hpl, fun t1 o1 H4 s4 et1 eo1 => ?_⟩
        refine ⟨_, rfl, _, rfl, n, x, _, rfl, SqL.of (s4 _ _ ex), hlg, hn, hpl, fun t2 o2 H5 s5 et2 eo2 => ?_⟩
        refine ⟨_, _, _, rfl, dpW (s5 _ _ et1) (s5 _ _ eo1), dpW et2 eo2, szW hn, _, rfl, iteN rfl ?_⟩
        have s6 := Same.trans s4 s5
        -- whole
        refine ⟨_, rfl, _, rfl, n, x, _, rfl, SqL.of (s6 _ _ ex), hlg, hn, hpl, fun t3 o3 H7 s7 et3 eo3 => ?_⟩
        have s8 := Same.trans s6 s7
        have ed8 := s8 _ _ (s3 _ _ ed23)
        refine ⟨_, _, _, _, rfl, rfl, SqT.of et3, at4_3, _, rfl, _, rfl, _, _, rfl, Or.inl (SqL.of ed8), rfl, _, _, .bool (decide (i = k')), rfl, ?_, ?_, sz_bl, _, rfl, iteN rfl ?_⟩
        · rw [after_a, good_whole g3]
          have e1 : decide (k' - i = 0) = decide (i = k') := by
            rw [decide_eq_decide]
            omega
          rw [e1]
          exact .bl _
        · show Dp K H7 (.bl (decide (V.int (i : Int) = V.int (((canon k' S).map V.int).length : Int)))) _
          rw [List.length_map, hcl, dec_int_nat]
          exact .bl _
        -- mended from here
        refine ⟨_, rfl, _, rfl, n, x, _, rfl, SqL.of (s8 _ _ ex), hlg, hn, fun l2 H9 L2 s9 _ _ _ _ => ?_⟩
        rw [after_a] at L2
        have hn3 : (after S ((canon k' S).take i)).n ≤ 60 := by rw [after_n]; exact hS60
        refine ⟨l2, _, rfl, L2, g3.wf, hn3, fun k2 g2 t4 u4 H10 s10 et4 eu4 => ?_, fun g' r e => by rw [lostL_nil.mpr g3.nl] at e; cases e⟩
        have ek : k2 = k' - i := by rw [← g2.db, g3.db]
        subst ek
        rw [g4] at eu4
        have s11 := Same.trans (Same.trans s8 s9) s10
        have ed11 := s11 _ _ (s3 _ _ ed23)
        refine ⟨_, rfl, _, rfl, _, rfl, _, _, rfl, SqL.of ed11, fun y ny => ?_⟩
        rw [cutV_from, ← List.map_drop]
        refine ⟨(by show 2 ≤ sizeLine; decide), fun z nz => ?_⟩
        have s12 := Same.trans (Same.up (o := .lst (((canon k' S).drop i).map V.int)) ny) (Same.up (o := .tup [.str "repair", .ref y]) nz)
        refine ⟨_, _, _, rfl, dpR (s12 _ _ et4) (s12 _ _ eu4), dpR upd_same (Same.up nz _ _ upd_same), szR (by rw [List.length_drop]; omega), _, rfl, iteN rfl ?_⟩
        have s13 := Same.trans s11 s12
        -- no loss
        refine ⟨_, rfl, _, rfl, n, x, _, rfl, SqL.of (s13 _ _ ex), hlg, hn, fun _ t5 H14 s14 et5 => ?_, fun g' r k3 c => by rw [after_a, lostL_nil.mpr g3.nl] at c; cases c⟩
        refine ⟨_, rfl, (by show 4 ≤ sizeLine; decide), fun z5 nz5 => ?_⟩
        have s15 := Same.new (o := .tup [.str "refused", .int (n : Int), .bl true, .bl false]) (Same.trans (Same.trans s3 s13) s14) nz5
        exact ⟨_, _, _, rfl, dpF (Same.up nz5 _ _ et5), dpF upd_same, szF, _, rfl, iteN rfl ⟨some _, some _, rfl, s15⟩⟩
      · exact ⟨_, rfl, _, rfl, _, _, rfl, Or.inl (SqL.of ed1), rfl, _, rfl, iteB (fun _ => key) (fun _ => ⟨some _, v10, rfl, s1⟩)⟩
    · rintro σ H' ⟨v9, v10, rfl, s1⟩
      exact k H'
end
end LL
namespace LL
open PySem PySem.Spec PyProof.Rows L2
/-! ### losses in order -/
theorem joined_put {S : Sd} (w : WF S) {x : Nat} (h1 : 1 ≤ x) (h2 : x ≤ S.n) {v : Nat} (e : gst S v = .joined) : gst (put S x) v ≠ .lost := by
  obtain ⟨a, b⟩ := gst_joined.mp e
  intro z
  have z := gst_lost.mp z
  rw [Bool.or_eq_false_iff, lh_put w h1 h2, rh_put w h1 h2] at z
  have l1 := lx w h1 h2
  have l2 := rx w h1 h2
  by_cases c : v = S.L x
  · rw [if_neg (show ¬ v + 1 = S.R x by omega), b] at z
    cases z.2
  · rw [if_neg c, a] at z
    cases z.1
theorem dec_change (S : Sd) (row : List Int) (v : Nat) : ∀ k, gat S row k v ≠ gat S row 0 v → 0 ≤ dec S row v k
  | 0, h => absurd rfl h
  | k + 1, h => by
    unfold dec
    by_cases c : gat S row (k + 1) v = gat S row k v
    · rw [if_pos c]
      exact dec_change S row v k (by rw [← c]; exact h)
    · rw [if_neg c]
      omega
theorem gat_0 (n : Nat) (row : List Int) {v : Nat} (hv : v ≤ n) : gat (fresh n) row 0 v = .joined := apart_nil.mp (whole_iff.mp (whole_fresh n)).1 v hv
theorem fnd_since {n : Nat} {row : List Int} (hleg : legal (fresh n) row = true) : ∀ {m : Nat}, m ≤ row.length → ∀ e ∈ fnd (fresh n) row m, e.1 ≤ n ∧ 0 ≤ e.2.1 ∧ e.2.1 < (e.2.2 : Int) ∧ e.2.2 < m
  | 0, _, e, he => by cases he
  | m + 1, hm, e, he => by
    rw [fnd_step] at he
    rcases List.mem_append.mp he with z | z
    · obtain ⟨a, b, c, d⟩ := fnd_since hleg (by omega) e z
      exact ⟨a, b, c, by omega⟩
    · unfold stepP at z
      obtain ⟨v, hv, rfl⟩ := List.mem_map.mp z
      simp only [List.mem_filter, List.mem_range, Bool.and_eq_true, decide_eq_true_eq] at hv
      obtain ⟨hv, h1, h2⟩ := hv
      have hvn : v ≤ n := by
        have : v < n + 1 := hv
        omega
      obtain ⟨o, ho⟩ : ∃ o, row[m]? = some o := ⟨row[m], List.getElem?_eq_getElem (by omega)⟩
      have hok := okop_iff.mp (legal_at hleg ho)
      rw [after_n] at hok
      refine ⟨hvn, dec_change _ _ _ _ fun q => ?_, (dec_lt (fresh n) row v m).2, Nat.lt_succ_self m⟩
      rw [gat_0 n row hvn] at q
      have z2 := joined_put (wf_after (wf_fresh n) (legal_take hleg m)) (x := o.natAbs) (by omega) (by rw [after_n]; exact hok.2.1) q
      unfold gat at h2
      rw [after_take ho] at h2
      exact z2 h2
theorem filter_or {α : Type} (p q r : α → Bool) : ∀ l : List α, (∀ x ∈ l, r x = (p x || q x) ∧ (p x && q x) = false) → (l.filter p).length + (l.filter q).length = (l.filter r).length
  | [], _ => rfl
  | x :: l, h => by
    have ih := filter_or p q r l fun y hy => h y (List.mem_cons_of_mem _ hy)
    obtain ⟨h1, h2⟩ := h x List.mem_cons_self
    rw [List.filter_cons, List.filter_cons, List.filter_cons, h1]
    cases hp : p x <;> cases hq : q x <;> rw [hp, hq] at h2 <;> simp at h2 ⊢ <;> omega
theorem fnd_count {n : Nat} {row : List Int} (hleg : legal (fresh n) row = true) : ∀ {m : Nat}, m ≤ row.length → (fnd (fresh n) row m).length = ((List.range (n + 1)).filter fun v => decide (gat (fresh n) row m v = .lost)).length
  | 0, _ => by
    have e : ((List.range (n + 1)).filter fun v => decide (gat (fresh n) row 0 v = .lost)) = [] := by
      rw [List.filter_eq_nil_iff]
      intro v hv
      rw [gat_0 n row (by have := List.mem_range.mp hv; omega)]
      decide
    rw [e] <;> rfl
  | m + 1, hm => by
    rw [fnd_step, List.length_append, fnd_count hleg (by omega)]
    unfold stepP
    rw [List.length_map]
    refine filter_or _ _ _ _ fun v hv => ?_
    have hvn : v ≤ n := by
      have := List.mem_range.mp hv
      omega
    by_cases c : gat (fresh n) row m v = .lost
    · have c2 := gat_lost (wf_fresh n) hleg (by omega) hvn c
      rw [c, c2]
      exact ⟨rfl, rfl⟩
    · rw [decide_eq_false c, Bool.false_or, Bool.false_and]
      refine ⟨?_, rfl⟩
      by_cases c2 : gat (fresh n) row (m + 1) v = .lost
      · rw [decide_eq_true c2, decide_eq_true (show gat (fresh n) row (m + 1) v ≠ gat (fresh n) row m v from fun z => c (z ▸ c2))] <;> rfl
      · rw [decide_eq_false c2, Bool.and_false]
theorem fnd_few {n : Nat} {row : List Int} (hleg : legal (fresh n) row = true) : (fnd (fresh n) row row.length).length ≤ n + 1 := by
  rw [fnd_count hleg (Nat.le_refl _)]
  have := List.length_filter_le (fun v => decide (gat (fresh n) row row.length v = .lost)) (List.range (n + 1))
  rw [List.length_range] at this
  exact this
theorem code3 {x y z x' y' z' : Int} (h : TS.code 1024 [x, y, z] ≤ TS.code 1024 [x', y', z']) (b1 : 0 ≤ y ∧ y < 1024) (b2 : 0 ≤ z ∧ z < 1024) (b3 : 0 ≤ y' ∧ y' < 1024) (b4 : 0 ≤ z' ∧ z' < 1024) : x ≤ x' := by
  have h : x * 1024 ^ 2 + (y * 1024 ^ 1 + (z * 1024 ^ 0 + 0)) ≤ x' * 1024 ^ 2 + (y' * 1024 ^ 1 + (z' * 1024 ^ 0 + 0)) := h
  have e2 : (1024 : Int) ^ 2 = 1048576 := by decide
  have e1 : (1024 : Int) ^ 1 = 1024 := by decide
  have e0 : (1024 : Int) ^ 0 = 1 := by decide
  rw [e2, e1, e0] at h
  omega
theorem Trips.mem {H : Hp} : ∀ {ts : List Addr} {es : List (Nat × Int × Nat)}, Trips H ts es → (∀ t ∈ ts, ∃ e ∈ es, H t = some (.tup (trip e))) ∧ ∀ e ∈ es, ∃ t ∈ ts, H t = some (.tup (trip e))
  | [], [], _ => ⟨fun _ h => (nomatch h), fun _ h => (nomatch h)⟩
  | t :: ts, e :: es, h => by
    obtain ⟨a, b⟩ := Trips.mem h.2
    refine ⟨fun x hx => ?_, fun x hx => ?_⟩
    · rcases List.mem_cons.mp hx with rfl | hx
      · exact ⟨e, List.mem_cons_self, h.1⟩
      · obtain ⟨y, h1, h2⟩ := a x hx
        exact ⟨y, List.mem_cons_of_mem _ h1, h2⟩
    · rcases List.mem_cons.mp hx with rfl | hx
      · exact ⟨t, List.mem_cons_self, h.1⟩
      · obtain ⟨y, h1, h2⟩ := b x hx
        exact ⟨y, List.mem_cons_of_mem _ h1, h2⟩
theorem trip_ints (e : Nat × Int × Nat) : trip e = [(e.1 : Int), e.2.1, (e.2.2 : Int)].map V.int := rfl
/-- the least of the losses stands first among the sorted -/
theorem least_of {K : PySem.W.Frag} {H : Hp} {q : Addr} {es : List (Nat × Int × Nat)} {Q : VK} (F : FoundAt H q es) (hb : ∀ e ∈ es, e.1 < 1024 ∧ (0 ≤ e.2.1 ∧ e.2.1 < 1024) ∧ e.2.2 < 1024) (hl : es.length < 64) (hne : es ≠ [])
    (k : ∀ (t p : Addr) (e : Nat × Int × Nat) (rest : List V) (H' : Hp), e ∈ es → (∀ y ∈ es, e.1 ≤ y.1) → Same H H' → H' t = some (.tup (trip e)) → H' p = some (.lst (.ref t :: rest)) → Q (.ref p) H') : rSortU K 3 1024 [.ref q] H Q := by
  obtain ⟨ts, h1, h2⟩ := F.ex
  obtain ⟨m1, m2⟩ := h2.mem
  have tl := h2.len
  refine ⟨q, ts.map V.ref, rfl, SqL.of h1, by rw [List.length_map, tl]; exact hl, fun x hx => ?_, fun ys p hp pw np => ?_⟩
  · obtain ⟨t, ht, rfl⟩ := List.mem_map.mp hx
    obtain ⟨e, he, h3⟩ := m1 t ht
    obtain ⟨b1, b2, b3⟩ := hb e he
    refine ⟨[(e.1 : Int), e.2.1, (e.2.2 : Int)], ⟨t, rfl, SqT.of h3⟩, rfl, fun z hz => ?_⟩
    rcases List.mem_cons.mp hz with rfl | hz
    · omega
    rcases List.mem_cons.mp hz with rfl | hz
    · exact b2
    rw [List.mem_singleton.mp hz]
    omega
  · cases ys with
    | nil =>
      have := hp.length_eq
      rw [List.length_map, tl] at this
      cases es with
      | nil => exact absurd rfl hne
      | cons _ _ => cases this
    | cons y0 rest =>
      have hy0 := hp.mem_iff.mp (List.mem_cons_self (a := y0) (l := rest))
      obtain ⟨t0, ht0, rfl⟩ := List.mem_map.mp hy0
      obtain ⟨e0, he0, h0⟩ := m1 t0 ht0
      refine k t0 p e0 rest _ he0 (fun e he => ?_) (Same.up np) (Same.up np _ _ h0) upd_same
      obtain ⟨t, ht, h3⟩ := m2 e he
      have hm : V.ref t ∈ V.ref t0 :: rest := hp.mem_iff.mpr (List.mem_map.mpr ⟨t, ht, rfl⟩)
      rcases List.mem_cons.mp hm with z | z
      · injection z with z
        rw [z, h0] at h3
        injection h3 with h3
        injection h3 with h3
        have z2 := congrArg (fun l => l[0]?) h3
        have z3 : V.int (e0.1 : Int) = V.int (e.1 : Int) := Option.some.inj z2
        injection z3 with z3
        omega
      · have c := (List.pairwise_cons.mp pw).1 _ z [(e0.1 : Int), e0.2.1, (e0.2.2 : Int)] [(e.1 : Int), e.2.1, (e.2.2 : Int)] ⟨t0, rfl, SqT.of h0⟩ ⟨t, rfl, SqT.of h3⟩
        obtain ⟨_, b2, b3⟩ := hb e0 he0
        obtain ⟨_, c2, c3⟩ := hb e he
        have := code3 c b2 ⟨by omega, by omega⟩ c2 ⟨by omega, by omega⟩
        omega
theorem leads_lost {S : Sd} (w : WF S) (h : ¬ NoLost S) (row : List Int) : leads S row = false := by
  cases c : leads S row with
  | false => rfl
  | true =>
    unfold leads at c
    rw [Bool.and_eq_true, wholeB_iff] at c
    refine absurd (nolost_iff.mpr fun v hv e => ?_) h
    have q := lost_after w c.1 hv e
    have z := nolost_iff.mp (of_whole c.2).1 v (by rw [after_n]; exact hv)
    exact z q
theorem FoundAt.keepB {H H' : Hp} {b c q : Addr} {N : Nat} {es : List (Nat × Int × Nat)} (B : BoxAt H b c N) (F : FoundAt H q es) (k : KeepB b H H') : FoundAt H' q es := by
  obtain ⟨cs, u, v, z, hb, _⟩ := B.ex
  obtain ⟨ts, h1, _⟩ := F.ex
  have n := box_refs B h1
  exact F.lift (fun xs h => k _ _ h n) fun a xs h => k _ _ h (ne_of h hb (by intro z; cases z))
theorem BoxAt.keep {H H' : Hp} {a : LA} {b q : Addr} {N : Nat} (B : BoxAt H b q N) (k : Keep a H H') (n1 : a.l ≠ b ∧ a.r ≠ b ∧ a.f ≠ b) (n2 : a.l ≠ q ∧ a.r ≠ q ∧ a.f ≠ q) : BoxAt H' b q N := by
  obtain ⟨cs, u, v, c, h1, h2, h⟩ := B.ex
  exact ⟨cs, u, v, c, k _ _ h1 n1.1.symm n1.2.1.symm n1.2.2.symm, k _ _ h2 n2.1.symm n2.2.1.symm n2.2.2.symm, h⟩
/-- what is known of a log with losses -/
structure Lossy (n : Nat) (row : List Int) : Prop where
  hleg : legal (fresh n) row = true
  hn : n ≤ 60
  hlen : row.length ≤ 1000
  no : ¬ NoLost (after (fresh n) row)
theorem Lossy.wf {n : Nat} {row : List Int} (h : Lossy n row) : WF (after (fresh n) row) := wf_after (wf_fresh n) h.hleg
theorem Lossy.ne {n : Nat} {row : List Int} (h : Lossy n row) : fnd (fresh n) row row.length ≠ [] := fun z => h.no ((fnd_nil (wf_fresh n) (of_whole (whole_fresh n)).1 h.hleg).mp z)
theorem Lossy.sorted {n : Nat} {row : List Int} (h : Lossy n row) {K : PySem.W.Frag} {H : Hp} {q : Addr} {Q : VK} (F : FoundAt H q (fnd (fresh n) row row.length))
    (k : ∀ (t p : Addr) (g m : Nat) (r : List Nat) (rest : List V) (H' : Hp), lostL (after (fresh n) row) = g :: r → dec (fresh n) row g row.length = (m : Int) → Same H H' → H' t = some (.tup [.int (g : Int), .int (dec (fresh n) row g m), .int (m : Int)]) → H' p = some (.lst (.ref t :: rest)) → Q (.ref p) H') : rSortU K 3 1024 [.ref q] H Q := by
  have hn := h.hn
  have hlen := h.hlen
  refine least_of F (fun e he => ?_) (by have := fnd_few h.hleg; omega) h.ne fun t p e rest H' he hmin s et ep => ?_
  · obtain ⟨a, b, c, d⟩ := fnd_since h.hleg (Nat.le_refl _) e he
    exact ⟨by omega, ⟨b, by omega⟩, by omega⟩
  · obtain ⟨a, b, c, d⟩ := least_loss (wf_fresh n) (of_whole (whole_fresh n)).1 h.hleg he hmin
    cases q : lostL (after (fresh n) row) with
    | nil => rw [q] at a; cases a
    | cons g r =>
      rw [q] at a
      have eg : g = e.1 := Option.some.inj a
      refine k t p g e.2.2 r rest H' q (by rw [eg]; exact b) s ?_ ep
      rw [et, eg, d] <;> rfl
def Least (n : Nat) (row : List Int) (H : Hp) (p : Addr) (H' : Hp) : Prop := ∃ (t : Addr) (g m : Nat) (r : List Nat) (rest : List V), lostL (after (fresh n) row) = g :: r ∧ dec (fresh n) row g row.length = (m : Int) ∧ Same H H' ∧ H' t = some (.tup [.int (g : Int), .int (dec (fresh n) row g m), .int (m : Int)]) ∧ H' p = some (.lst (.ref t :: rest))
theorem Lossy.least {n : Nat} {row : List Int} (h : Lossy n row) (K : PySem.W.Frag) {H : Hp} {q : Addr} (F : FoundAt H q (fnd (fresh n) row row.length)) :
    ∃ xs : List V, SqL K H q xs ∧ xs.length < 64 ∧ (∀ x ∈ xs, ∃ ns, TupI K H x ns ∧ ns.length = 3 ∧ TS.Bd 1024 ns) ∧ ∀ (ys : List V) (p : Addr), ys.Perm xs → ys.Pairwise (fun x y => ∀ n m, TupI K H x n → TupI K H y m → TS.code 1024 n ≤ TS.code 1024 m) → H p = none → Least n row H p (upd H p (.lst ys)) := by
  obtain ⟨a, xs, e, h1, h2, h3, h4⟩ := h.sorted (K := K) (Q := fun v H' => ∃ p, v = .ref p ∧ Least n row H p H') F fun t p g m r rest H' h1 h2 h3 h4 h5 => ⟨p, rfl, t, g, m, r, rest, h1, h2, h3, h4, h5⟩
  cases e
  refine ⟨xs, h1, h2, h3, fun ys p k1 k2 k3 => ?_⟩
  obtain ⟨p', e, z⟩ := h4 ys p k1 k2 k3
  cases e
  exact z
theorem Lossy.more {n : Nat} {row more : List Int} (h : Lossy n row) (hl : legal (fresh n) (row ++ more) = true) (hz : (row ++ more).length ≤ 1000) : Lossy n (row ++ more) := by
  refine ⟨hl, h.hn, hz, fun z => h.no (nolost_iff.mpr fun v hv e => ?_)⟩
  rw [legal_append, Bool.and_eq_true] at hl
  have q := lost_after h.wf hl.2 hv e
  rw [← after_append] at q
  exact nolost_iff.mp z v (by rw [after_n] at hv ⊢; exact hv) q
end LL
namespace LL
open PySem PySem.Spec PyProof.Rows L2
/-! ### a log with a loss -/
def pD (g : Int) (s k : Int) : PyData := .tuple [.str "paper", .tuple [.int g, .int s, .int k]]
theorem dpP {K : PySem.W.Frag} {H : Hp} {t u : Addr} {g s k : Int} (ht : H t = some (.tup [.str "paper", .ref u])) (hu : H u = some (.tup [.int g, .int s, .int k])) : Dp K H (.ref t) (pD g s k) :=
  .tup (SqT.of ht) (.cons (.str _) (.cons (.tup (SqT.of hu) (.cons (.int _) (.cons (.int _) (.cons (.int _) .nil)))) .nil))
theorem szP {g s k : Int} : Sz 3 (pD g s k) := by
  refine sz_tup (by show 2 ≤ 1000; decide) fun e he => ?_
  rcases List.mem_cons.mp he with rfl | he
  · exact sz_str
  rw [List.mem_singleton.mp he]
  refine sz_tup (by show 3 ≤ 1000; decide) fun e he => ?_
  rcases List.mem_cons.mp he with rfl | he
  · exact sz_int
  rcases List.mem_cons.mp he with rfl | he
  · exact sz_int
  rw [List.mem_singleton.mp he]
  exact sz_int
theorem KeepB.put {b : Addr} {H H1 H2 : Hp} {c : LA} (x : KeepB b H H1) (k : Keep c H1 H2) (n1 : H c.l = none) (n2 : H c.r = none) (n3 : H c.f = none) : KeepB b H H2 := fun a o h n => k a o (x a o h n) (ne_of_none h n1) (ne_of_none h n2) (ne_of_none h n3)
theorem not_whole {S : Sd} (h : ¬ NoLost S) : wholeB S = false := by
  cases c : wholeB S with
  | false => rfl
  | true => exact absurd (of_whole (wholeB_iff.mp c)).1 h
def sp_beyond : Sp := fun vs H Q _ => ∃ (b q : Addr) (N n : Nat) (p : Addr) (row : List Int) (a : LA) (fd : Addr), vs = [.ref b, .int (n : Int), .ref p, .ref a.p, .ref fd] ∧ BoxAt H b q N ∧ N ≤ 400000 ∧ H p = some (.lst (row.map V.int)) ∧ row.length ≤ 100 ∧ 1 ≤ n ∧
  Lossy n row ∧ StAt H a (after (fresh n) row) ∧ FoundAt H fd (fnd (fresh n) row row.length) ∧ ∀ H', Q (.bl true) H'
section
variable {P : Program} {w : World} {K : PySem.W.Frag} {mg : Str → Option Value} {base : Heap}
theorem sc__law_beyond : FnScope ["_law_box_here", "_law_many", "_law_row", "_law_state", "_law_found", "_law_links", "_law_least", "_law_longer", "_law_now", "_law_k", "_law_gone", "_law_node", "_law_deed", "_law_part"] ["_law_box_here", "_law_many", "_law_row", "_law_state", "_law_found"] (defScope (top 82)) := ⟨rfl, rfl, rfl, by decide +kernel, rfl, by decide +kernel, by decide +kernel⟩
theorem ok__law_beyond (Z : Tx P w K mg base) : Pr P w K mg base 11 "_law_beyond" sp_beyond := by
  refine Z.pr0 65 50 (d := d__law_beyond) rfl rfl rfl rfl rfl sc__law_beyond (fun vs H Q E h => ?_) (fun _ _ _ _ _ _ us hl => match us, hl with | [_, _, _, _, _], _ => rfl) (fun f cdv A outer s H vs Q E hr h => ?_)
  · obtain ⟨b, q, N, n, p, row, a, fd, rfl, _⟩ := h
    rfl
  · obtain ⟨b, q, N, n, p, row, a, fd, rfl, B, hN, hp, hlen, n1, Y, A, F, k⟩ := h
    refine ⟨_, (pss_cons (ps_set (i := 5) sc__law_beyond.nd rfl (Or.inl rfl) (pc (ok_replay Z) hr (pa_cons (pv 1) (pa_cons (pe_callTy call_list_of (by rfl) (Z.free 63) (by decide +kernel) (pa_cons (pv 2) pa_nil)) pa_nil)))) (pss_cons (ps_set (i := 6) sc__law_beyond.nd rfl (Or.inl rfl) (pe_ix ix_list (pe_callB (cr_sortT (d := 3) (B := 1024) (by decide)) (by rfl) (Z.free 69) (by decide +kernel) (pa_cons (pv 4) pa_nil)) pe_int (fun _ _ => rfl))) (pss_cons (ps_set (i := 7) sc__law_beyond.nd rfl (Or.inl rfl) (pe_callTy call_list_of (by rfl) (Z.free 63) (by decide +kernel) (pa_cons (pv 2) pa_nil))) (pss_cons (ps_set (i := 8) sc__law_beyond.nd rfl (Or.inl rfl) (pc (ok__law_twin Z) hr (pa_cons (pv 3) pa_nil))) (pss_cons (ps_for PassesOwn.never rfl (pi_range1 rfl (Z.free 61) (pa_cons (pe_op op_add pe_int (pc (ok__law_draw Z) hr (pa_cons (pv 0) (pa_cons pe_int pa_nil)))) pa_nil)) (pg_name (i := 9) sc__law_beyond.nd rfl (Or.inl rfl)) (pss_cons (ps_if (pt_not (pt_val (pc (ok__law_same Z 3) hr (pa_cons (pc (ok__law_told Z) hr (pa_cons (pv 1) (pa_cons (pv 7) pa_nil))) (pa_cons (pc (ok__law_due Z) hr (pa_cons (pv 1) (pa_cons (pv 7) pa_nil))) pa_nil))))) (pss_one (ps_ret pe_bl)) pss_nil) (pss_cons (ps_set (i := 10) sc__law_beyond.nd rfl (Or.inl rfl) (pe_ix ix_list (pe_callB (cr_sortT (d := 3) (B := 1024) (by decide)) (by rfl) (Z.free 69) (by decide +kernel) (pa_cons (pe_ix ix_tup (pc (ok__law_book Z) hr (pa_cons (pv 1) (pa_cons (pv 7) pa_nil))) pe_int (fun _ _ => rfl)) pa_nil)) pe_int (fun _ _ => rfl))) (pss_cons (ps_if (pt_not (pt_val (pc (ok__law_same Z 3) hr (pa_cons (pc (ok__law_paper Z) hr (pa_cons (pv 1) (pa_cons (pv 7) pa_nil))) (pa_cons (pe_tup (pa_cons pe_str (pa_cons (pv 10) pa_nil))) pa_nil))))) (pss_one (ps_ret pe_bl)) pss_nil) (pss_cons (ps_if (pt_not (pt_val (pc (ok__law_same Z 3) hr (pa_cons (pc (ok__law_mend Z) hr (pa_cons (pc (ok_replay Z) hr (pa_cons (pv 1) (pa_cons (pv 7) pa_nil))) pa_nil)) (pa_cons (pe_tup (pa_cons pe_str (pa_cons (pe_ix ix_tup (pv 10) pe_int (fun _ _ => rfl)) (pa_cons pe_bl (pa_cons pe_bl pa_nil))))) pa_nil))))) (pss_one (ps_ret pe_bl)) pss_nil) (pss_cons (ps_set (i := 11) sc__law_beyond.nd rfl (Or.inl rfl) (pe_op op_add pe_int (pc (ok__law_draw Z) hr (pa_cons (pv 0) (pa_cons (pv 1) pa_nil))))) (Evl.pss_cut (ps_set (i := 12) sc__law_beyond.nd rfl (Or.inl rfl) (pe_ifExp (pt_val (pe_ix ix_list (pe_ix ix_list (pv 8) pe_int (fun _ _ => rfl)) (pv 11) (fun _ _ => rfl))) (pv 11) (pe_un un_neg (pv 11)))) (pss_cons (ps_expr (pc (ok__law_put Z) hr (pa_cons (pv 8) (pa_cons (pv 12) pa_nil)))) (pss_one (ps_expr (pe_bm PySem.F.plainAttrs_list PySem.F.slot_list_append PySem.F.type_list_append mt_append (pv 7) (pa_cons (pv 12) pa_nil)))))))))))) (pss_cons (ps_if (pt_not (pt_val (pc (ok__law_same Z 3) hr (pa_cons (pc (ok__law_mend Z) hr (pa_cons (pv 5) pa_nil)) (pa_cons (pe_tup (pa_cons pe_str (pa_cons (pe_ix ix_tup (pv 6) pe_int (fun _ _ => rfl)) (pa_cons pe_bl (pa_cons pe_bl pa_nil))))) pa_nil))))) (pss_one (ps_ret pe_bl)) pss_nil) (pss_cons (ps_for PassesOwn.never rfl (pi_list (pe_lst (pa_cons (pc (ok__law_outs Z) hr (pa_cons (pv 3) pa_nil)) (pa_cons (pe_slice sl_list (pv 7) (po_some (pe_callB call_len_seq (by rfl) (Z.free 60) PySem.boot_len (pa_cons (pv 2) pa_nil))) po_none) (pa_cons (pe_lst pa_nil) pa_nil))))) (pg_name (i := 13) sc__law_beyond.nd rfl (Or.inl rfl)) (pss_cons (ps_if (pt_not (pt_val (pc (ok__law_same Z 3) hr (pa_cons (pc (ok_is_repair Z) hr (pa_cons (pv 5) (pa_cons (pe_callTy call_list_of (by rfl) (Z.free 63) (by decide +kernel) (pa_cons (pv 13) pa_nil)) pa_nil))) (pa_cons pe_bl pa_nil))))) (pss_one (ps_ret pe_bl)) pss_nil) (pss_one (ps_if (pt_not (pt_val (pc (ok__law_same Z 3) hr (pa_cons (pc (ok_is_least_repair Z) hr (pa_cons (pv 5) (pa_cons (pe_callTy call_list_of (by rfl) (Z.free 63) (by decide +kernel) (pa_cons (pv 13) pa_nil)) pa_nil))) (pa_cons pe_bl pa_nil))))) (pss_one (ps_ret pe_bl)) pss_nil)))) (pss_one (ps_ret (pe_not (pe_ix ix_tup (pc (ok__law_told Z) hr (pa_cons (pv 1) (pa_cons (pv 7) pa_nil))) pe_int (fun _ _ => rfl)))))))))))), ?_⟩
    have hn := Y.hn
    have hSn : (after (fresh n) row).n = n := after_n _ _
    have hS60 : (after (fresh n) row).n ≤ 60 := by rw [hSn]; exact hn
    have pb := box_ints B hp
    -- the links
    refine ⟨_, rfl, _, rfl, _, _, rfl, Or.inl (SqL.of hp), fun x nx => ?_⟩
    have s1 : Same H (upd H x (.lst (row.map V.int))) := Same.up nx
    refine ⟨n, x, row, rfl, SqL.of upd_same, Y.hleg, hn, fun l H1 L s2 _ _ _ _ => ?_⟩
    have s3 := Same.trans s1 s2
    -- the least loss
    obtain ⟨xs0, f1, f2, f3, f4⟩ := Y.least K (F.same s3)
    refine ⟨_, rfl, _, xs0, rfl, f1, f2, f3, fun ys p0 k1 k2 k3 => ?_⟩
    obtain ⟨t0, g0, m0, r0, rest0, e0, d0, s4, et0, ep0⟩ := f4 ys p0 k1 k2 k3
    clear f1 f2 f3 f4 k1 k2 k3
    generalize upd H1 p0 (.lst ys) = H2 at s4 et0 ep0 ⊢
    refine ⟨_, _, _, _, rfl, rfl, SqL.of ep0, atI_nat (j := 0) rfl, ?_⟩
    have s5 := Same.trans s3 s4
    have B2 := B.same s5
    have L2' := L.same s4
    -- a longer log, and its standing
    refine ⟨_, rfl, _, _, rfl, Or.inl (SqL.of (s5 _ _ hp)), fun lg ng => ?_⟩
    have s6 : Same H2 (upd H2 lg (.lst (row.map V.int))) := Same.up ng
    refine ⟨_, rfl, a, _, rfl, (A.same s5).same s6, hS60, fun c H3 C s7 c1 c2 c3 c4 => ?_⟩
    have ng0 : H2 lg = none := ng
    have cn : H2 c.p = none ∧ H2 c.l = none ∧ H2 c.r = none ∧ H2 c.f = none := ⟨Same.free s6 c1, Same.free s6 c2, Same.free s6 c3, Same.free s6 c4⟩
    have lc : lg ≠ c.p ∧ lg ≠ c.l ∧ lg ≠ c.r ∧ lg ≠ c.f := ⟨ne_of_none upd_same c1, ne_of_none upd_same c2, ne_of_none upd_same c3, ne_of_none upd_same c4⟩
    have eg3 := s7 _ _ (upd_same (H := H2) (a := lg) (o := .lst (row.map V.int)))
    have s8 := Same.trans s6 s7
    have B3 := B2.same s8
    have lb : lg ≠ b := B2.ne ng0
    have cb : c.l ≠ b ∧ c.r ≠ b ∧ c.f ≠ b := ⟨B2.ne cn.2.1, B2.ne cn.2.2.1, B2.ne cn.2.2.2⟩
    have cq : c.l ≠ q ∧ c.r ≠ q ∧ c.f ≠ q := ⟨B2.ne2 cn.2.1, B2.ne2 cn.2.2.1, B2.ne2 cn.2.2.2⟩
    have lq : lg ≠ q := B2.ne2 ng0
    refine ⟨_, rfl, b, q, N, _, rfl, B3, by decide, by decide, by omega, fun d q4 H4 d1 d2 B4 k4 n4 => ⟨_, _, rfl, rfl, ?_⟩⟩
    have d2' : d < 6 := d2
    have C4 : StAt H4 c (after (fresh n) row) := C.keepB B3 k4
    refine ⟨_, rfl, by omega, by omega, ?_⟩
    refine for_range (lo := 0) (n := (1 + d).toNat) (fun i σ H' => ∃ (more : List Int) (q' : Addr) (v9 v10 v11 v12 : Option V), σ = [some (.ref b), some (.int (n : Int)), some (.ref p), some (.ref a.p), some (.ref fd), some (.ref l.p), some (.ref t0), some (.ref lg), some (.ref c.p), v9, v10, v11, v12, none] ∧
      legal (fresh n) (row ++ more) = true ∧ more.length ≤ i ∧ H' lg = some (.lst ((row ++ more).map V.int)) ∧ StAt H' c (after (fresh n) (row ++ more)) ∧ BoxAt H' b q' (N + 1 + i) ∧ KeepB b H2 H' ∧ lg ≠ q' ∧ (c.l ≠ q' ∧ c.r ≠ q' ∧ c.f ≠ q'))
      ⟨[], q4, none, none, none, none, rfl, by rw [List.append_nil]; exact Y.hleg, Nat.le_refl 0, by rw [List.append_nil]; exact k4 _ _ eg3 lb, by rw [List.append_nil]; exact C4, B4, KeepB.trans (Same.keepB s8) k4, n4.ne eg3 lq, n4.ne C.hl cq.1, n4.ne C.hr cq.2.1, n4.ne C.hf cq.2.2⟩ ?_ ?_
    · clear C4 B4 k4 n4 lq cq B3 s8 eg3 s7 C s6 c1 c2 c3 c4 ng
      rintro i σ H' hi ⟨more, q', v9, v10, v11, v12, rfl, hl, hz, eg, C, Bi, kb, lq, cq⟩
      have hz2 : (row ++ more).length ≤ 1000 := by rw [List.length_append]; omega
      have Yi := Y.more hl hz2
      have hnS : (after (fresh n) (row ++ more)).n = n := after_n _ _
      have hn60 : (after (fresh n) (row ++ more)).n ≤ 60 := by rw [hnS]; exact hn
      -- the verdict
      refine ⟨_, rfl, _, rfl, n, lg, _, rfl, SqL.of eg, hl, hn, hz2, fun t1 o1 Ha sa et1 eo1 => ?_⟩
      refine ⟨_, rfl, _, rfl, n, lg, _, rfl, SqL.of (sa _ _ eg), hl, hn, hz2, fun t2 o2 Hb sb et2 eo2 => ?_⟩
      refine ⟨_, _, _, rfl, dpW (sb _ _ et1) (sb _ _ eo1), dpW et2 eo2, szW hn, _, rfl, iteN rfl ?_⟩
      have sc := Same.trans sa sb
      clear et1 eo1 et2 eo2
      -- the least loss
      refine ⟨_, rfl, _, rfl, n, lg, _, rfl, SqL.of (sc _ _ eg), hl, hn, hz2, fun t3 a3 sn3 fd3 Hd sd et3 A3 es3 F3 _ _ _ _ _ _ => ?_⟩
      obtain ⟨xs, f1, f2, f3, f4⟩ := Yi.least K F3
      refine ⟨_, _, _, _, rfl, rfl, SqT.of et3, at3_2, _, xs, rfl, f1, f2, f3, fun ys p1 h1 h2 h3 => ?_⟩
      obtain ⟨tg, g, m, r, rest, eL, eD, se, etg, ep1⟩ := f4 ys p1 h1 h2 h3
      clear f1 f2 f3 f4 h1 h2 h3
      generalize upd Hd p1 (.lst ys) = He at se etg ep1 ⊢
      refine ⟨_, _, _, _, rfl, rfl, SqL.of ep1, atI_nat (j := 0) rfl, ?_⟩
      have sf := Same.trans (Same.trans sc sd) se
      -- the certificate
      refine ⟨_, rfl, _, rfl, n, lg, _, rfl, SqL.of (sf _ _ eg), hl, hn, (fun z => by rw [eL] at z; cases z), fun g' r' m' c' d' tp up Hg sg etp eup => ?_⟩
      rw [eL] at c'
      cases c'
      rw [eD] at d'
      have em : m = m' := by injection d'
      subst em
      refine ⟨_, rfl, (by show 2 ≤ sizeLine; decide), fun y ny => ?_⟩
      have sh := Same.new (o := .tup [.str "paper", .ref tg]) sg ny
      refine ⟨_, _, _, rfl, dpP (Same.up ny _ _ etp) (Same.up ny _ _ eup), dpP upd_same (sh _ _ etg), szP, _, rfl, iteN rfl ?_⟩
      have si := Same.trans sf sh
      have etg2 := sh _ _ etg
      -- no repair
      refine ⟨_, rfl, _, rfl, n, lg, _, rfl, SqL.of (si _ _ eg), hl, hn, fun l2 Hj L2 sj _ _ _ _ => ?_⟩
      refine ⟨l2, _, rfl, L2, Yi.wf, hn60, fun k2 g2 => absurd g2.nl Yi.no, fun g' r' c' t4 Hk sk et4 => ?_⟩
      rw [eL] at c'
      cases c'
      have etg3 := sk _ _ (sj _ _ etg2)
      refine ⟨_, rfl, _, _, _, _, rfl, rfl, SqT.of etg3, at3_0, (by show 4 ≤ sizeLine; decide), fun y2 ny2 => ?_⟩
      refine ⟨_, _, _, rfl, dpF (Same.up ny2 _ _ et4), dpF upd_same, szF, _, rfl, iteN rfl ?_⟩
      have sl := Same.new (o := .tup [.str "refused", .int (g : Int), .bl true, .bl false]) (Same.trans (Same.trans si sj) sk) ny2
      have Bl := Bi.same sl
      have Cl := C.same sl
      have kl := KeepB.trans kb (Same.keepB sl)
      have egl := sl _ _ eg
      clear et4 etg3 sk sj L2 etg2 si sh etp eup sg sf se etg ep1 sd et3 A3 es3 F3 sc sa sb
      -- one operation more
      refine ⟨_, rfl, _, rfl, b, q', _, _, rfl, Bl, by omega, by omega, by omega, fun dx q5 H5 x1 x2 B5 k5 n5 => ⟨_, _, rfl, rfl, ?_⟩⟩
      have C5 := Cl.keepB Bl k5
      have eg5 := k5 _ _ egl lb
      have kb5 := KeepB.trans kl k5
      have lq5 := n5.ne egl lq
      have cq5 : c.l ≠ q5 ∧ c.r ≠ q5 ∧ c.f ≠ q5 := ⟨n5.ne Cl.hl cq.1, n5.ne Cl.hr cq.2.1, n5.ne Cl.hf cq.2.2⟩
      obtain ⟨x, hx⟩ : ∃ x : Nat, 1 + dx = (x : Int) := ⟨(1 + dx).toNat, by omega⟩
      have hx1 : 1 ≤ x := by omega
      have hx2 : x ≤ n := by omega
      clear egl kl Cl Bl k5 n5
      refine ⟨fun σ' H6 => ∃ v9 v10 v11 : Option V, σ' = [some (.ref b), some (.int (n : Int)), some (.ref p), some (.ref a.p), some (.ref fd), some (.ref l.p), some (.ref t0), some (.ref lg), some (.ref c.p), v9, v10, v11, some (.int (opOn (after (fresh n) (row ++ more)) x)), none] ∧ H6 = H5, ?_, ?_⟩
      · refine ⟨_, rfl, _, _, _, _, rfl, rfl, SqL.of C5.ob, at3_2, _, rfl, _, _, _, _, rfl, rfl, SqL.of C5.hf, mk_atI (j := x) _ hx (by rw [hnS]; omega), _, rfl, iteB (fun cF => ?_) (fun cF => ?_)⟩
        · refine ⟨_, rfl, some (.int (0 + (i : Int))), some (.ref tg), some (.int (1 + dx)), ?_, rfl⟩
          unfold opOn
          rw [if_pos cF, ← hx] <;> rfl
        · refine ⟨_, rfl, _, rfl, some (.int (0 + (i : Int))), some (.ref tg), some (.int (1 + dx)), ?_, rfl⟩
          unfold opOn
          rw [cF, if_neg (by decide), ← hx] <;> rfl
      · rintro σ' H6 ⟨u9, u10, u11, rfl, rfl⟩
        have hok := okop_opOn (S := after (fresh n) (row ++ more)) hx1 (by rw [hnS]; exact hx2)
        refine ⟨_, rfl, _, rfl, c, _, _, rfl, C5, Yi.wf, hn60, hok, fun H7 C7 kp => ?_⟩
        have eg7 := kp _ _ eg5 lc.2.1 lc.2.2.1 lc.2.2.2
        have B7 := B5.keep kp cb cq5
        have kb7 := kb5.put kp cn.2.1 cn.2.2.1 cn.2.2.2
        refine ⟨_, rfl, Or.inl ⟨rfl, _, SqL.of eg7⟩, _, rfl, _, _, _, rfl, rfl, eg7, szlt (by rw [List.length_map]; omega), ?_⟩
        refine ⟨more ++ [opOn (after (fresh n) (row ++ more)) x], q5, _, _, _, some _, rfl, ?_, ?_, ?_, ?_, ?_, KeepB.past kb7 ng0, lq5, cq5⟩
        · rw [← List.append_assoc, legal_snoc, hl, hok] <;> rfl
        · rw [List.length_append]
          show more.length + 1 ≤ _
          omega
        · rw [upd_same, ← List.append_assoc, List.map_append (l₁ := row ++ more)] <;> rfl
        · rw [← List.append_assoc, after_snoc]
          exact ⟨by rw [upd_ne lc.1.symm]; exact C7.ob, by rw [upd_ne lc.2.2.1.symm]; exact C7.hr, by rw [upd_ne lc.2.1.symm]; exact C7.hl, by rw [upd_ne lc.2.2.2.symm]; exact C7.hf, C7.lr, C7.lf, C7.rf, C7.pr, C7.pl, C7.pf⟩
        · exact (B7.past lb lq5).mono (by omega)
    · clear C4 B4 k4 n4 lq cq B3 s8 eg3 s7 C s6 c1 c2 c3 c4 ng
      rintro σ H' ⟨more, q', v9, v10, v11, v12, rfl, hl, hz, eg, C, Bi, kb, lq, cq⟩
      have hz2 : (row ++ more).length ≤ 1000 := by rw [List.length_append]; omega
      have Yi := Y.more hl hz2
      have Le := L2'.keepB B2 kb
      have Ae := (A.same s5).keepB B2 kb
      have hpe := kb _ _ (s5 _ _ hp) pb
      have ete : H' t0 = some (.tup [.int (g0 : Int), .int (dec (fresh n) row g0 m0), .int (m0 : Int)]) := kb _ _ et0 (by
        obtain ⟨cs, u, v, z, hb, _⟩ := B2.ex
        exact ne_of et0 hb (by intro z; cases z))
      -- the links of old
      refine ⟨_, rfl, l, _, rfl, Le, Y.wf, hS60, fun k2 g2 => absurd g2.nl Y.no, fun g' r' c' t4 Ha sa et4 => ?_⟩
      rw [e0] at c'
      cases c'
      refine ⟨_, rfl, _, _, _, _, rfl, rfl, SqT.of (sa _ _ ete), at3_0, (by show 4 ≤ sizeLine; decide), fun y ny => ?_⟩
      refine ⟨_, _, _, rfl, dpF (Same.up ny _ _ et4), dpF upd_same, szF, _, rfl, iteN rfl ?_⟩
      have sb := Same.new (o := .tup [.str "refused", .int (g0 : Int), .bl true, .bl false]) sa ny
      -- three logs that don't lead to the whole list
      refine ⟨_, rfl, a, _, rfl, Ae.same sb, hS60, fun o Hc no sc eo => ?_⟩
      have sd := Same.trans sb sc
      refine ⟨_, rfl, _, rfl, _, _, rfl, Or.inl (SqL.of (sd _ _ hpe)), _, rfl, _, _, rfl, SqL.of (sd _ _ eg), fun z nz => ?_⟩
      obtain ⟨yz, lz, ez⟩ := cut_ints (row ++ more) (some ((row.map V.int).length : Int)) none
      rw [ez]
      have se := Same.new (o := .lst (yz.map V.int)) sd nz
      refine ⟨(by show 0 ≤ sizeLine; decide), fun u nu => ⟨(by show 3 ≤ sizeLine; decide), fun w nw => ⟨w, rfl, ⟨_, SqL.of upd_same⟩, ?_⟩⟩⟩
      have sf : Same Hc (upd (upd (upd Hc z (.lst (yz.map V.int))) u (.lst [])) w (.lst [.ref o, .ref z, .ref u])) := Same.trans (Same.trans (Same.up nz) (Same.up nu)) (Same.up nw)
      have eo2 := sf _ _ eo
      have ez2 : upd (upd (upd Hc z (.lst (yz.map V.int))) u (.lst [])) w (.lst [.ref o, .ref z, .ref u]) z = some (.lst (yz.map V.int)) := Same.up nw _ _ (Same.up nu _ _ upd_same)
      have eu2 : upd (upd (upd Hc z (.lst (yz.map V.int))) u (.lst [])) w (.lst [.ref o, .ref z, .ref u]) u = some (.lst (([] : List Int).map V.int)) := Same.up nw _ _ upd_same
      have ew2 : upd (upd (upd Hc z (.lst (yz.map V.int))) u (.lst [])) w (.lst [.ref o, .ref z, .ref u]) w = some (.lst [.ref o, .ref z, .ref u]) := upd_same
      generalize upd (upd (upd Hc z (.lst (yz.map V.int))) u (.lst [])) w (.lst [.ref o, .ref z, .ref u]) = Hf at sf eo2 ez2 eu2 ew2 ⊢
      have sg := Same.trans sd sf
      have Lf := Le.same sg
      have egf := sg _ _ eg
      have items : ∀ (j : Nat) (y : V), [V.ref o, .ref z, .ref u][j]? = some y → ∃ (x : Addr) (r' : List Int), y = .ref x ∧ Hf x = some (.lst (r'.map V.int)) := fun j y hy => by
        match j, hy with
        | 0, hy => exact ⟨o, (outs (after (fresh n) row)).map fun v : Nat => (v : Int), (Option.some.inj hy).symm, by rw [← nvs_ints]; exact eo2⟩
        | 1, hy => exact ⟨z, yz, (Option.some.inj hy).symm, ez2⟩
        | 2, hy => exact ⟨u, [], (Option.some.inj hy).symm, eu2⟩
      refine for_list (K := K) (a := w) (xs := [.ref o, .ref z, .ref u]) (fun j σ H' => ∃ v13 : Option V, σ = [some (.ref b), some (.int (n : Int)), some (.ref p), some (.ref a.p), some (.ref fd), some (.ref l.p), some (.ref t0), some (.ref lg), some (.ref c.p), v9, v10, v11, v12, v13] ∧ Same Hf H') ⟨none, rfl, Same.refl _⟩ (fun j σ H' _ ⟨_, _, s⟩ => Same.seq s (SqL.of ew2)) ?_ ?_
      · rintro j y σ H3 hy ⟨v13, rfl, s⟩
        obtain ⟨x, r', rfl, ex⟩ := items j y hy
        refine ⟨_, rfl, _, rfl, _, _, rfl, Or.inl (SqL.of (s _ _ ex)), fun x1 nx1 => ?_⟩
        have s2 := Same.new (o := .lst (r'.map V.int)) s nx1
        refine ⟨l, _, x1, r', rfl, Lf.same s2, Y.wf, hS60, SqL.of upd_same, fun H4 s4 => ⟨_, _, .bool false, rfl, ?_, .bl false, sz_bl, _, rfl, iteN rfl ?_⟩⟩
        · rw [leads_lost Y.wf Y.no]
          exact .bl false
        have s5 := Same.trans s2 s4
        refine ⟨_, rfl, _, rfl, _, _, rfl, Or.inl (SqL.of (s5 _ _ ex)), fun x2 nx2 => ?_⟩
        have s6 := Same.new (o := .lst (r'.map V.int)) s5 nx2
        refine ⟨l, _, x2, r', rfl, Lf.same s6, Y.wf, hS60, SqL.of upd_same, fun H7 s7 => ⟨_, _, .bool false, rfl, ?_, .bl false, sz_bl, _, rfl, iteN rfl ⟨some _, rfl, Same.trans s6 s7⟩⟩⟩
        rw [leads_lost Y.wf Y.no, Bool.false_and]
        exact .bl false
      · rintro σ H3 ⟨v13, rfl, s⟩
        refine ⟨_, rfl, _, rfl, n, lg, _, rfl, SqL.of (s _ _ egf), hl, hn, hz2, fun t5 o5 H4 s4 et5 eo5 => ?_⟩
        rw [not_whole Yi.no] at et5
        exact ⟨_, _, _, _, rfl, rfl, SqT.of et5, at4_3, false, rfl, k H4⟩
end
end LL
namespace LL
open PySem PySem.Spec PyProof.Rows L2
/-! ### the law's log -/
theorem legal_cons (S : Sd) (o : Int) (r : List Int) : legal S (o :: r) = (okop S o && legal (put S o.natAbs) r) := rfl
theorem okF {S : Sd} {x : Nat} (h1 : 1 ≤ x) (h2 : x ≤ S.n) (o : Int) (e : (o = (x : Int) ∧ S.F x = true) ∨ (o = -(x : Int) ∧ S.F x = false)) : okop S o = true := by
  rw [okop_iff]
  rcases e with ⟨rfl, f⟩ | ⟨rfl, f⟩
  · rw [Int.natAbs_natCast]
    exact ⟨by omega, h2, by rw [f]; exact (decide_eq_true (by omega)).symm⟩
  · rw [Int.natAbs_neg, Int.natAbs_natCast]
    exact ⟨by omega, h2, by rw [f]; exact (decide_eq_false (by omega)).symm⟩
theorem put_F (S : Sd) (x y : Nat) : (put S x).F y = if y = x then !S.F x else S.F y := by
  show updN S.F x (!S.F x) y = _
  unfold updN
  rfl
theorem pat (m : Nat) {w x y z : Nat} (w1 : 1 ≤ w) (w2 : w ≤ m) (x1 : 1 ≤ x) (x2 : x ≤ m) (y1 : 1 ≤ y) (y2 : y ≤ m) (z1 : 1 ≤ z) (z2 : z ≤ m) (wx : w ≠ x) (wy : w ≠ y) (wz : w ≠ z) (xy : x ≠ y) (xz : x ≠ z) (yz : y ≠ z) :
    legal (fresh m) [-(w : Int), -(x : Int), (w : Int), -(y : Int), -(z : Int)] = true := by
  rw [legal_cons, legal_cons, legal_cons, legal_cons, legal_cons]
  simp only [Int.natAbs_neg, Int.natAbs_natCast]
  have f0 : ∀ i, (fresh m).F i = false := fun _ => rfl
  rw [okF w1 w2 _ (.inr ⟨rfl, f0 _⟩), okF x1 x2 _ (.inr ⟨rfl, ?_⟩), okF w1 w2 _ (.inl ⟨rfl, ?_⟩), okF y1 y2 _ (.inr ⟨rfl, ?_⟩), okF z1 z2 _ (.inr ⟨rfl, ?_⟩)]
  · rfl
  all_goals simp [put_F, f0, wx, wy, wz, xy, xz, yz, wx.symm, wy.symm, wz.symm, xy.symm, xz.symm, yz.symm]
theorem pat1 {m a : Nat} (h : a + 4 ≤ m) : legal (fresh m) [-(a : Int) - 2, -(a : Int) - 3, (a : Int) + 2, -(a : Int) - 1, -(a : Int) - 4] = true := by
  have e := pat m (w := a + 2) (x := a + 3) (y := a + 1) (z := a + 4) (by omega) (by omega) (by omega) (by omega) (by omega) (by omega) (by omega) (by omega) (by omega) (by omega) (by omega) (by omega) (by omega) (by omega)
  rw [show -(a : Int) - 2 = -((a + 2 : Nat) : Int) by omega, show -(a : Int) - 3 = -((a + 3 : Nat) : Int) by omega, show (a : Int) + 2 = ((a + 2 : Nat) : Int) by omega, show -(a : Int) - 1 = -((a + 1 : Nat) : Int) by omega, show -(a : Int) - 4 = -((a + 4 : Nat) : Int) by omega]
  exact e
theorem pat2 {m a : Nat} (h : a + 4 ≤ m) : legal (fresh m) [-(a : Int) - 3, -(a : Int) - 2, (a : Int) + 3, -(a : Int) - 4, -(a : Int) - 1] = true := by
  have e := pat m (w := a + 3) (x := a + 2) (y := a + 4) (z := a + 1) (by omega) (by omega) (by omega) (by omega) (by omega) (by omega) (by omega) (by omega) (by omega) (by omega) (by omega) (by omega) (by omega) (by omega)
  rw [show -(a : Int) - 2 = -((a + 2 : Nat) : Int) by omega, show -(a : Int) - 3 = -((a + 3 : Nat) : Int) by omega, show (a : Int) + 3 = ((a + 3 : Nat) : Int) by omega, show -(a : Int) - 1 = -((a + 1 : Nat) : Int) by omega, show -(a : Int) - 4 = -((a + 4 : Nat) : Int) by omega]
  exact e
def sp_log : Sp := fun vs H Q _ => ∃ (b q : Addr) (N m : Nat), vs = [.ref b, .int (m : Int), .int 16] ∧ BoxAt H b q N ∧ m ≤ 60 ∧ N ≤ 500000 ∧
  ∀ (row : List Int) (p q' : Addr) (H' : Hp), legal (fresh m) row = true → row.length ≤ 21 → BoxAt H' b q' (N + 60) → KeepB b H H' → CN H q q' → H p = none → p ≠ q' → H' p = some (.lst (row.map V.int)) → Q (.ref p) H'
section
variable {P : Program} {w : World} {K : PySem.W.Frag} {mg : Str → Option Value} {base : Heap}
theorem sc__law_log : FnScope ["_law_box_here", "_law_many", "_law_limit", "_law_row", "_law_low", "_law_at", "_law_outs_here", "_law_deed", "_law_wide", "_law_k", "_law_node"] ["_law_box_here", "_law_many", "_law_limit"] (defScope (top 72)) := ⟨rfl, rfl, rfl, by decide +kernel, rfl, by decide +kernel, by decide +kernel⟩
theorem ok__law_log (Z : Tx P w K mg base) : Pr P w K mg base 2 "_law_log" sp_log := by
  refine Z.pr0 55 40 (d := d__law_log) rfl rfl rfl rfl rfl sc__law_log (fun vs H Q E h => ?_) (fun _ _ _ _ _ _ us hl => match us, hl with | [_, _, _], _ => rfl) (fun f cdv A outer s H vs Q E hr h => ?_)
  · obtain ⟨b, q, N, m, rfl, _⟩ := h
    rfl
  · obtain ⟨b, q0, N, m, rfl, B, hm, hN, k⟩ := h
    refine ⟨_, (pss_cons (ps_if (pt_cmpR op_eq (pv 1) pe_int (nomark _)) (pss_one (ps_ret (pe_lst pa_nil))) pss_nil) (pss_cons (ps_set (i := 3) sc__law_log.nd rfl (Or.inl rfl) (pe_lst pa_nil)) (pss_cons (ps_set (i := 4) sc__law_log.nd rfl (Or.inl rfl) (pc (ok__law_draw Z) hr (pa_cons (pv 0) (pa_cons (pv 1) pa_nil)))) (Evl.pss_cut (ps_if (PW.pt (pw_and (pt_cmpR op_gt (pv 1) pe_int (nomark _)) (pw_and1 (pt_cmpR op_eq (pc (ok__law_draw Z) hr (pa_cons (pv 0) (pa_cons pe_int pa_nil))) pe_int (nomark _))))) (pss_cons (ps_set (i := 5) sc__law_log.nd rfl (Or.inl rfl) (pe_callB (call_min2 rfl) (by rfl) (Z.free 68) (by decide +kernel) (pa_cons (pv 4) (pa_cons (pe_op op_sub (pv 1) pe_int) pa_nil)))) (pss_cons (ps_set (i := 3) sc__law_log.nd rfl (Or.inl rfl) (pe_lst (pa_cons (pe_op op_sub (pe_un un_neg (pv 5)) pe_int) (pa_cons (pe_op op_sub (pe_un un_neg (pv 5)) pe_int) (pa_cons (pe_op op_add (pv 5) pe_int) (pa_cons (pe_op op_sub (pe_un un_neg (pv 5)) pe_int) (pa_cons (pe_op op_sub (pe_un un_neg (pv 5)) pe_int) pa_nil))))))) (Evl.pss_cut (ps_if (pt_cmpR op_eq (pc (ok__law_draw Z) hr (pa_cons (pv 0) (pa_cons pe_int pa_nil))) pe_int (nomark _)) (pss_one (ps_set (i := 3) sc__law_log.nd rfl (Or.inl rfl) (pe_lst (pa_cons (pe_op op_sub (pe_un un_neg (pv 5)) pe_int) (pa_cons (pe_op op_sub (pe_un un_neg (pv 5)) pe_int) (pa_cons (pe_op op_add (pv 5) pe_int) (pa_cons (pe_op op_sub (pe_un un_neg (pv 5)) pe_int) (pa_cons (pe_op op_sub (pe_un un_neg (pv 5)) pe_int) pa_nil)))))))) pss_nil) (pss_one (ps_set (i := 3) sc__law_log.nd rfl (Or.inl rfl) (pe_slice sl_list (pv 3) po_none (po_some (pe_op op_add pe_int (pc (ok__law_draw Z) hr (pa_cons (pv 0) (pa_cons pe_int pa_nil))))))))))) pss_nil) (pss_cons (ps_set (i := 6) sc__law_log.nd rfl (Or.inl rfl) (pe_op op_rep (pe_lst (pa_cons pe_bl pa_nil)) (pe_op op_add (pv 1) pe_int))) (Evl.pss_cut (ps_for PassesOwn.never rfl (pi_list (pv 3)) (pg_name (i := 7) sc__law_log.nd rfl (Or.inl rfl)) (pss_one (ps_asg (pe_cmpR op_lt (pv 7) pe_int (nomark _)) (pg_sub (pv 6) (pe_callB call_abs (by rfl) (Z.free 62) (by decide +kernel) (pa_cons (pv 7) pa_nil)) set_list)))) (Evl.pss_cut (ps_set (i := 8) sc__law_log.nd rfl (Or.inl rfl) (pe_op op_add pe_int (pc (ok__law_draw Z) hr (pa_cons (pv 0) (pa_cons (pe_callB (call_min2 rfl) (by rfl) (Z.free 68) (by decide +kernel) (pa_cons (pv 1) (pa_cons pe_int pa_nil))) pa_nil))))) (pss_cons (ps_for PassesOwn.never rfl (pi_range1 rfl (Z.free 61) (pa_cons (pc (ok__law_draw Z) hr (pa_cons (pv 0) (pa_cons (pe_op op_add (pv 2) pe_int) pa_nil))) pa_nil)) (pg_name (i := 9) sc__law_log.nd rfl (Or.inl rfl)) (pss_cons (ps_set (i := 10) sc__law_log.nd rfl (Or.inl rfl) (pe_op op_add pe_int (pe_op op_mod (pe_callTy call_int1 (by rfl) (Z.free 65) (by decide +kernel) (pa_cons (pe_op op_add (pv 4) (pc (ok__law_draw Z) hr (pa_cons (pv 0) (pa_cons (pv 8) pa_nil)))) pa_nil)) (pv 1)))) (Evl.pss_cut (ps_if (pt_cmpR op_eq (pc (ok__law_draw Z) hr (pa_cons (pv 0) (pa_cons pe_int pa_nil))) pe_int (nomark _)) (pss_one (ps_set (i := 10) sc__law_log.nd rfl (Or.inl rfl) (pe_op op_add pe_int (pc (ok__law_draw Z) hr (pa_cons (pv 0) (pa_cons (pv 1) pa_nil)))))) pss_nil) (Evl.pss_cut (ps_expr (pe_bm PySem.F.plainAttrs_list PySem.F.slot_list_append PySem.F.type_list_append mt_append (pv 3) (pa_cons (pe_ifExp (pt_val (pe_ix ix_list (pv 6) (pv 10) (fun _ _ => rfl))) (pv 10) (pe_un un_neg (pv 10))) pa_nil))) (pss_one (ps_asg (pe_not (pe_ix ix_list (pv 6) (pv 10) (fun _ _ => rfl))) (pg_sub (pv 6) (pv 10) set_list))))))) (pss_one (ps_ret (pv 3))))))))))), ?_⟩
    refine ⟨_, rfl, rfl, _, rfl, ?_⟩
    show if (decide (V.int (m : Int) = V.int 0)) = true then _ else _
    refine iteB (fun c0 => ?_) (fun c0 => ?_)
    · exact ⟨(by show 0 ≤ sizeLine; decide), fun p np => k [] p q0 _ rfl (Nat.zero_le _) ((B.same (Same.up np)).mono (by omega)) (Same.keepB (Same.up np)) (.inl rfl) np (B.ne2 np) upd_same⟩
    have m1 : 1 ≤ m := by
      have := of_decide_eq_false c0
      by_cases z : m = 0
      · subst z
        exact absurd rfl this
      · omega
    refine ⟨(by show 0 ≤ sizeLine; decide), fun p np => ?_⟩
    refine ⟨_, rfl, _, rfl, b, q0, N, _, rfl, B.same (Same.up np), by omega, by omega, by omega, fun low q1 H1 l1 l2 B1 k1 n1 => ?_⟩
    have k01 : KeepB b H H1 := KeepB.trans (Same.keepB (Same.up np)) k1
    have n01 : CN H q0 q1 := CN.same n1 (Same.up np)
    have e1 : H1 p = some (.lst []) := k1 _ _ upd_same (B.ne np)
    have p1 : p ≠ q1 := n1.ne upd_same (B.ne2 np)
    refine ⟨fun σ' H' => ∃ (row : List Int) (p q : Addr) (v5 : Option V), σ' = [some (.ref b), some (.int (m : Int)), some (.int 16), some (.ref p), some (.int low), v5, none, none, none, none, none] ∧ legal (fresh m) row = true ∧ row.length ≤ 5 ∧ BoxAt H' b q (N + 4) ∧ KeepB b H H' ∧ CN H q0 q ∧ H p = none ∧ p ≠ q ∧ H' p = some (.lst (row.map V.int)), ?_, ?_⟩
    · refine ⟨_, rfl, _, _, rfl, rfl, _, rfl, iteB (fun c1 => ?_) (fun c1 => ?_)⟩
      · have c1 := of_decide_eq_true c1
        refine ⟨_, rfl, b, q1, _, _, rfl, B1, by omega, by omega, by omega, fun r q2 H2 r1 r2 B2 k2 n2 => ⟨rfl, _, rfl, ?_⟩⟩
        have k02 := KeepB.trans k01 k2
        have n02 := CN.trans B1 k01 n01 n2
        have e2 := k2 _ _ e1 (B.ne np)
        have p2 : p ≠ q2 := n2.ne e1 p1
        show if (decide (V.int r = V.int 0)) = true then _ else _
        refine iteB (fun c2 => ?_) (fun c2 => ?_)
        · refine ⟨_, rfl, _, rfl, _, _, rfl, rfl, _, _, rfl, ?_⟩
          have a0 : ∃ a : Nat, (if (m : Int) - 4 < low then (m : Int) - 4 else low) = (a : Int) ∧ a + 4 ≤ m := by
            split
            · exact ⟨m - 4, by omega, by omega⟩
            · exact ⟨low.toNat, by omega, by omega⟩
          obtain ⟨a, ea, ha⟩ := a0
          rw [ea]
          refine ⟨_, rfl, _, rfl, _, _, rfl, rfl, _, rfl, _, rfl, _, _, rfl, rfl, _, rfl, _, _, rfl, rfl, _, rfl, _, rfl, _, _, rfl, rfl, _, rfl, _, rfl, _, _, rfl, rfl, (by show 5 ≤ sizeLine; decide), fun y ny => ?_⟩
          have k03 := KeepB.new (o := .lst [.int (-(a : Int) - 2), .int (-(a : Int) - 3), .int ((a : Int) + 2), .int (-(a : Int) - 1), .int (-(a : Int) - 4)]) k02 ny
          have yb := B2.ne ny
          have y2 := B2.ne2 ny
          refine ⟨fun σ' H' => ∃ (row : List Int) (p q : Addr), σ' = [some (.ref b), some (.int (m : Int)), some (.int 16), some (.ref p), some (.int low), some (.int (a : Int)), none, none, none, none, none] ∧ legal (fresh m) row = true ∧ row.length ≤ 5 ∧ BoxAt H' b q (N + 3) ∧ KeepB b H H' ∧ CN H q0 q ∧ p ≠ b ∧ p ≠ q ∧ H' p = some (.lst (row.map V.int)), ?_, ?_⟩
          · refine ⟨_, rfl, b, q2, _, _, rfl, B2.same (Same.up ny), by omega, by omega, by omega, fun r' q3 H3 r1' r2' B3 k3 n3 => ⟨rfl, _, rfl, ?_⟩⟩
            have k04 := KeepB.trans k03 k3
            have n03 := CN.trans B2 k02 n02 (CN.same n3 (Same.up ny))
            show if (decide (V.int r' = V.int 1)) = true then _ else _
            refine iteB (fun c3 => ?_) (fun c3 => ?_)
            · refine ⟨_, rfl, _, rfl, _, _, rfl, rfl, _, rfl, _, rfl, _, _, rfl, rfl, _, rfl, _, _, rfl, rfl, _, rfl, _, rfl, _, _, rfl, rfl, _, rfl, _, rfl, _, _, rfl, rfl, (by show 5 ≤ sizeLine; decide), fun z nz => ?_⟩
              exact ⟨[-(a : Int) - 3, -(a : Int) - 2, (a : Int) + 3, -(a : Int) - 4, -(a : Int) - 1], z, q3, rfl, pat2 ha, Nat.le_refl 5, B3.same (Same.up nz), KeepB.new k04 nz, n03, B3.ne nz, B3.ne2 nz, upd_same⟩
            · exact ⟨[-(a : Int) - 2, -(a : Int) - 3, (a : Int) + 2, -(a : Int) - 1, -(a : Int) - 4], y, q3, rfl, pat1 ha, Nat.le_refl 5, B3, k04, n03, yb, n3.ne upd_same y2, k3 _ _ upd_same yb⟩
          · rintro σ' H3 ⟨row, y, q3, rfl, hleg, hlen, B3, k3, n3, yb, yq, ey⟩
            refine ⟨_, rfl, _, rfl, b, q3, _, _, rfl, B3, by omega, by omega, by omega, fun d q4 H4 d1 d2 B4 k4 n4 => ?_⟩
            refine ⟨_, _, rfl, rfl, _, rfl, _, _, rfl, SqL.of (k4 _ _ ey yb), fun z nz => ?_⟩
            have k05 := KeepB.trans k3 k4
            rw [show (3 : Int) + d = ((3 + d.toNat : Nat) : Int) by omega, cutV_to, ← List.map_take]
            exact ⟨_, z, q4, some (.int (a : Int)), rfl, legal_take hleg _, by rw [List.length_take]; omega, B4.same (Same.up nz), KeepB.new k05 nz, CN.trans B3 k3 n3 n4, KeepB.free B4 k05 nz, B4.ne2 nz, upd_same⟩
        · exact ⟨[], p, q2, none, rfl, rfl, Nat.zero_le _, B2.mono (by omega), k02, n02, np, p2, e2⟩
      · exact ⟨[], p, q1, none, rfl, rfl, Nat.zero_le _, B1.mono (by omega), k01, n01, np, p1, e1⟩
    clear p1 e1 n01 k01
    rintro σ' H2 ⟨row, p, q, v5, rfl, hleg, hlen, B2, k2, n2, np, pq, ep⟩
    refine ⟨(by show 1 ≤ sizeLine; decide), fun t nt => ?_⟩
    refine ⟨_, rfl, _, _, rfl, rfl, _, _, _, rfl, rfl, upd_same, by omega, by omega, sz60 (by show 1 * _ ≤ _; omega), fun f nf => ?_⟩
    rw [rep_mk, show ((m : Int) + 1).toNat = m + 1 by omega]
    have nf0 : H2 f = none := upd_free nf
    have B3 := (B2.same (Same.up (o := .lst [.bl false]) nt)).same (Same.up (o := .lst (mk (m + 1) fun _ => .bl false)) nf)
    have k3 : KeepB b H2 (upd (upd H2 t (.lst [.bl false])) f (.lst (mk (m + 1) fun _ => .bl false))) := Same.keepB (Same.trans (Same.up nt) (Same.up nf))
    have pb : p ≠ b := B.ne np
    have fb : f ≠ b := B2.ne nf0
    have fq : f ≠ q := B2.ne2 nf0
    have pf : p ≠ f := ne_of_none ep nf0
    refine ⟨fun σ' H' => ∃ v7 : Option V, σ' = [some (.ref b), some (.int (m : Int)), some (.int 16), some (.ref p), some (.int low), v5, some (.ref f), v7, none, none, none] ∧ H' f = some (.lst (mk (m + 1) fun i => .bl ((after (fresh m) row).F i))) ∧ KeepB b H2 H' ∧ BoxAt H' b q (N + 4), ?_, ?_⟩
    · refine ⟨_, rfl, p, rfl, ⟨_, SqL.of (k3 _ _ ep pb)⟩, ?_⟩
      refine for_list (K := K) (a := p) (xs := row.map V.int) (fun i σ H' => ∃ v7 : Option V, σ = [some (.ref b), some (.int (m : Int)), some (.int 16), some (.ref p), some (.int low), v5, some (.ref f), v7, none, none, none] ∧ H' f = some (.lst (mk (m + 1) fun j => .bl ((after (fresh m) (row.take i)).F j))) ∧ KeepB b H2 H' ∧ BoxAt H' b q (N + 4))
        ⟨none, rfl, upd_same, k3, B3⟩ (fun i σ H' _ ⟨_, _, _, kb, _⟩ => SqL.of (kb _ _ ep pb)) ?_ ?_
      · rintro i y σ H' hy ⟨v7, rfl, ef, kb, Bi⟩
        obtain ⟨o, ho, rfl⟩ := row_at hy
        have hok := legal_at hleg ho
        have ok := okop_iff.mp hok
        rw [after_n] at ok
        have ok2 : o.natAbs ≤ m := ok.2.1
        refine ⟨_, rfl, _, _, rfl, rfl, _, rfl, _, rfl, _, rfl, _, _, _, _, rfl, rfl, ef, mk_ixN _ (abs_int o) (by omega), ?_⟩
        refine ⟨_, rfl, ?_, KeepB.past kb nf0, Bi.past fb fq⟩
        rw [upd_same, mk_set, after_take ho]
        refine congrArg some (congrArg HO.lst (mk_congr fun j hj => ?_))
        unfold updN
        by_cases c : j = o.natAbs
        · rw [if_pos c, c, okop_F hok]
        · rw [if_neg c]
          show _ = V.bl (updN _ _ _ j)
          rw [updN_ne _ _ c]
      · rintro σ H' ⟨v7, rfl, ef, kb, Bi⟩
        rw [List.length_map, List.take_length] at ef
        exact ⟨v7, rfl, ef, kb, Bi⟩
    rintro σ' H3 ⟨v7, rfl, ef, k4, B4⟩
    have k03 := KeepB.trans k2 k4
    have ep3 := k4 _ _ ep pb
    have f0 : H f = none := KeepB.free B2 k2 nf0
    clear k3 B3 k4
    refine ⟨fun σ' H' => ∃ (wd : Int) (q' : Addr), σ' = [some (.ref b), some (.int (m : Int)), some (.int 16), some (.ref p), some (.int low), v5, some (.ref f), v7, some (.int wd), none, none] ∧ 1 ≤ wd ∧ wd ≤ 60 ∧ H' f = some (.lst (mk (m + 1) fun i => .bl ((after (fresh m) row).F i))) ∧ H' p = some (.lst (row.map V.int)) ∧ KeepB b H H' ∧ BoxAt H' b q' (N + 5) ∧ CN H q0 q' ∧ p ≠ q' ∧ f ≠ q', ?_, ?_⟩
    · refine ⟨_, rfl, _, rfl, _, _, rfl, b, q, _, _, rfl, B4, (by split <;> omega), (by split <;> omega), by omega, fun d q4 H4 d1 d2 B5 k5 n5 => ?_⟩
      refine ⟨_, _, rfl, rfl, 1 + d, q4, rfl, by omega, by (split at d2 <;> omega), k5 _ _ ef fb, k5 _ _ ep3 pb, KeepB.trans k03 k5, B5, CN.trans B4 k03 n2 n5, n5.ne ep3 pq, n5.ne ef fq⟩
    clear ep3 ef k03 B4 fq pq n2 B2
    rintro σ' H4 ⟨wd, q4, rfl, w1, w2, ef, ep4, k4, B4, n4, pq, fq⟩
    refine ⟨_, rfl, _, rfl, _, _, rfl, rfl, b, q4, _, _, rfl, B4, by decide, by decide, by omega, fun d q5 H5 d1 d2 B5 k5 n5 => ?_⟩
    have d2' : d < 17 := d2
    refine ⟨_, rfl, by omega, by omega, for_range (lo := 0) (n := d.toNat) (fun i σ H' => ∃ (more : List Int) (q' : Addr) (v9 v10 : Option V), σ = [some (.ref b), some (.int (m : Int)), some (.int 16), some (.ref p), some (.int low), v5, some (.ref f), v7, some (.int wd), v9, v10] ∧ legal (fresh m) more = true ∧ more.length ≤ 5 + i ∧ H' f = some (.lst (mk (m + 1) fun j => .bl ((after (fresh m) more).F j))) ∧ H' p = some (.lst (more.map V.int)) ∧ KeepB b H H' ∧ BoxAt H' b q' (N + 6 + 3 * i) ∧ CN H q0 q' ∧ p ≠ q' ∧ f ≠ q')
      ⟨row, q5, none, none, rfl, hleg, hlen, k5 _ _ ef fb, k5 _ _ ep4 pb, KeepB.trans k4 k5, B5, CN.trans B4 k4 n4 n5, n5.ne ep4 pq, n5.ne ef fq⟩ ?_ ?_⟩
    · clear ep4 ef k4 B4 fq pq n4 k5 n5 B5
      rintro i σ H' hi ⟨more, q6, v9, v10, rfl, hlg, hln, ef, ep, k6, B6, n6, pq, fq⟩
      have hmore : (after (fresh m) more).n = m := after_n _ _
      refine ⟨_, rfl, _, rfl, _, rfl, b, q6, _, _, rfl, B6, by omega, by omega, by omega, fun e q7 H7 e1 e2 B7 k7 n7 => ⟨_, _, rfl, rfl, Or.inl ⟨_, rfl, _, rfl, _, _, rfl, rfl, by omega, _, _, rfl, rfl, ?_⟩⟩⟩
      have w1 := Int.emod_nonneg (low + e) (show (m : Int) ≠ 0 by omega)
      have w2 := Int.emod_lt_of_pos (low + e) (show (0 : Int) < m by omega)
      have ef7 := k7 _ _ ef fb
      have ep7 := k7 _ _ ep pb
      have k07 := KeepB.trans k6 k7
      have n07 := CN.trans B6 k6 n6 n7
      have p7 := n7.ne ep pq
      have f7 := n7.ne ef fq
      refine ⟨fun σ' H8 => ∃ (x : Nat) (q8 : Addr), σ' = [some (.ref b), some (.int (m : Int)), some (.int 16), some (.ref p), some (.int low), v5, some (.ref f), v7, some (.int wd), some (.int (0 + (i : Int))), some (.int (x : Int))] ∧ 1 ≤ x ∧ x ≤ m ∧ H8 f = some (.lst (mk (m + 1) fun j => .bl ((after (fresh m) more).F j))) ∧ H8 p = some (.lst (more.map V.int)) ∧ KeepB b H H8 ∧ BoxAt H8 b q8 (N + 6 + 3 * i + 3) ∧ CN H q0 q8 ∧ p ≠ q8 ∧ f ≠ q8, ?_, ?_⟩
      · refine ⟨_, rfl, b, q7, _, _, rfl, B7, by decide, by decide, by omega, fun y q8 H8 y1 y2 B8 k8 n8 => ⟨rfl, _, rfl, ?_⟩⟩
        have ef8 := k8 _ _ ef7 fb
        have ep8 := k8 _ _ ep7 pb
        have k08 := KeepB.trans k07 k8
        have n08 := CN.trans B7 k07 n07 n8
        have p8 := n8.ne ep7 p7
        have f8 := n8.ne ef7 f7
        show if (decide (V.int y = V.int 0)) = true then _ else _
        refine iteB (fun c => ?_) (fun c => ?_)
        · refine ⟨_, rfl, _, rfl, b, q8, _, _, rfl, B8, by omega, by omega, by omega, fun z q9 H9 z1 z2 B9 k9 n9 => ⟨_, _, rfl, rfl, z.toNat + 1, q9, ?_, by omega, by omega, k9 _ _ ef8 fb, k9 _ _ ep8 pb, KeepB.trans k08 k9, B9.mono (by omega), CN.trans B8 k08 n08 n9, n9.ne ep8 p8, n9.ne ef8 f8⟩⟩
          rw [show ((z.toNat + 1 : Nat) : Int) = 1 + z by omega] <;> rfl
        · refine ⟨((low + e) % (m : Int)).toNat + 1, q8, ?_, by omega, by omega, ef8, ep8, k08, B8.mono (by omega), n08, p8, f8⟩
          rw [show ((((low + e) % (m : Int)).toNat + 1 : Nat) : Int) = 1 + (low + e) % (m : Int) by omega] <;> rfl
      · rintro σ' H8 ⟨x, q8, rfl, x1, x2, ef8, ep8, k8, B8, n8, p8, f8⟩
        have pf : p ≠ f := fun z => by
          rw [z] at ep8
          rw [ep8] at ef8
          injection ef8 with z2
          injection z2 with z3
          have z4 := congrArg (fun l => l[0]?) z3
          rw [mk_at _ (Nat.succ_pos m)] at z4
          rw [List.getElem?_map] at z4
          obtain ⟨_, _, z5⟩ := Option.map_eq_some_iff.mp z4
          cases z5
        have hok := okop_opOn (S := after (fresh m) more) x1 (by rw [hmore]; exact x2)
        refine ⟨fun σ' H9 => σ' = [some (.ref b), some (.int (m : Int)), some (.int 16), some (.ref p), some (.int low), v5, some (.ref f), v7, some (.int wd), some (.int (0 + (i : Int))), some (.int (x : Int))] ∧ H9 = upd H8 p (.lst ((more ++ [opOn (after (fresh m) more) x]).map V.int)), ?_, ?_⟩
        · refine ⟨_, rfl, Or.inl ⟨rfl, _, SqL.of ep8⟩, _, rfl, _, rfl, _, _, _, _, rfl, rfl, SqL.of ef8, mk_atI (j := x) _ rfl (by omega), _, rfl, iteB (fun c => ?_) (fun c => ?_)⟩
          · refine ⟨_, rfl, _, _, _, rfl, rfl, ep8, szlt (by rw [List.length_map]; omega), rfl, ?_⟩
            unfold opOn
            rw [if_pos c, List.map_append] <;> rfl
          · refine ⟨_, rfl, _, rfl, _, _, _, rfl, rfl, ep8, szlt (by rw [List.length_map]; omega), rfl, ?_⟩
            unfold opOn
            rw [c, if_neg (by decide), List.map_append] <;> rfl
        · rintro σ' H9 ⟨rfl, rfl⟩
          have ef9 : upd H8 p (.lst ((more ++ [opOn (after (fresh m) more) x]).map V.int)) f = some (.lst (mk (m + 1) fun j => .bl ((after (fresh m) more).F j))) := by
            rw [upd_ne pf.symm]
            exact ef8
          have B9 := B8.past (o := .lst ((more ++ [opOn (after (fresh m) more) x]).map V.int)) pb p8
          refine ⟨_, rfl, _, rfl, _, _, _, _, rfl, rfl, SqL.of ef9, mk_atI (j := x) _ rfl (by omega), _, rfl, _, rfl, _, rfl, _, _, _, _, rfl, rfl, ef9, mk_ixN (j := x) _ rfl (by omega), ?_⟩
          refine ⟨more ++ [opOn (after (fresh m) more) x], q8, some _, some _, rfl, ?_, ?_, ?_, ?_, KeepB.past (KeepB.past k8 np) f0, ?_, n8, p8, f8⟩
          · rw [legal_snoc, hlg, hok] <;> rfl
          · rw [List.length_append]
            show more.length + 1 ≤ _
            omega
          · rw [upd_same, mk_set, after_snoc, opOn_abs]
            refine congrArg some (congrArg HO.lst (mk_congr fun j hj => ?_))
            show updN (fun j => V.bl ((after (fresh m) more).F j)) x (.bl (!(after (fresh m) more).F x)) j = _
            rw [put_F]
            unfold updN
            split <;> rfl
          · rw [upd_ne pf, upd_same]
          · exact (B9.past fb f8).mono (by omega)
    · rintro σ H' ⟨more, q6, v9, v10, rfl, hlg, hln, ef, ep, k6, B6, n6, pq, fq⟩
      exact ⟨_, rfl, k more p q6 H' hlg (by omega) (B6.mono (by omega)) k6 n6 np pq ep⟩
end
end LL
namespace LL
open PySem PySem.Spec PyProof.Rows L2
/-! ### the law -/
def sp_law (K : PySem.W.Frag) : Sp := fun vs H Q _ => ∃ (p : Addr) (xs : List Int), vs = [.ref p] ∧ SqL K H p (xs.map V.int) ∧ ∀ H', Q (.bl true) H'
section
variable {P : Program} {w : World} {K : PySem.W.Frag} {mg : Str → Option Value} {base : Heap}
/-- a def, its function object given -/
theorem Tx.pf0 (Z : Tx P w K mg base) {d : He.DefD} {fd : FuncData} (F : FunD K d.name d.qual d.params d.body d.scope (d.dvs K) (d.kws K) (He.fAd K d.at_) fd) (i j : Nat) {x : Str} {N ps : List Str} {k : Nat} {sp : Sp} (hd : fnl[i]? = some d) (hj : fal[j]? = some (.glo x)) (hx : d.at_ = (x, none)) (h1 : d.dfl = []) (h2 : d.kwd = []) (S : FnScope N ps d.scope)
    (len : ∀ vs H Q E, sp vs H Q E → vs.length = ps.length)
    (hb : ∀ (kV doc pm : Value) (an : Option Addr) (cdv ct : Value) (us : List Value), us.length = ps.length → bindArgs (PySem.W.fnOf d.name d.qual d.params d.body d.scope .none kV doc pm an cdv ct) ⟨us, []⟩ = pure (ps.zip us))
    (body : ∀ (f : Addr) (cdv : Value) (A : Around) (outer : List Env) (s : Shared) (H : Hp) (vs : List V) (Q : VK) (E : XK), Room k (A.deeper (envOfC d.qual d.scope s.heap.objs.size f cdv)) → sp vs H Q E →
      ∃ t, PSs (cxOf (L2.CX P w) P w K mg base N d.qual d.scope f cdv A outer s H E).nox d.body t ∧ t { nx := fun _ H' => Q .non H', rt := Q } (start N vs) H) : mg x = some (.ref (He.fAd K d.at_)) ∧ (∀ (s : Shared) (us : List Value), us.length = ps.length → BindsTo s fd ⟨us, []⟩ (ps.zip us)) ∧ FnOk P w K mg base (L2.CX P w) (k + 1) (He.fAd K d.at_) fd ps sp := by
  obtain ⟨a, nm, ql, pr, bd, sc, dl, kw⟩ := d
  dsimp only at h1 h2 hx F
  subst h1 h2 hx
  exact ⟨Z.glo j hj, F.bindsA hb, F.ok S len fun cdv A outer s H vs Q E hr h => let ⟨t, z, q⟩ := body _ cdv A outer s H vs Q E hr h; ⟨t, z.nox, q⟩⟩
theorem sc_law : FnScope ["_law_script", "_law_box_here", "_law_many", "_law_row", "_law_state", "_law_since", "_law_found"] ["_law_script"] (defScope (top 83)) := ⟨rfl, rfl, rfl, by decide +kernel, rfl, by decide +kernel, by decide +kernel⟩
theorem ok_law (Z : Tx P w K mg base) {fd : FuncData} (F : FunD K d_law.name d_law.qual d_law.params d_law.body d_law.scope (d_law.dvs K) (d_law.kws K) (He.fAd K d_law.at_) fd) :
    mg "law" = some (.ref (He.fAd K d_law.at_)) ∧ (∀ (s : Shared) (us : List Value), us.length = (["_law_script"] : List Str).length → BindsTo s fd ⟨us, []⟩ ((["_law_script"] : List Str).zip us)) ∧ FnOk P w K mg base (L2.CX P w) 12 (He.fAd K d_law.at_) fd ["_law_script"] (sp_law K) := by
  refine Z.pf0 F 66 51 (d := d_law) rfl rfl rfl rfl rfl sc_law (fun vs H Q E h => ?_) (fun _ _ _ _ _ _ us hl => match us, hl with | [_], _ => rfl) (fun f cdv A outer s H vs Q E hr h => ?_)
  · obtain ⟨p, xs, rfl, _⟩ := h
    rfl
  · obtain ⟨p, xs, rfl, hS, k⟩ := h
    refine ⟨_, (pss_cons (ps_set (i := 1) sc_law.nd rfl (Or.inl rfl) (pc (ok__law_box Z) hr (pa_cons (pv 0) (pa_cons pe_int pa_nil)))) (pss_cons (ps_set (i := 2) sc_law.nd rfl (Or.inl rfl) (pc (ok__law_draw Z) hr (pa_cons (pv 1) (pa_cons pe_int pa_nil)))) (Evl.pss_cut (ps_if (pt_cmpR op_eq (pc (ok__law_draw Z) hr (pa_cons (pv 1) (pa_cons pe_int pa_nil))) pe_int (nomark _)) (pss_one (ps_set (i := 2) sc_law.nd rfl (Or.inl rfl) (pe_op op_add pe_int (pc (ok__law_draw Z) hr (pa_cons (pv 1) (pa_cons pe_int pa_nil)))))) pss_nil) (pss_cons (ps_set (i := 3) sc_law.nd rfl (Or.inl rfl) (pc (ok__law_log Z) hr (pa_cons (pv 1) (pa_cons (pv 2) (pa_cons pe_int pa_nil))))) (pss_cons (ps_asg (pc (ok__law_book Z) hr (pa_cons (pv 2) (pa_cons (pv 3) pa_nil))) (pg_tup rfl (pgs_cons (pg_name (i := 4) sc_law.nd rfl (Or.inl rfl)) (pgs_cons (pg_name (i := 5) sc_law.nd rfl (Or.inl rfl)) (pgs_cons (pg_name (i := 6) sc_law.nd rfl (Or.inl rfl)) pgs_nil))))) (pss_cons (ps_if (pt_truth (pv 6) (by intro _; rfl)) (pss_one (ps_ret (pc (ok__law_beyond Z) hr (pa_cons (pv 1) (pa_cons (pv 2) (pa_cons (pv 3) (pa_cons (pv 4) (pa_cons (pv 6) pa_nil)))))))) pss_nil) (pss_one (ps_ret (pc (ok__law_mended Z) hr (pa_cons (pv 1) (pa_cons (pv 2) (pa_cons (pv 3) (pa_cons (pv 4) pa_nil))))))))))))), ?_⟩
    refine ⟨_, rfl, p, xs, 121, rfl, hS, by decide, by decide, fun b q H1 B s1 nb nq => ?_⟩
    refine ⟨_, rfl, b, q, 0, _, rfl, B, by decide, by decide, by decide, fun m q2 H2 m1 m2 B2 k2 n2 => ?_⟩
    have m2' : m < 8 := m2
    refine ⟨fun σ' H' => ∃ (m : Nat) (q : Addr), σ' = [some (.ref p), some (.ref b), some (.int (m : Int)), none, none, none, none] ∧ m ≤ 16 ∧ BoxAt H' b q 3, ?_, ?_⟩
    · refine ⟨_, rfl, b, q2, _, _, rfl, B2, by decide, by decide, by decide, fun r q3 H3 r1 r2 B3 k3 n3 => ⟨rfl, _, rfl, ?_⟩⟩
      show if (decide (V.int r = V.int 1)) = true then _ else _
      refine iteB (fun c => ?_) (fun c => ?_)
      · refine ⟨_, rfl, b, q3, _, _, rfl, B3, by decide, by decide, by decide, fun z q4 H4 z1 z2 B4 k4 n4 => ⟨_, _, rfl, rfl, (9 + z).toNat, q4, ?_, ?_, B4⟩⟩
        · rw [show (((9 + z).toNat : Nat) : Int) = 9 + z by omega] <;> rfl
        · have z2' : z < 8 := z2
          omega
      · refine ⟨m.toNat, q3, ?_, by omega, B3.mono (by decide)⟩
        rw [show ((m.toNat : Nat) : Int) = m by omega] <;> rfl
    · rintro σ' H3 ⟨n, q3, rfl, hn, B3⟩
      refine ⟨_, rfl, _, rfl, b, q3, 3, n, rfl, B3, by omega, by decide, fun row lp q4 H4 hleg hlen B4 k4 n4 nlp lpq el => ?_⟩
      refine ⟨_, rfl, _, rfl, n, lp, row, rfl, SqL.of el, hleg, by omega, by omega, fun t a sn fd H5 s5 et A es F a1 a2 a3 a4 a5 a6 => ?_⟩
      have B5 := B4.same s5
      refine ⟨t, _, rfl, SqT.of et, rfl, _, _, rfl, _, _, rfl, _, _, rfl, rfl, ?_⟩
      obtain ⟨ts, f1, f2⟩ := F.ex
      have tl := f2.len
      have hnil := fnd_nil (wf_fresh n) (of_whole (whole_fresh n)).1 hleg
      refine ⟨_, rfl, _, Or.inl ⟨_, SqL.of f1, rfl⟩, ?_⟩
      cases c : ts with
      | nil =>
        rw [c] at tl
        have e0 : fnd (fresh n) row row.length = [] := List.length_eq_zero_iff.mp tl.symm
        exact ⟨_, rfl, _, rfl, _, rfl, _, rfl, b, q4, _, n, lp, row, a, rfl, B5, by decide, s5 _ _ el, hleg, by omega, by omega, A, hnil.mp e0, k⟩
      | cons t1 tr =>
        rw [c] at tl
        have ne : fnd (fresh n) row row.length ≠ [] := fun z => by
          rw [z] at tl
          cases tl
        have n1 : 1 ≤ n := by
          cases row with
          | nil => exact absurd rfl ne
          | cons o r =>
            rw [legal_cons, Bool.and_eq_true] at hleg
            have z := okop_iff.mp hleg.1
            have z2 : o.natAbs ≤ n := z.2.1
            omega
        exact ⟨_, rfl, _, rfl, _, rfl, _, rfl, _, rfl, b, q4, _, n, lp, row, a, fd, rfl, B5, by decide, s5 _ _ el, by omega, n1, ⟨hleg, by omega, by omega, fun z => ne (hnil.mpr z)⟩, A, F, k⟩
end
end LL
namespace LL
open PySem PySem.Spec PyProof.Rows L2
/-! ### the end -/
/-- a law whose promise is told at each world -/
theorem walk_at {l : PySem.W.OpenLaw} {n k : Nat} {q : Program} {ls : List Str} {XP : (Str → Option Value) → Heap → Prop} {YP : World → Heap → Prop} {d : DefRec} {CW : World → CXT}
    (h1 : l.most = some n) (h2 : n ≤ sizeLine) (h3 : d.params.defaults = []) (h4 : Room k callerA)
    (tell : ∀ (w : World) (mg : Str → Option Value) (f : Addr) (h : Heap), YP w h → h.Ns mainGlobals mg → mg d.name = some (.ref f) → ∃ (K : PySem.W.Frag) (y : FuncData) (x : Str) (sp : Sp), K.In h ∧
      (∀ (s : Shared) (v : Value), BindsTo s y ⟨[v], []⟩ [(x, v)]) ∧ (∀ (H : Hp) (p : Addr) (xs : List Int), SqL K H p (xs.map V.int) → sp [.ref p] H (fun v _ => v = .bl true) fun _ _ _ => False) ∧
      ∀ b : Heap, K.In b → b.Ns mainGlobals mg → FnOk l.prog w K mg b (CW w) k f y [x] sp)
    (no : ∀ (w : World) (H : Hp) (s : Shared) (e : Value) (t : Shared), CW w [] H s (fun _ _ _ => False) e t → False) : PySem.W.WalkO q ls XP YP l.row.toRowW d [] (fun f vs => PySem.call f vs) := by
  refine Att.attach_call h1 h3 fun w s0 s mg mb f o pm cd doc a vs xs G Y _ _ _ gm ao ai al gs => ?_
  obtain ⟨K, y, x, sp, KI, bd, told, ok⟩ := tell w mg f _ Y G.T.g gm
  refine law_call (CX := CW w) KI G.T.g G.T.b G.T.builtins G.T.nolimit gs ao ai (Nat.le_trans al h2) h4 ok bd (fun H _ hs => told H a xs hs) ?_
  exact fun H e t z => no w H s e t z
end LL
open PySem PySem.W PySem.Calls PyProof.Rows
theorem PySem.Challenge.cw_latelink_k48_whole_log_and_first_repair_holds : PySem.Challenge.rw_latelink_k48_whole_log_and_first_repair.Holds := by
  w_on; o_law
  refine HandSHeadRun.head_any (r := LL.RR) (q := view LL.RR.prog [83]) (H := LL.hkL) (ob := LL.obT) (M := 40000) (loose := LL.loo) (d := HandSHeadRun.topDef LL.RR.prog 83) (kwd := []) LL.obT_eq
    (by kernel_rfl) (fun s => by kernel_rfl) LL.run (by kernel_rfl) (by kernel_rfl) (by kernel_rfl) (by rfl) (by first | assumption | decide +kernel) (by decide +kernel) ⟨rfl, rfl, rfl, rfl, rfl, by decide +kernel⟩ ?hw ?hc
  case hw => w_witness2
  case hc =>
    refine LL.walk_at (l := PySem.Challenge.rw_latelink_k48_whole_log_and_first_repair) (n := 63) (k := 12) (CW := fun w => L2.CX LL.RR.prog w) rfl (by decide) (by kernel_rfl) ⟨rfl, by decide, by decide⟩ ?F ?N
    case N =>
      intro w H s e t z
      obtain ⟨_, _, _, _, _, _, _, _, _, _, _, _, z⟩ := z
      exact z
    case F =>
      intro w mg fa h Y G hmg0
      obtain ⟨K, KX, c⟩ := Y
      have hmg : mg ("law" : PySem.Str) = some (.ref fa) := by
        have e : (HandSHeadRun.topDef LL.RR.prog 83).name = ("law" : PySem.Str) := by kernel_rfl
        rw [← e]
        exact hmg0
      have Z : LL.Tx LL.RR.prog w K mg h := LL.tx_of c KX G
      obtain ⟨fd, F⟩ := Z.df 66 LL.d_law rfl
      obtain ⟨e1, hb, _⟩ := LL.ok_law Z F
      have e2 := hmg.symm.trans e1
      injection e2 with e2
      injection e2 with e2
      subst e2
      exact ⟨K, fd, "_law_script", LL.sp_law K, KX, fun s v => hb s [v] rfl, fun H p xs hs => ⟨p, xs, rfl, hs, fun _ => rfl⟩, fun b Xb Gb => (LL.ok_law (LL.tx_of c Xb Gb) F).2.2⟩
