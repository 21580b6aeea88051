import PyProof.Rows.All
import Wide.All
import OpenK.AllK
import Wide.FinOn
import HandS.ForMost
import HandS.More
import HandS.IsInst
import HandS.DictComp
import HandS.NoneIn
import HandS.Zip
import HandS.Flow
import HandS.Wide
import HandS.Codes
import KE.GoesEnum
import KE.KDictZip
import KE.GoesZip
import KE.GoesMore
import HandS.Zip0
import KE.RegKIsAll
import PySem.Challenge.RW_aliasfold_k50_whole_plain_meaning
set_option Elab.async false
set_option maxRecDepth 100000
set_option maxHeartbeats 4000000
set_option linter.all false
/-! ## MM -/
namespace MM

inductive Pr where
  | add | sub | mul | lt | eq | pair | first | second
  deriving DecidableEq
inductive GM where
  | m | ma | n
  deriving DecidableEq
inductive GN where
  | a | aa | b | e
  deriving DecidableEq
structure G where
  mo : GM
  na : GN
  deriving DecidableEq
inductive Er where
  | early | kind | count | size
  deriving DecidableEq

inductive Core where
  | int (k : Int)
  | loc (n : Int)
  | glob (g : G)
  | prim (p : Pr)
  | fn (ns : List Int) (b : Core)
  | lett (ns : List Int) (ps : List Core) (b : Core)
  | ite (a b c : Core)
  | call (f : Core) (as : List Core)

def Core.atom : Core → Prop
  | .lett _ _ _ => False
  | .ite _ _ _ => False
  | .call _ _ => False
  | _ => True

inductive Val where
  | int (k : Int)
  | prim (p : Pr)
  | pair (a b : Val)
  | fn (ns : List Int) (b : Core) (dom : Int → Bool) (env : Int → Val)

def Val.isZero : Val → Bool
  | .int k => decide (k = 0)
  | _ => false

structure Env where
  dom : Int → Bool
  at_ : Int → Val
def Env.nil : Env := ⟨fun _ => false, fun _ => .int 0⟩
def Env.put (e : Env) (n : Int) (v : Val) : Env := ⟨fun x => decide (x = n) || e.dom x, fun x => if x = n then v else e.at_ x⟩
def Env.puts (e : Env) : List Int → List Val → Env
  | n :: ns, v :: vs => (e.put n v).puts ns vs
  | _, _ => e

inductive Out where
  | val (v : Val)
  | err (w : Er)
  | steps

def big : Int := 1000000000000000000000000000000000000000000000000000000000000

inductive St where
  | beg (c : Core) (e : Env)
  | val (v : Val)
  | err (w : Er)
def sized (k : Int) : St := if big < k ∨ k < -big then .err .size else .val (.int k)
def b2 (b : Bool) : Int := if b then 1 else 0

def Pr.ar : Pr → Nat
  | .first => 1
  | .second => 1
  | _ => 2
def prim2 : Pr → Val → Val → St
  | .pair, a, b => .val (.pair a b)
  | .add, .int i, .int j => sized (i + j)
  | .sub, .int i, .int j => sized (i - j)
  | .mul, .int i, .int j => sized (i * j)
  | .lt, .int i, .int j => .val (.int (b2 (decide (i < j))))
  | .eq, .int i, .int j => .val (.int (b2 (decide (i = j))))
  | _, _, _ => .err .kind
def prim1 : Pr → Val → St
  | .first, .pair a _ => .val a
  | .second, .pair _ b => .val b
  | _, _ => .err .kind
def prim (p : Pr) : List Val → St
  | [a] => if p.ar = 1 then prim1 p a else .err .count
  | [a, b] => if p.ar = 2 then prim2 p a b else .err .count
  | _ => .err .count

abbrev Gs := G → Option Val

/-- parts from the left -/
def all (r : Core → Env → Nat → Out × Nat) (e : Env) : List Core → Nat → (List Val ⊕ Out) × Nat
  | [], L => (.inl [], L)
  | c :: cs, L =>
    match r c e L with
    | (.val v, L1) =>
      match all r e cs L1 with
      | (.inl vs, L2) => (.inl (v :: vs), L2)
      | (.inr o, L2) => (.inr o, L2)
    | (.err w, L1) => (.inr (.err w), L1)
    | (.steps, L1) => (.inr .steps, L1)

/-- what a call of v with vs begins: a body in an environment, a value, an error -/
def callv : Val → List Val → St
  | .int _, _ => .err .kind
  | .pair _ _, _ => .err .kind
  | .prim p, vs => prim p vs
  | .fn ns b dom env, vs => if ns.length ≠ vs.length then .err .count else .beg b (Env.puts ⟨dom, env⟩ ns vs)
def St.go (r : Core → Env → Nat → Out × Nat) (L : Nat) : St → Out × Nat
  | .beg b e => r b e L
  | .val v => (.val v, L)
  | .err w => (.err w, L)

def St.out : St → Out
  | .beg _ _ => .steps
  | .val v => .val v
  | .err w => .err w
def callr (r : Core → Env → Nat → Out × Nat) (e : Env) (f : Core) (as : List Core) (L : Nat) : Out × Nat :=
  match all r e (f :: as) L with
  | (.inl [], L1) => (.steps, L1)
  | (.inl (v :: vs), L1) => (callv v vs).go r L1
  | (.inr o, L1) => (o, L1)

def run (g : Gs) : Nat → Core → Env → Nat → Out × Nat
  | 0, _, _, L => (.steps, L)
  | _ + 1, _, _, 0 => (.steps, 0)
  | n + 1, c, e, L + 1 =>
    match c with
    | .int k => (.val (.int k), L)
    | .loc x => (.val (e.at_ x), L)
    | .glob x => (match g x with | some v => .val v | none => .err .early, L)
    | .prim p => (.val (.prim p), L)
    | .fn ns b => (.val (.fn ns b e.dom e.at_), L)
    | .ite a b c =>
      match run g n a e L with
      | (.val v, L1) => run g n (if v.isZero then c else b) e L1
      | (o, L1) => (o, L1)
    | .lett ns ps b =>
      match all (run g n) e ps L with
      | (.inl vs, L1) => run g n b (e.puts ns vs) L1
      | (.inr o, L1) => (o, L1)
    | .call f as => callr (run g n) e f as L

/-- the evaluator -/
def ev (g : Gs) (c : Core) (e : Env) (L : Nat) : Out × Nat := run g (L + 1) c e L

theorem all_le {r : Core → Env → Nat → Out × Nat} (hr : ∀ c e L, (r c e L).2 ≤ L) (e : Env) : ∀ cs L, (all r e cs L).2 ≤ L
  | [], L => Nat.le_refl _
  | c :: cs, L => by
    have h1 := hr c e L
    unfold all
    split
    · rename_i v L1 h
      rw [h] at h1
      have h2 := all_le hr e cs L1
      split
      · rename_i vs L2 h'
        rw [h'] at h2
        exact Nat.le_trans h2 h1
      · rename_i o L2 h'
        rw [h'] at h2
        exact Nat.le_trans h2 h1
    · rename_i w L1 h
      rw [h] at h1; exact h1
    · rename_i L1 h
      rw [h] at h1; exact h1
theorem callr_le {r : Core → Env → Nat → Out × Nat} (hr : ∀ c e L, (r c e L).2 ≤ L) (e : Env) (f : Core) (as : List Core) (L : Nat) : (callr r e f as L).2 ≤ L := by
  have h1 := all_le hr e (f :: as) L
  unfold callr
  split
  · rename_i L1 h; rw [h] at h1; exact h1
  · rename_i v vs L1 h
    rw [h] at h1
    cases callv v vs with
    | beg b e' => exact Nat.le_trans (hr b e' L1) h1
    | val v => exact h1
    | err w => exact h1
  · rename_i o L1 h; rw [h] at h1; exact h1
theorem run_le (g : Gs) : ∀ n c e L, (run g n c e L).2 ≤ L
  | 0, _, _, L => Nat.le_refl _
  | _ + 1, _, _, 0 => by unfold run; exact Nat.le_refl _
  | n + 1, c, e, L + 1 => by
    have ih := run_le g n
    unfold run
    split
    · exact Nat.le_succ _
    · exact Nat.le_succ _
    · exact Nat.le_succ _
    · exact Nat.le_succ _
    · exact Nat.le_succ _
    · rename_i a b c
      have h1 := ih a e L
      split
      · rename_i v L1 h
        rw [h] at h1
        exact Nat.le_trans (ih _ e L1) (Nat.le_trans h1 (Nat.le_succ _))
      · rename_i o L1 _ h
        rw [h] at h1
        exact Nat.le_trans h1 (Nat.le_succ _)
    · rename_i ns ps b
      have h1 := all_le ih e ps L
      split
      · rename_i vs L1 h
        rw [h] at h1
        exact Nat.le_trans (ih _ _ L1) (Nat.le_trans h1 (Nat.le_succ _))
      · rename_i o L1 h
        rw [h] at h1
        exact Nat.le_trans h1 (Nat.le_succ _)
    · exact Nat.le_trans (callr_le ih e _ _ L) (Nat.le_succ _)

theorem all_congr {r r' : Core → Env → Nat → Out × Nat} (hr : ∀ c e L, (r c e L).2 ≤ L) (e : Env) : ∀ cs L, (∀ c e L', L' ≤ L → r c e L' = r' c e L') → all r e cs L = all r' e cs L
  | [], L, _ => rfl
  | c :: cs, L, h => by
    have h1 := hr c e L
    have h2 := h c e L (Nat.le_refl _)
    unfold all
    rw [← h2]
    cases q : r c e L with
    | mk o L1 =>
      rw [q] at h1
      cases o with
      | val v => simp only; rw [all_congr hr e cs L1 fun c e L' hl => h c e L' (Nat.le_trans hl h1)]
      | err w => rfl
      | steps => rfl
theorem callr_congr {r r' : Core → Env → Nat → Out × Nat} (hr : ∀ c e L, (r c e L).2 ≤ L) (e : Env) (f : Core) (as : List Core) (L : Nat) (h : ∀ c e L', L' ≤ L → r c e L' = r' c e L') : callr r e f as L = callr r' e f as L := by
  have h1 := all_le hr e (f :: as) L
  unfold callr
  rw [← all_congr hr e (f :: as) L h]
  cases q : all r e (f :: as) L with
  | mk o L1 =>
    rw [q] at h1
    cases o with
    | inr o => rfl
    | inl vs =>
      cases vs with
      | nil => rfl
      | cons v vs =>
        simp only
        cases callv v vs with
        | beg b e' => exact h b e' L1 h1
        | val v => rfl
        | err w => rfl
theorem run_stable (g : Gs) : ∀ n m c e L, L < n → L < m → run g n c e L = run g m c e L
  | 0, _, _, _, _, h, _ => absurd h (Nat.not_lt_zero _)
  | _ + 1, 0, _, _, _, _, h => absurd h (Nat.not_lt_zero _)
  | n + 1, m + 1, c, e, 0, _, _ => by unfold run; rfl
  | n + 1, m + 1, c, e, L + 1, h1, h2 => by
    have ih : ∀ c e L', L' ≤ L → run g n c e L' = run g m c e L' := fun c e L' hl => run_stable g n m c e L' (by omega) (by omega)
    have le := run_le g n
    unfold run
    cases c with
    | ite a b c =>
      simp only
      rw [← ih a e L (Nat.le_refl _)]
      have h3 := le a e L
      cases q : run g n a e L with
      | mk o L1 =>
        rw [q] at h3
        cases o with
        | val v => exact ih _ e L1 h3
        | err w => rfl
        | steps => rfl
    | lett ns ps b =>
      simp only
      rw [← all_congr le e ps L ih]
      have h3 := all_le le e ps L
      cases q : all (run g n) e ps L with
      | mk o L1 =>
        rw [q] at h3
        cases o with
        | inl vs => exact ih _ _ L1 h3
        | inr o => rfl
    | call f as => exact callr_congr le e f as L ih
    | _ => rfl
theorem ev_run (g : Gs) {n : Nat} {c : Core} {e : Env} {L : Nat} (h : L < n) : run g n c e L = ev g c e L := run_stable g _ _ c e L h (Nat.lt_succ_self _)
theorem ev_le (g : Gs) (c : Core) (e : Env) (L : Nat) : (ev g c e L).2 ≤ L := run_le g _ c e L
theorem ev_zero (g : Gs) (c : Core) (e : Env) : ev g c e 0 = (.steps, 0) := by unfold ev run; rfl
theorem ev_int (g : Gs) (k : Int) (e : Env) (L : Nat) : ev g (.int k) e (L + 1) = (.val (.int k), L) := rfl
theorem ev_loc (g : Gs) (k : Int) (e : Env) (L : Nat) : ev g (.loc k) e (L + 1) = (.val (e.at_ k), L) := rfl
theorem ev_glob (g : Gs) (x : G) (e : Env) (L : Nat) : ev g (.glob x) e (L + 1) = (match g x with | some v => .val v | none => .err .early, L) := rfl
theorem ev_prim (g : Gs) (p : Pr) (e : Env) (L : Nat) : ev g (.prim p) e (L + 1) = (.val (.prim p), L) := rfl
theorem ev_fn (g : Gs) (ns : List Int) (b : Core) (e : Env) (L : Nat) : ev g (.fn ns b) e (L + 1) = (.val (.fn ns b e.dom e.at_), L) := rfl
theorem ev_ite (g : Gs) (a b c : Core) (e : Env) (L : Nat) : ev g (.ite a b c) e (L + 1) = (match ev g a e L with
      | (.val v, L1) => ev g (if v.isZero then c else b) e L1
      | (o, L1) => (o, L1)) := by
  have h3 := run_le g (L + 1) a e L
  show run g (L + 2) _ e (L + 1) = _
  unfold run
  simp only
  rw [ev_run g (Nat.lt_succ_self L)]
  rw [ev_run g (Nat.lt_succ_self L)] at h3
  cases q : ev g a e L with
  | mk o L1 =>
    rw [q] at h3
    cases o with
    | val v => exact ev_run g (Nat.lt_succ_of_le h3)
    | err w => rfl
    | steps => rfl
theorem ev_let (g : Gs) (ns : List Int) (ps : List Core) (b : Core) (e : Env) (L : Nat) : ev g (.lett ns ps b) e (L + 1) = (match all (ev g) e ps L with
      | (.inl vs, L1) => ev g b (e.puts ns vs) L1
      | (.inr o, L1) => (o, L1)) := by
  have h3 := all_le (run_le g (L + 1)) e ps L
  show run g (L + 2) _ e (L + 1) = _
  unfold run
  simp only
  rw [all_congr (run_le g (L + 1)) e ps L fun c e L' hl => ev_run g (Nat.lt_succ_of_le hl)] at h3 ⊢
  cases q : all (ev g) e ps L with
  | mk o L1 =>
    rw [q] at h3
    cases o with
    | inl vs => exact ev_run g (Nat.lt_succ_of_le h3)
    | inr o => rfl
theorem ev_call (g : Gs) (f : Core) (as : List Core) (e : Env) (L : Nat) : ev g (.call f as) e (L + 1) = callr (ev g) e f as L := by
  show run g (L + 2) _ e (L + 1) = _
  unfold run
  simp only
  exact callr_congr (run_le g (L + 1)) e f as L fun c e L' hl => ev_run g (Nat.lt_succ_of_le hl)

/-! ### more fuel, less fuel -/
theorem all_more (g : Gs) (e : Env) : ∀ cs L r L1 M, (∀ c e L', L' ≤ L → ∀ o L1 M, ev g c e L' = (o, L1) → o ≠ .steps → L' ≤ M + L1 → ev g c e M = (o, M + L1 - L')) →
    all (ev g) e cs L = (r, L1) → r ≠ .inr .steps → L ≤ M + L1 → all (ev g) e cs M = (r, M + L1 - L)
  | [], L, r, L1, M, _, q, _, hl => by
    simp only [all, Prod.mk.injEq] at q ⊢
    obtain ⟨q1, q2⟩ := q
    exact ⟨q1, by omega⟩
  | c :: cs, L, r, L1, M, h, q, nr, hl => by
    have hc := h c e L (Nat.le_refl _)
    have le1 := ev_le g c e L
    unfold all at q ⊢
    cases q1 : ev g c e L with
    | mk o La =>
      rw [q1] at q le1
      cases o with
      | val v =>
        simp only at q
        have le2 := all_le (ev_le g) e cs La
        cases q2 : all (ev g) e cs La with
        | mk r2 Lb =>
          rw [q2] at q le2
          have ih : ∀ M, r2 ≠ .inr .steps → La ≤ M + Lb → all (ev g) e cs M = (r2, M + Lb - La) := fun M n hm => all_more g e cs La r2 Lb M (fun c e L' hl => h c e L' (Nat.le_trans hl le1)) q2 n hm
          simp only at le1 le2
          cases r2 with
          | inl vs =>
            simp only [Prod.mk.injEq] at q
            obtain ⟨e1, e2⟩ := q
            subst e1; subst e2
            rw [hc _ _ M q1 (fun z => nomatch z) (by omega)]
            simp only
            rw [ih (M + La - L) (fun z => nomatch z) (by omega)]
            simp only [Prod.mk.injEq, true_and]
            omega
          | inr o =>
            simp only [Prod.mk.injEq] at q
            obtain ⟨e1, e2⟩ := q
            subst e1; subst e2
            rw [hc _ _ M q1 (fun z => nomatch z) (by omega)]
            simp only
            rw [ih (M + La - L) nr (by omega)]
            simp only [Prod.mk.injEq, true_and]
            omega
      | err w =>
        simp only [Prod.mk.injEq] at q
        obtain ⟨e1, e2⟩ := q
        subst e1; subst e2
        rw [hc _ _ M q1 (fun z => nomatch z) (by omega)]
      | steps =>
        simp only [Prod.mk.injEq] at q
        exact absurd q.1.symm nr
theorem ev_more (g : Gs) : ∀ L c e o L1 M, ev g c e L = (o, L1) → o ≠ .steps → L ≤ M + L1 → ev g c e M = (o, M + L1 - L) := by
  intro L
  induction L using Nat.strongRecOn with
  | ind L ih =>
    intro c e o L1 M q no hl
    cases L with
    | zero =>
      rw [ev_zero] at q
      simp only [Prod.mk.injEq] at q
      exact absurd q.1.symm no
    | succ L =>
      have ih' : ∀ c e L', L' ≤ L → ∀ o L1 M, ev g c e L' = (o, L1) → o ≠ .steps → L' ≤ M + L1 → ev g c e M = (o, M + L1 - L') := fun c e L' hl o L1 M => ih L' (Nat.lt_succ_of_le hl) c e o L1 M
      have leaf : ∀ {x : Out}, (x, L) = (o, L1) → ∀ M', M = M' + 1 → (x, M') = (o, M + L1 - (L + 1)) := fun {x} q M' hm => by
        simp only [Prod.mk.injEq] at q ⊢
        exact ⟨q.1, by omega⟩
      have pos : L1 ≤ L → ∃ M', M = M' + 1 := fun h => ⟨M - 1, by omega⟩
      cases c with
      | int k =>
        rw [ev_int] at q
        obtain ⟨M', hm⟩ := pos (by simp only [Prod.mk.injEq] at q; omega)
        rw [hm, ev_int, ← hm]; exact leaf q M' hm
      | loc k =>
        rw [ev_loc] at q
        obtain ⟨M', hm⟩ := pos (by simp only [Prod.mk.injEq] at q; omega)
        rw [hm, ev_loc, ← hm]; exact leaf q M' hm
      | glob k =>
        rw [ev_glob] at q
        obtain ⟨M', hm⟩ := pos (by simp only [Prod.mk.injEq] at q; omega)
        rw [hm, ev_glob, ← hm]; exact leaf q M' hm
      | prim k =>
        rw [ev_prim] at q
        obtain ⟨M', hm⟩ := pos (by simp only [Prod.mk.injEq] at q; omega)
        rw [hm, ev_prim, ← hm]; exact leaf q M' hm
      | fn ns b =>
        rw [ev_fn] at q
        obtain ⟨M', hm⟩ := pos (by simp only [Prod.mk.injEq] at q; omega)
        rw [hm, ev_fn, ← hm]; exact leaf q M' hm
      | ite a b c =>
        rw [ev_ite] at q
        have le1 := ev_le g a e L
        cases q1 : ev g a e L with
        | mk oa La =>
          rw [q1] at q le1
          simp only at le1
          cases oa with
          | val v =>
            simp only at q
            have le2 := ev_le g (if v.isZero = true then c else b) e La
            rw [q] at le2
            simp only at le2
            obtain ⟨M', hm⟩ := pos (by omega)
            subst hm
            rw [ev_ite, ih' a e L (Nat.le_refl _) _ _ M' q1 (fun z => nomatch z) (by omega)]
            simp only
            rw [ih' _ e La le1 _ _ (M' + La - L) q no (by omega)]
            simp only [Prod.mk.injEq, true_and]
            omega
          | err w =>
            simp only [Prod.mk.injEq] at q
            obtain ⟨e1, e2⟩ := q
            subst e1; subst e2
            obtain ⟨M', hm⟩ := pos (by omega)
            subst hm
            rw [ev_ite, ih' a e L (Nat.le_refl _) _ _ M' q1 (fun z => nomatch z) (by omega)]
            simp only [Prod.mk.injEq, true_and]
            omega
          | steps =>
            simp only [Prod.mk.injEq] at q
            exact absurd q.1.symm no
      | lett ns ps b =>
        rw [ev_let] at q
        have le1 := all_le (ev_le g) e ps L
        cases q1 : all (ev g) e ps L with
        | mk oa La =>
          rw [q1] at q le1
          simp only at le1
          cases oa with
          | inl vs =>
            simp only at q
            have le2 := ev_le g b (e.puts ns vs) La
            rw [q] at le2
            simp only at le2
            obtain ⟨M', hm⟩ := pos (by omega)
            subst hm
            rw [ev_let, all_more g e ps L _ _ M' ih' q1 (fun z => nomatch z) (by omega)]
            simp only
            rw [ih' _ _ La le1 _ _ (M' + La - L) q no (by omega)]
            simp only [Prod.mk.injEq, true_and]
            omega
          | inr o' =>
            simp only [Prod.mk.injEq] at q
            obtain ⟨e1, e2⟩ := q
            subst e1; subst e2
            obtain ⟨M', hm⟩ := pos (by omega)
            subst hm
            rw [ev_let, all_more g e ps L _ _ M' ih' q1 (fun z => by cases z; exact no rfl) (by omega)]
            simp only [Prod.mk.injEq, true_and]
            omega
      | call f as =>
        rw [ev_call] at q
        unfold callr at q
        have le1 := all_le (ev_le g) e (f :: as) L
        cases q1 : all (ev g) e (f :: as) L with
        | mk oa La =>
          rw [q1] at q le1
          simp only at le1
          cases oa with
          | inl vs =>
            cases vs with
            | nil =>
              simp only [Prod.mk.injEq] at q
              exact absurd q.1.symm no
            | cons v vs =>
              simp only at q
              cases q2 : callv v vs with
              | beg b e' =>
                rw [q2] at q
                simp only [St.go] at q
                have le2 := ev_le g b e' La
                rw [q] at le2
                simp only at le2
                obtain ⟨M', hm⟩ := pos (by omega)
                subst hm
                rw [ev_call]
                unfold callr
                rw [all_more g e (f :: as) L _ _ M' ih' q1 (fun z => nomatch z) (by omega)]
                simp only
                rw [q2]
                simp only [St.go]
                rw [ih' _ _ La le1 _ _ (M' + La - L) q no (by omega)]
                simp only [Prod.mk.injEq, true_and]
                omega
              | val v' =>
                rw [q2] at q
                simp only [St.go, Prod.mk.injEq] at q
                obtain ⟨e1, e2⟩ := q
                subst e1; subst e2
                obtain ⟨M', hm⟩ := pos (by omega)
                subst hm
                rw [ev_call]
                unfold callr
                rw [all_more g e (f :: as) L _ _ M' ih' q1 (fun z => nomatch z) (by omega)]
                simp only
                rw [q2]
                simp only [St.go, Prod.mk.injEq, true_and]
                omega
              | err w =>
                rw [q2] at q
                simp only [St.go, Prod.mk.injEq] at q
                obtain ⟨e1, e2⟩ := q
                subst e1; subst e2
                obtain ⟨M', hm⟩ := pos (by omega)
                subst hm
                rw [ev_call]
                unfold callr
                rw [all_more g e (f :: as) L _ _ M' ih' q1 (fun z => nomatch z) (by omega)]
                simp only
                rw [q2]
                simp only [St.go, Prod.mk.injEq, true_and]
                omega
          | inr o' =>
            simp only [Prod.mk.injEq] at q
            obtain ⟨e1, e2⟩ := q
            subst e1; subst e2
            obtain ⟨M', hm⟩ := pos (by omega)
            subst hm
            rw [ev_call]
            unfold callr
            rw [all_more g e (f :: as) L _ _ M' ih' q1 (fun z => by cases z; exact no rfl) (by omega)]
            simp only [Prod.mk.injEq, true_and]
            omega
theorem all_out (g : Gs) (e : Env) : ∀ cs L L1, (∀ c e L', L' ≤ L → ∀ L1, ev g c e L' = (.steps, L1) → L1 = 0) → all (ev g) e cs L = (.inr .steps, L1) → L1 = 0
  | [], L, L1, _, q => by simp only [all, Prod.mk.injEq] at q; exact absurd q.1 (fun z => nomatch z)
  | c :: cs, L, L1, h, q => by
    have le1 := ev_le g c e L
    have hc := h c e L (Nat.le_refl _)
    unfold all at q
    cases q1 : ev g c e L with
    | mk o La =>
      rw [q1] at q le1
      cases o with
      | val v =>
        simp only at q
        cases q2 : all (ev g) e cs La with
        | mk r2 Lb =>
          rw [q2] at q
          cases r2 with
          | inl vs => simp only [Prod.mk.injEq] at q; exact absurd q.1 (fun z => nomatch z)
          | inr o =>
            simp only [Prod.mk.injEq, Sum.inr.injEq] at q
            obtain ⟨e1, e2⟩ := q
            subst e1; subst e2
            exact all_out g e cs La _ (fun c e L' hl => h c e L' (Nat.le_trans hl le1)) q2
      | err w => simp only [Prod.mk.injEq, Sum.inr.injEq] at q; exact absurd q.1 (fun z => nomatch z)
      | steps =>
        simp only [Prod.mk.injEq] at q
        obtain ⟨_, e2⟩ := q
        subst e2
        exact hc _ q1
theorem ev_out (g : Gs) : ∀ L c e L1, ev g c e L = (.steps, L1) → L1 = 0 := by
  intro L
  induction L using Nat.strongRecOn with
  | ind L ih =>
    intro c e L1 q
    cases L with
    | zero => rw [ev_zero] at q; simp only [Prod.mk.injEq, true_and] at q; exact q.symm
    | succ L =>
      have ih' : ∀ c e L', L' ≤ L → ∀ L1, ev g c e L' = (.steps, L1) → L1 = 0 := fun c e L' hl L1 => ih L' (Nat.lt_succ_of_le hl) c e L1
      cases c with
      | int k => rw [ev_int] at q; simp only [Prod.mk.injEq] at q; exact absurd q.1 (fun z => nomatch z)
      | loc k => rw [ev_loc] at q; simp only [Prod.mk.injEq] at q; exact absurd q.1 (fun z => nomatch z)
      | glob k =>
        rw [ev_glob] at q
        simp only [Prod.mk.injEq] at q
        cases z : g k with
        | none => rw [z] at q; exact absurd q.1 (fun z => nomatch z)
        | some v => rw [z] at q; exact absurd q.1 (fun z => nomatch z)
      | prim k => rw [ev_prim] at q; simp only [Prod.mk.injEq] at q; exact absurd q.1 (fun z => nomatch z)
      | fn ns b => rw [ev_fn] at q; simp only [Prod.mk.injEq] at q; exact absurd q.1 (fun z => nomatch z)
      | ite a b c =>
        rw [ev_ite] at q
        have le1 := ev_le g a e L
        cases q1 : ev g a e L with
        | mk oa La =>
          rw [q1] at q le1
          cases oa with
          | val v => exact ih' _ e La le1 _ q
          | err w => simp only [Prod.mk.injEq] at q; exact absurd q.1 (fun z => nomatch z)
          | steps =>
            simp only [Prod.mk.injEq] at q
            obtain ⟨_, e2⟩ := q
            subst e2
            exact ih' _ _ _ (Nat.le_refl _) _ q1
      | lett ns ps b =>
        rw [ev_let] at q
        have le1 := all_le (ev_le g) e ps L
        cases q1 : all (ev g) e ps L with
        | mk oa La =>
          rw [q1] at q le1
          cases oa with
          | inl vs => exact ih' _ _ La le1 _ q
          | inr o =>
            simp only [Prod.mk.injEq] at q
            obtain ⟨e1, e2⟩ := q
            subst e1; subst e2
            exact all_out g e ps L _ ih' q1
      | call f as =>
        rw [ev_call] at q
        unfold callr at q
        have le1 := all_le (ev_le g) e (f :: as) L
        cases q1 : all (ev g) e (f :: as) L with
        | mk oa La =>
          rw [q1] at q le1
          cases oa with
          | inl vs =>
            cases vs with
            | nil =>
              exfalso
              unfold all at q1
              cases z : ev g f e L with
              | mk o1 L1 =>
                rw [z] at q1
                cases o1 with
                | val v =>
                  simp only at q1
                  cases z2 : all (ev g) e as L1 with
                  | mk r2 L2 =>
                    rw [z2] at q1
                    cases r2 with
                    | inl vs => simp at q1
                    | inr o => simp at q1
                | err w => simp at q1
                | steps => simp at q1
            | cons v vs =>
              simp only at q
              cases q2 : callv v vs with
              | beg b e' =>
                rw [q2] at q
                exact ih' _ _ La le1 _ q
              | val v' => rw [q2] at q; simp only [St.go, Prod.mk.injEq] at q; exact absurd q.1 (fun z => nomatch z)
              | err w => rw [q2] at q; simp only [St.go, Prod.mk.injEq] at q; exact absurd q.1 (fun z => nomatch z)
          | inr o =>
            simp only [Prod.mk.injEq] at q
            obtain ⟨e1, e2⟩ := q
            subst e1; subst e2
            exact all_out g e (f :: as) L _ ih' q1

/-! ### a program -/
abbrev Defs := List (G × Core)
def Gs.put (g : Gs) (x : G) (v : Val) : Gs := fun y => if y = x then some v else g y
def due : Gs → Defs → Core → Nat → Out × Nat
  | g, [], c, L => ev g c .nil L
  | g, (x, b) :: ds, c, L =>
    match ev g b .nil L with
    | (.val v, L1) => due (g.put x v) ds c L1
    | (o, L1) => (o, L1)
theorem due_le : ∀ (ds : Defs) (g : Gs) (c : Core) (L : Nat), (due g ds c L).2 ≤ L
  | [], g, c, L => ev_le g c _ L
  | (x, b) :: ds, g, c, L => by
    have h := ev_le g b .nil L
    unfold due
    cases q : ev g b .nil L with
    | mk o L1 =>
      rw [q] at h
      cases o with
      | val v => exact Nat.le_trans (due_le ds _ c L1) h
      | err w => exact h
      | steps => exact h
theorem due_more : ∀ (ds : Defs) (g : Gs) (c : Core) (L : Nat) o L1 M, due g ds c L = (o, L1) → o ≠ .steps → L ≤ M + L1 → due g ds c M = (o, M + L1 - L)
  | [], g, c, L, o, L1, M, q, no, h => ev_more g L c _ o L1 M q no h
  | (x, b) :: ds, g, c, L, o, L1, M, q, no, h => by
    have le1 := ev_le g b .nil L
    unfold due at q ⊢
    cases q1 : ev g b .nil L with
    | mk oa La =>
      rw [q1] at q le1
      simp only at le1
      cases oa with
      | val v =>
        simp only at q
        have le2 := due_le ds (g.put x v) c La
        rw [q] at le2
        simp only at le2
        rw [ev_more g L b _ _ _ M q1 (fun z => nomatch z) (by omega)]
        simp only
        rw [due_more ds _ c La o L1 (M + La - L) q no (by omega)]
        simp only [Prod.mk.injEq, true_and]
        omega
      | err w =>
        simp only [Prod.mk.injEq] at q
        obtain ⟨e1, e2⟩ := q
        subst e1; subst e2
        rw [ev_more g L b _ _ _ M q1 (fun z => nomatch z) (by omega)]
      | steps =>
        simp only [Prod.mk.injEq] at q
        exact absurd q.1.symm no
theorem due_out : ∀ (ds : Defs) (g : Gs) (c : Core) (L : Nat) L1, due g ds c L = (.steps, L1) → L1 = 0
  | [], g, c, L, L1, q => ev_out g L c _ L1 q
  | (x, b) :: ds, g, c, L, L1, q => by
    unfold due at q
    cases q1 : ev g b .nil L with
    | mk oa La =>
      rw [q1] at q
      cases oa with
      | val v => exact due_out ds _ c La L1 q
      | err w => simp only [Prod.mk.injEq] at q; exact absurd q.1 (fun z => nomatch z)
      | steps =>
        simp only [Prod.mk.injEq] at q
        obtain ⟨_, e2⟩ := q
        subst e2
        exact ev_out g L b _ _ q1
theorem due_zero (ds : Defs) (g : Gs) (c : Core) : due g ds c 0 = (.steps, 0) := by
  cases ds with
  | nil => exact ev_zero g c _
  | cons p ds => unfold due; rw [ev_zero]
/-- with fewer steps they run out -/
theorem due_less {ds : Defs} {g : Gs} {c : Core} {L : Nat} {o : Out} {L1 M : Nat} (q : due g ds c L = (o, L1)) (no : o ≠ .steps) (h : M + L1 < L) : due g ds c M = (.steps, 0) := by
  cases q1 : due g ds c M with
  | mk o' L' =>
    by_cases z : o' = .steps
    · subst z
      rw [due_out ds g c M L' q1]
    · have le := due_le ds g c M
      rw [q1] at le
      simp only at le
      have w := due_more ds g c M o' L' L q1 z (by omega)
      rw [q] at w
      simp only [Prod.mk.injEq] at w
      omega
/-- the law's three runs -/
theorem due_law {ds : Defs} {g : Gs} {c : Core} {L : Nat} {o : Out} {L1 : Nat} (q : due g ds c L = (o, L1)) :
    (o = .steps ∧ L1 = 0) ∨ (o ≠ .steps ∧ L1 < L ∧ due g ds c (L - L1) = (o, 0) ∧ due g ds c (L - L1 - 1) = (.steps, 0)) := by
  by_cases z : o = .steps
  · subst z
    exact .inl ⟨rfl, due_out ds g c L L1 q⟩
  · have le := due_le ds g c L
    rw [q] at le
    simp only at le
    have lt : L1 < L := by
      refine Nat.lt_of_le_of_ne le fun e => ?_
      subst e
      have w := due_more ds g c L1 o L1 0 q z (by omega)
      rw [due_zero] at w
      simp only [Prod.mk.injEq] at w
      exact z w.1.symm
    refine .inr ⟨z, lt, ?_, due_less q z (by omega)⟩
    rw [due_more ds g c L o L1 (L - L1) q z (by omega)]
    simp only [Prod.mk.injEq, true_and]
    omega

/-! ### the machine -/
structure Fr where
  core : Core
  vals : List Val
  env : Env
def parts : Core → List Core
  | .ite a _ _ => [a]
  | .lett _ ps _ => ps
  | .call f as => f :: as
  | _ => []
def fin : Core → List Val → Env → St
  | .ite _ b c, v :: _, e => .beg (if v.isZero then c else b) e
  | .lett ns _ b, vs, e => .beg b (e.puts ns vs)
  | .call _ _, v :: vs, _ => callv v vs
  | _, _, _ => .err .early
def resume (c : Core) (vals : List Val) (e : Env) (stk : List Fr) : St × List Fr :=
  match (parts c)[vals.length]? with
  | some p => (.beg p e, ⟨c, vals, e⟩ :: stk)
  | none => (fin c vals e, stk)
def begin_ (g : Gs) (c : Core) (e : Env) (stk : List Fr) : St × List Fr :=
  match c with
  | .int k => (.val (.int k), stk)
  | .loc x => (.val (e.at_ x), stk)
  | .glob x => (match g x with | some v => .val v | none => .err .early, stk)
  | .prim p => (.val (.prim p), stk)
  | .fn ns b => (.val (.fn ns b e.dom e.at_), stk)
  | c => resume c [] e stk
def loop (g : Gs) (most : Nat) : Nat → St → List Fr → Nat → Option (Out × Nat)
  | 0, _, _, _ => none
  | n + 1, .beg c e, stk, s => if most ≤ s then some (.steps, s) else loop g most n (begin_ g c e stk).1 (begin_ g c e stk).2 (s + 1)
  | _ + 1, .err w, _, s => some (.err w, s)
  | _ + 1, .val v, [], s => some (.val v, s)
  | n + 1, .val v, f :: stk, s => loop g most n (resume f.core (f.vals ++ [v]) f.env stk).1 (resume f.core (f.vals ++ [v]) f.env stk).2 s

/-- where the machine goes on behind an outcome -/
def aft (g : Gs) (most m : Nat) (stk : List Fr) (s : Nat) : Out → Option (Out × Nat)
  | .val v => loop g most m (.val v) stk s
  | .err w => some (.err w, s)
  | .steps => some (.steps, s)
def aftA (g : Gs) (most m : Nat) (c : Core) (vals : List Val) (e : Env) (stk : List Fr) (s : Nat) : List Val ⊕ Out → Option (Out × Nat)
  | .inl vs => loop g most m (fin c (vals ++ vs) e) stk s
  | .inr (.err w) => some (.err w, s)
  | .inr .steps => some (.steps, s)
  | .inr (.val _) => none
theorem all_noval {r : Core → Env → Nat → Out × Nat} {e : Env} : ∀ {cs : List Core} {L : Nat} {v : Val} {L1 : Nat}, all r e cs L = (.inr (.val v), L1) → False
  | [], L, v, L1, q => by simp [all] at q
  | c :: cs, L, v, L1, q => by
    unfold all at q
    cases z : r c e L with
    | mk o La =>
      rw [z] at q
      cases o with
      | val v =>
        simp only at q
        cases z2 : all r e cs La with
        | mk r2 Lb =>
          rw [z2] at q
          cases r2 with
          | inl vs => simp at q
          | inr o =>
            simp only [Prod.mk.injEq, Sum.inr.injEq] at q
            obtain ⟨e1, _⟩ := q
            subst e1
            exact all_noval z2
      | err w => simp at q
      | steps => simp at q
theorem parts_go (g : Gs) (most : Nat) (c : Core) (e : Env) : ∀ (rest : List Core) (vals : List Val) (L : Nat) (s : Nat) (r : List Val ⊕ Out) (L1 : Nat),
    (∀ c e L', L' ≤ L → ∀ o L1 s, ev g c e L' = (o, L1) → s + L' = most → ∃ k, ∀ m stk, loop g most (m + k) (.beg c e) stk s = aft g most m stk (most - L1) o) →
    (parts c).drop vals.length = rest → all (ev g) e rest L = (r, L1) → s + L = most →
    ∃ k, ∀ m stk, loop g most (m + k) (resume c vals e stk).1 (resume c vals e stk).2 s = aftA g most m c vals e stk (most - L1) r
  | [], vals, L, s, r, L1, ih, hd, q, hs => by
    simp only [all, Prod.mk.injEq] at q
    obtain ⟨e1, e2⟩ := q
    subst e1; subst e2
    have hl : (parts c).length ≤ vals.length := List.drop_eq_nil_iff.mp hd
    have hn : (parts c)[vals.length]? = none := List.getElem?_eq_none_iff.mpr hl
    refine ⟨0, fun m stk => ?_⟩
    unfold resume
    rw [hn]
    simp only [aftA, List.append_nil, Nat.add_zero]
    rw [show most - L = s by omega]
  | p :: ps, vals, L, s, r, L1, ih, hd, q, hs => by
    have hn : (parts c)[vals.length]? = some p := by
      have := congrArg (fun l => l[0]?) hd
      simpa using this
    have hd2 : ∀ v : Val, (parts c).drop (vals ++ [v]).length = ps := fun v => by
      have := congrArg (fun l => l.drop 1) hd
      simpa [List.length_append, Nat.add_comm] using this
    have le1 := ev_le g p e L
    unfold all at q
    cases q1 : ev g p e L with
    | mk o La =>
      rw [q1] at q le1
      simp only at le1
      obtain ⟨k1, h1⟩ := ih p e L (Nat.le_refl _) o La s q1 hs
      have res : ∀ stk, resume c vals e stk = (.beg p e, ⟨c, vals, e⟩ :: stk) := fun stk => by unfold resume; rw [hn]
      cases o with
      | val v =>
        simp only at q
        cases q2 : all (ev g) e ps La with
        | mk r2 Lb =>
          rw [q2] at q
          obtain ⟨k2, h2⟩ := parts_go g most c e ps (vals ++ [v]) La (most - La) r2 Lb (fun c e L' hl => ih c e L' (Nat.le_trans hl le1)) (hd2 v) q2 (by omega)
          refine ⟨k2 + 1 + k1, fun m stk => ?_⟩
          rw [res stk]
          simp only
          rw [show m + (k2 + 1 + k1) = (m + k2 + 1) + k1 by omega, h1]
          simp only [aft]
          rw [loop]
          simp only
          rw [h2]
          cases r2 with
          | inl vs =>
            simp only [Prod.mk.injEq] at q
            obtain ⟨e1, e2⟩ := q
            subst e1; subst e2
            simp only [aftA, List.append_assoc, List.singleton_append]
          | inr o =>
            simp only [Prod.mk.injEq] at q
            obtain ⟨e1, e2⟩ := q
            subst e1; subst e2
            cases o <;> rfl
      | err w =>
        simp only [Prod.mk.injEq] at q
        obtain ⟨e1, e2⟩ := q
        subst e1; subst e2
        refine ⟨k1, fun m stk => ?_⟩
        rw [res stk]
        simp only
        rw [h1]
        rfl
      | steps =>
        simp only [Prod.mk.injEq] at q
        obtain ⟨e1, e2⟩ := q
        subst e1; subst e2
        refine ⟨k1, fun m stk => ?_⟩
        rw [res stk]
        simp only
        rw [h1]
        rfl
def finr (g : Gs) (c : Core) (e : Env) (La : Nat) : List Val ⊕ Out → Out × Nat
  | .inl vs => (fin c vs e).go (ev g) La
  | .inr x => (x, La)
/-- a compound part begun: its parts, then what comes behind them -/
theorem comp_go (g : Gs) (most : Nat) (c : Core) (e : Env) (L : Nat) (o : Out) (L1 : Nat) (s : Nat)
    (ih : ∀ c e L', L' ≤ L → ∀ o L1 s, ev g c e L' = (o, L1) → s + L' = most → ∃ k, ∀ m stk, loop g most (m + k) (.beg c e) stk s = aft g most m stk (most - L1) o)
    (hb : ∀ stk, begin_ g c e stk = resume c [] e stk) (hs : s + (L + 1) = most) (r : List Val ⊕ Out) (La : Nat) (q1 : all (ev g) e (parts c) L = (r, La))
    (qr : finr g c e La r = (o, L1)) : ∃ k, ∀ m stk, loop g most (m + k) (.beg c e) stk s = aft g most m stk (most - L1) o := by
  have le1 := all_le (ev_le g) e (parts c) L
  rw [q1] at le1
  simp only at le1
  obtain ⟨k1, h1⟩ := parts_go g most c e (parts c) [] L (s + 1) r La ih (by simp) q1 (by omega)
  have head : ∀ m stk, loop g most (m + (k1 + 1)) (.beg c e) stk s = aftA g most m c [] e stk (most - La) r := fun m stk => by
    rw [show m + (k1 + 1) = (m + k1) + 1 by omega, loop, if_neg (by omega), hb stk, h1]
  cases r with
  | inr x =>
    simp only [finr, Prod.mk.injEq] at qr
    obtain ⟨e1, e2⟩ := qr
    subst e1; subst e2
    refine ⟨k1 + 1, fun m stk => ?_⟩
    rw [head]
    cases x with
    | val v => exact (all_noval q1).elim
    | err w => rfl
    | steps => rfl
  | inl vs =>
    simp only [finr] at qr
    cases q2 : fin c vs e with
    | beg b e' =>
      rw [q2] at qr
      obtain ⟨k2, h2⟩ := ih b e' La le1 o L1 (most - La) qr (by omega)
      refine ⟨k2 + (k1 + 1), fun m stk => ?_⟩
      rw [← Nat.add_assoc, head]
      simp only [aftA, List.nil_append]
      rw [q2, h2]
    | val v =>
      rw [q2] at qr
      simp only [St.go, Prod.mk.injEq] at qr
      obtain ⟨e1, e2⟩ := qr
      subst e1; subst e2
      refine ⟨k1 + 1, fun m stk => ?_⟩
      rw [head]
      simp only [aftA, List.nil_append]
      rw [q2]
      rfl
    | err w =>
      rw [q2] at qr
      simp only [St.go, Prod.mk.injEq] at qr
      obtain ⟨e1, e2⟩ := qr
      subst e1; subst e2
      refine ⟨1 + (k1 + 1), fun m stk => ?_⟩
      rw [← Nat.add_assoc, head]
      simp only [aftA, List.nil_append]
      rw [q2, loop]
      rfl
theorem mach_ev (g : Gs) (most : Nat) : ∀ L c e o L1 s, ev g c e L = (o, L1) → s + L = most → ∃ k, ∀ m stk, loop g most (m + k) (.beg c e) stk s = aft g most m stk (most - L1) o := by
  intro L
  induction L using Nat.strongRecOn with
  | ind L ih =>
    intro c e o L1 s q hs
    cases L with
    | zero =>
      rw [ev_zero] at q
      simp only [Prod.mk.injEq] at q
      obtain ⟨e1, e2⟩ := q
      subst e1; subst e2
      refine ⟨1, fun m stk => ?_⟩
      rw [loop, if_pos (by omega)]
      simp only [aft]
      rw [show s = most - 0 by omega]
    | succ L =>
      have ih' : ∀ c e L', L' ≤ L → ∀ o L1 s, ev g c e L' = (o, L1) → s + L' = most → ∃ k, ∀ m stk, loop g most (m + k) (.beg c e) stk s = aft g most m stk (most - L1) o := fun c e L' hl o L1 s => ih L' (Nat.lt_succ_of_le hl) c e o L1 s
      have leaf : ∀ v, (∀ stk, begin_ g c e stk = (.val v, stk)) → (Out.val v, L) = (o, L1) → ∃ k, ∀ m stk, loop g most (m + k) (.beg c e) stk s = aft g most m stk (most - L1) o := fun v hb q => by
        simp only [Prod.mk.injEq] at q
        obtain ⟨e1, e2⟩ := q
        subst e1; subst e2
        refine ⟨1, fun m stk => ?_⟩
        rw [loop, if_neg (by omega), hb]
        simp only [aft]
        rw [show s + 1 = most - L by omega]
      cases c with
      | int k => exact leaf _ (fun _ => rfl) q
      | loc k => exact leaf _ (fun _ => rfl) q
      | prim k => exact leaf _ (fun _ => rfl) q
      | fn ns b => exact leaf _ (fun _ => rfl) q
      | glob x =>
        rw [ev_glob] at q
        cases z : g x with
        | some v =>
          rw [z] at q
          exact leaf v (fun stk => by show (match g x with | some v => St.val v | none => St.err .early, stk) = _; rw [z]) q
        | none =>
          rw [z] at q
          simp only [Prod.mk.injEq] at q
          obtain ⟨e1, e2⟩ := q
          subst e1; subst e2
          refine ⟨2, fun m stk => ?_⟩
          rw [show m + 2 = (m + 1) + 1 by omega, loop, if_neg (by omega), show begin_ g (.glob x) e stk = (.err .early, stk) by show (match g x with | some v => St.val v | none => St.err .early, stk) = _; rw [z]]
          simp only [loop, aft]
          rw [show s + 1 = most - L by omega]
      | ite a b c =>
        rw [ev_ite] at q
        refine comp_go g most (.ite a b c) e L o L1 s ih' (fun _ => rfl) hs (all (ev g) e [a] L).1 (all (ev g) e [a] L).2 rfl ?_
        simp only [all]
        cases z : ev g a e L with
        | mk oa La =>
          rw [z] at q
          cases oa with
          | val v => exact q
          | err w => exact q
          | steps => exact q
      | lett ns ps b =>
        rw [ev_let] at q
        refine comp_go g most (.lett ns ps b) e L o L1 s ih' (fun _ => rfl) hs (all (ev g) e ps L).1 (all (ev g) e ps L).2 rfl ?_
        cases z : all (ev g) e ps L with
        | mk oa La =>
          rw [z] at q
          cases oa with
          | inl vs => exact q
          | inr x => exact q
      | call f as =>
        rw [ev_call] at q
        unfold callr at q
        refine comp_go g most (.call f as) e L o L1 s ih' (fun _ => rfl) hs (all (ev g) e (f :: as) L).1 (all (ev g) e (f :: as) L).2 rfl ?_
        cases z : all (ev g) e (f :: as) L with
        | mk oa La =>
          rw [z] at q
          cases oa with
          | inl vs =>
            cases vs with
            | nil =>
              exfalso
              unfold all at z
              cases z1 : ev g f e L with
              | mk o1 L1 =>
                rw [z1] at z
                cases o1 with
                | val v =>
                  simp only at z
                  cases z2 : all (ev g) e as L1 with
                  | mk r2 L2 =>
                    rw [z2] at z
                    cases r2 with
                    | inl vs => simp at z
                    | inr o => simp at z
                | err w => simp at z
                | steps => simp at z
            | cons v vs => exact q
          | inr x => exact q
/-- what carry_out comes to -/
theorem carry (g : Gs) (most s : Nat) (c : Core) (h : s ≤ most) : ∃ k, loop g most k (.beg c .nil) [] s = some ((ev g c .nil (most - s)).1, most - (ev g c .nil (most - s)).2) := by
  obtain ⟨k, hk⟩ := mach_ev g most (most - s) c .nil (ev g c .nil (most - s)).1 (ev g c .nil (most - s)).2 s rfl (by omega)
  refine ⟨1 + k, ?_⟩
  rw [hk]
  cases (ev g c .nil (most - s)).1 <;> rfl

/-! ### what is shown -/
inductive Sh where
  | int (k : Int)
  | fn
  | more
  | pair (a b : Sh)
def show_ : Nat → Val → Nat → Sh × Nat
  | _, .int k, l => (.int k, l)
  | _, .prim _, l => (.fn, l)
  | _, .fn _ _ _ _, l => (.fn, l)
  | 0, .pair _ _, l => (.more, l)
  | _ + 1, .pair _ _, 0 => (.more, 0)
  | n + 1, .pair a b, l + 1 => (.pair (show_ n a l).1 (show_ n b (show_ n a l).2).1, (show_ n b (show_ n a l).2).2)
theorem sized_beg (k : Int) (c : Core) (e : Env) : sized k ≠ .beg c e := by
  unfold sized
  split <;> (intro z; cases z)
theorem prim_beg (p : Pr) (vs : List Val) (c : Core) (e : Env) : prim p vs ≠ .beg c e := by
  unfold prim
  split
  · split
    · unfold prim1; split <;> (intro z; cases z)
    · intro z; cases z
  · split
    · unfold prim2; split <;> first | exact sized_beg _ _ _ | (intro z; cases z; done)
    · intro z; cases z
  · intro z; cases z
theorem prim_go (p : Pr) (vs : List Val) (r : Core → Env → Nat → Out × Nat) (L : Nat) : (prim p vs).go r L = ((prim p vs).out, L) := by
  cases h : prim p vs with
  | beg c e => exact absurd h (prim_beg p vs c e)
  | val v => rfl
  | err w => rfl
theorem prim_count (p : Pr) (vs : List Val) (h : vs.length ≠ p.ar) : prim p vs = .err .count := by
  unfold prim
  split
  · rw [if_neg (fun e => h (by rw [e]; rfl))]
  · rw [if_neg (fun e => h (by rw [e]; rfl))]
  · rfl
theorem ev_lt (g : Gs) {c : Core} {e : Env} {L L1 : Nat} {o : Out} (q : ev g c e L = (o, L1)) (no : o ≠ .steps) : L1 < L := by
  have le := ev_le g c e L
  rw [q] at le
  refine Nat.lt_of_le_of_ne le fun e' => ?_
  subst e'
  have w := ev_more g _ _ _ _ _ 0 q no (by simp)
  rw [ev_zero] at w
  simp only [Prod.mk.injEq] at w
  exact no w.1.symm
theorem puts_dom : ∀ (ns : List Int) (vs : List Val) (e : Env) (n : Int), ns.length = vs.length → (n ∈ ns ∨ e.dom n = true) → (e.puts ns vs).dom n = true
  | [], _, e, n, _, h => by
    rcases h with h | h
    · cases h
    · unfold Env.puts; exact h
  | a :: r, [], e, n, h, _ => by simp at h
  | a :: r, v :: vs, e, n, h, hm => by
    show ((e.put a v).puts r vs).dom n = true
    refine puts_dom r vs (e.put a v) n (by simpa using h) ?_
    rcases hm with hm | hm
    · rcases List.mem_cons.mp hm with z | z
      · right; show (decide (n = a) || e.dom n) = true; rw [decide_eq_true z]; rfl
      · exact .inl z
    · right; show (decide (n = a) || e.dom n) = true; rw [hm]; simp
theorem all_lt (g : Gs) {e : Env} {c : Core} {cs : List Core} {L L1 : Nat} {vs : List Val} (q : all (ev g) e (c :: cs) L = (.inl vs, L1)) : L1 < L ∧ ∃ v r, vs = v :: r := by
  unfold all at q
  cases h : ev g c e L with
  | mk o La =>
    rw [h] at q
    cases o with
    | val v =>
      have lt := ev_lt g h (fun z => by cases z)
      simp only at q
      have le := all_le (ev_le g) e cs La
      cases h2 : all (ev g) e cs La with
      | mk r Lb =>
        rw [h2] at q le
        cases r with
        | inl ws =>
          simp only [Prod.mk.injEq, Sum.inl.injEq] at q
          obtain ⟨e1, e2⟩ := q
          subst e1 e2
          simp only at le
          exact ⟨Nat.lt_of_le_of_lt le lt, v, ws, rfl⟩
        | inr o => simp at q
    | err w => simp at q
    | steps => simp at q
theorem all_len {r : Core → Env → Nat → Out × Nat} {e : Env} : ∀ {cs : List Core} {L L1 : Nat} {vs : List Val}, all r e cs L = (.inl vs, L1) → vs.length = cs.length
  | [], L, L1, vs, q => by
    simp only [all, Prod.mk.injEq, Sum.inl.injEq] at q
    rw [← q.1] <;> rfl
  | c :: cs, L, L1, vs, q => by
    unfold all at q
    cases h : r c e L with
    | mk o La =>
      rw [h] at q
      cases o with
      | val v =>
        simp only at q
        cases h2 : all r e cs La with
        | mk r' Lb =>
          rw [h2] at q
          cases r' with
          | inl ws =>
            simp only [Prod.mk.injEq, Sum.inl.injEq] at q
            rw [← q.1, List.length_cons, List.length_cons, all_len h2]
          | inr o => simp at q
      | err w => simp at q
      | steps => simp at q
theorem callv_fn (ns : List Int) (b : Core) (dom : Int → Bool) (env : Int → Val) (vs : List Val) : callv (.fn ns b dom env) vs = if ns.length ≠ vs.length then .err .count else .beg b (Env.puts ⟨dom, env⟩ ns vs) := rfl
end MM
/-! ## A -/
namespace AF
open PySem L2
/-! ### the text by places -/
def top (i : Nat) : Stmt := PySem.Challenge.pw_aliasfold_k50_whole_plain_meaning.main.body.getD i (.Pass ⟨0, 0, 0, 0⟩)
abbrev s_show_within : Stmt := top 6
abbrev p_show_within : List Str := ["value", "depth", "left"]
abbrev N_show_within : List Str := ["value", "depth", "left", "first"]
theorem sc_show_within : FnScope N_show_within p_show_within (defScope s_show_within) := ⟨rfl, rfl, rfl, by decide +kernel, rfl, by decide +kernel, by decide +kernel⟩
abbrev s_show : Stmt := top 7
abbrev p_show : List Str := ["value"]
abbrev N_show : List Str := ["value"]
theorem sc_show : FnScope N_show p_show (defScope s_show) := ⟨rfl, rfl, rfl, by decide +kernel, rfl, by decide +kernel, by decide +kernel⟩
abbrev s_computed : Stmt := top 8
abbrev p_computed : List Str := ["name", "one", "two"]
abbrev N_computed : List Str := ["name", "one", "two", "number"]
theorem sc_computed : FnScope N_computed p_computed (defScope s_computed) := ⟨rfl, rfl, rfl, by decide +kernel, rfl, by decide +kernel, by decide +kernel⟩
abbrev s_apply_prim : Stmt := top 9
abbrev p_apply_prim : List Str := ["name", "values"]
abbrev N_apply_prim : List Str := ["name", "values"]
theorem sc_apply_prim : FnScope N_apply_prim p_apply_prim (defScope s_apply_prim) := ⟨rfl, rfl, rfl, by decide +kernel, rfl, by decide +kernel, by decide +kernel⟩
abbrev s_value_of : Stmt := top 12
abbrev p_value_of : List Str := ["number", "around"]
abbrev N_value_of : List Str := ["number", "around"]
theorem sc_value_of : FnScope N_value_of p_value_of (defScope s_value_of) := ⟨rfl, rfl, rfl, by decide +kernel, rfl, by decide +kernel, by decide +kernel⟩
abbrev s_run_plain : Stmt := top 14
abbrev p_run_plain : List Str := ["definitions", "core", "most"]
abbrev N_run_plain : List Str := ["definitions", "core", "most", "plain", "module", "name", "body", "outcome"]
theorem sc_run_plain : FnScope N_run_plain p_run_plain (defScope s_run_plain) := ⟨rfl, rfl, rfl, by decide +kernel, rfl, by decide +kernel, by decide +kernel⟩
abbrev s__law_mixed : Stmt := top 16
abbrev p__law_mixed : List Str := ["_law_cell"]
abbrev N__law_mixed : List Str := ["_law_cell", "_law_seed", "_law_number", "_law_k"]
theorem sc__law_mixed : FnScope N__law_mixed p__law_mixed (defScope s__law_mixed) := ⟨rfl, rfl, rfl, by decide +kernel, rfl, by decide +kernel, by decide +kernel⟩
abbrev s__law_take : Stmt := top 17
abbrev p__law_take : List Str := ["_law_state_here", "_law_limit"]
abbrev N__law_take : List Str := ["_law_state_here", "_law_limit", "_law_cell", "_law_digit"]
theorem sc__law_take : FnScope N__law_take p__law_take (defScope s__law_take) := ⟨rfl, rfl, rfl, by decide +kernel, rfl, by decide +kernel, by decide +kernel⟩
abbrev s__law_state : Stmt := top 18
abbrev p__law_state : List Str := ["_law_script"]
abbrev N__law_state : List Str := ["_law_script", "_law_cell"]
theorem sc__law_state : FnScope N__law_state p__law_state (defScope s__law_state) := ⟨rfl, rfl, rfl, by decide +kernel, rfl, by decide +kernel, by decide +kernel⟩
abbrev s__law_same : Stmt := top 19
abbrev p__law_same : List Str := ["_law_one", "_law_two"]
abbrev N__law_same : List Str := ["_law_one", "_law_two", "_law_k"]
theorem sc__law_same : FnScope N__law_same p__law_same (defScope s__law_same) := ⟨rfl, rfl, rfl, by decide +kernel, rfl, by decide +kernel, by decide +kernel⟩
abbrev s__law_locals : Stmt := top 20
abbrev p__law_locals : List Str := ["_law_known", "_law_sort"]
abbrev N__law_locals : List Str := ["_law_known", "_law_sort", "_law_found", "_law_seen", "_law_k", "_law_number", "_law_own"]
theorem sc__law_locals : FnScope N__law_locals p__law_locals (defScope s__law_locals) := ⟨rfl, rfl, rfl, by decide +kernel, rfl, by decide +kernel, by decide +kernel⟩
abbrev s__law_numbers : Stmt := top 21
abbrev p__law_numbers : List Str := ["_law_state_here", "_law_count"]
abbrev N__law_numbers : List Str := ["_law_state_here", "_law_count", "_law_numbers_here", "_law_k", "_law_number", "_law_j"]
theorem sc__law_numbers : FnScope N__law_numbers p__law_numbers (defScope s__law_numbers) := ⟨rfl, rfl, rfl, by decide +kernel, rfl, by decide +kernel, by decide +kernel⟩
abbrev s__law_small : Stmt := top 22
abbrev p__law_small : List Str := ["_law_state_here"]
abbrev N__law_small : List Str := ["_law_state_here", "_law_pick"]
theorem sc__law_small : FnScope N__law_small p__law_small (defScope s__law_small) := ⟨rfl, rfl, rfl, by decide +kernel, rfl, by decide +kernel, by decide +kernel⟩
abbrev s__law_function : Stmt := top 23
abbrev p__law_function : List Str := ["_law_state_here", "_law_known", "_law_world", "_law_room", "_law_arity"]
abbrev N__law_function : List Str := ["_law_state_here", "_law_known", "_law_world", "_law_room", "_law_arity", "_law_pick", "_law_names", "_law_globals_there", "_law_numbers_here", "_law_inner", "_law_name", "_law_number"]
theorem sc__law_function : FnScope N__law_function p__law_function (defScope s__law_function) := ⟨rfl, rfl, rfl, by decide +kernel, rfl, by decide +kernel, by decide +kernel⟩
abbrev s__law_strange : Stmt := top 24
abbrev p__law_strange : List Str := ["_law_state_here", "_law_known", "_law_world", "_law_room"]
abbrev N__law_strange : List Str := ["_law_state_here", "_law_known", "_law_world", "_law_room", "_law_pick", "_law_one"]
theorem sc__law_strange : FnScope N__law_strange p__law_strange (defScope s__law_strange) := ⟨rfl, rfl, rfl, by decide +kernel, rfl, by decide +kernel, by decide +kernel⟩
abbrev s__law_let : Stmt := top 25
abbrev p__law_let : List Str := ["_law_state_here", "_law_known", "_law_world", "_law_room"]
abbrev N__law_let : List Str := ["_law_state_here", "_law_known", "_law_world", "_law_room", "_law_numbers_here", "_law_pairs", "_law_inner", "_law_number", "_law_sort"]
theorem sc__law_let : FnScope N__law_let p__law_let (defScope s__law_let) := ⟨rfl, rfl, rfl, by decide +kernel, rfl, by decide +kernel, by decide +kernel⟩
abbrev s__law_part : Stmt := top 26
abbrev p__law_part : List Str := ["_law_state_here", "_law_known", "_law_world", "_law_room"]
abbrev N__law_part : List Str := ["_law_state_here", "_law_known", "_law_world", "_law_room", "_law_pick", "_law_names", "_law_parts", "_law_arity", "_law_function_here", "_law_k"]
theorem sc__law_part : FnScope N__law_part p__law_part (defScope s__law_part) := ⟨rfl, rfl, rfl, by decide +kernel, rfl, by decide +kernel, by decide +kernel⟩
abbrev s__law_program : Stmt := top 27
abbrev p__law_program : List Str := ["_law_state_here"]
abbrev N__law_program : List Str := ["_law_state_here", "_law_world", "_law_names", "_law_name", "_law_definitions", "_law_module", "_law_own"]
theorem sc__law_program : FnScope N__law_program p__law_program (defScope s__law_program) := ⟨rfl, rfl, rfl, by decide +kernel, rfl, by decide +kernel, by decide +kernel⟩
abbrev s__law_prim : Stmt := top 28
abbrev p__law_prim : List Str := ["_law_name", "_law_values"]
abbrev N__law_prim : List Str := ["_law_name", "_law_values", "_law_one", "_law_two", "_law_number"]
theorem sc__law_prim : FnScope N__law_prim p__law_prim (defScope s__law_prim) := ⟨rfl, rfl, rfl, by decide +kernel, rfl, by decide +kernel, by decide +kernel⟩
abbrev s__law_with : Stmt := top 29
abbrev p__law_with : List Str := ["_law_around", "_law_numbers_here", "_law_values"]
abbrev N__law_with : List Str := ["_law_around", "_law_numbers_here", "_law_values", "_law_table", "_law_k"]
theorem sc__law_with : FnScope N__law_with p__law_with (defScope s__law_with) := ⟨rfl, rfl, rfl, by decide +kernel, rfl, by decide +kernel, by decide +kernel⟩
abbrev s__law_all : Stmt := top 30
abbrev p__law_all : List Str := ["_law_parts", "_law_around", "_law_world", "_law_depth"]
abbrev N__law_all : List Str := ["_law_parts", "_law_around", "_law_world", "_law_depth", "_law_values", "_law_part_here", "_law_told"]
theorem sc__law_all : FnScope N__law_all p__law_all (defScope s__law_all) := ⟨rfl, rfl, rfl, by decide +kernel, rfl, by decide +kernel, by decide +kernel⟩
abbrev s__law_call : Stmt := top 31
abbrev p__law_call : List Str := ["_law_core", "_law_around", "_law_world", "_law_depth", "_law_last"]
abbrev N__law_call : List Str := ["_law_core", "_law_around", "_law_world", "_law_depth", "_law_last", "_law_told", "_law_values", "_law_function_here"]
theorem sc__law_call : FnScope N__law_call p__law_call (defScope s__law_call) := ⟨rfl, rfl, rfl, by decide +kernel, rfl, by decide +kernel, by decide +kernel⟩
abbrev s__law_run : Stmt := top 32
abbrev p__law_run : List Str := ["_law_core", "_law_around", "_law_world", "_law_depth", "_law_last"]
abbrev N__law_run : List Str := ["_law_core", "_law_around", "_law_world", "_law_depth", "_law_last", "_law_kind", "_law_told", "_law_values", "_law_pair"]
theorem sc__law_run : FnScope N__law_run p__law_run (defScope s__law_run) := ⟨rfl, rfl, rfl, by decide +kernel, rfl, by decide +kernel, by decide +kernel⟩
abbrev s__law_shown : Stmt := top 33
abbrev p__law_shown : List Str := ["_law_value", "_law_depth", "_law_left"]
abbrev N__law_shown : List Str := ["_law_value", "_law_depth", "_law_left", "_law_first"]
theorem sc__law_shown : FnScope N__law_shown p__law_shown (defScope s__law_shown) := ⟨rfl, rfl, rfl, by decide +kernel, rfl, by decide +kernel, by decide +kernel⟩
abbrev s__law_due : Stmt := top 34
abbrev p__law_due : List Str := ["_law_definitions", "_law_core", "_law_most"]
abbrev N__law_due : List Str := ["_law_definitions", "_law_core", "_law_most", "_law_world", "_law_module", "_law_name", "_law_body", "_law_told", "_law_table"]
theorem sc__law_due : FnScope N__law_due p__law_due (defScope s__law_due) := ⟨rfl, rfl, rfl, by decide +kernel, rfl, by decide +kernel, by decide +kernel⟩
abbrev s_law : Stmt := top 35
abbrev p_law : List Str := ["_law_script"]
abbrev N_law : List Str := ["_law_script", "_law_state_here", "_law_definitions", "_law_core", "_law_told", "_law_steps", "_law_deepest", "_law_passed"]
theorem sc_law : FnScope N_law p_law (defScope s_law) := ⟨rfl, rfl, rfl, by decide +kernel, rfl, by decide +kernel, by decide +kernel⟩
abbrev s_Pair_init : Stmt := inClass (top 5) 0
abbrev p_Pair_init : List Str := ["self", "first", "second"]
abbrev N_Pair_init : List Str := ["self", "first", "second"]
theorem sc_Pair_init : FnScope N_Pair_init p_Pair_init (defScope s_Pair_init) := ⟨rfl, rfl, rfl, by decide +kernel, rfl, by decide +kernel, by decide +kernel⟩
abbrev s_Closure_init : Stmt := inClass (top 11) 0
abbrev p_Closure_init : List Str := ["self", "numbers", "body", "around"]
abbrev N_Closure_init : List Str := ["self", "numbers", "body", "around"]
theorem sc_Closure_init : FnScope N_Closure_init p_Closure_init (defScope s_Closure_init) := ⟨rfl, rfl, rfl, by decide +kernel, rfl, by decide +kernel, by decide +kernel⟩
abbrev s_Plain_init : Stmt := inClass (top 13) 0
abbrev p_Plain_init : List Str := ["self", "most"]
abbrev N_Plain_init : List Str := ["self", "most"]
theorem sc_Plain_init : FnScope N_Plain_init p_Plain_init (defScope s_Plain_init) := ⟨rfl, rfl, rfl, by decide +kernel, rfl, by decide +kernel, by decide +kernel⟩
abbrev s_Plain_carry_out : Stmt := inClass (top 13) 1
abbrev p_Plain_carry_out : List Str := ["self", "core"]
abbrev N_Plain_carry_out : List Str := ["self", "core", "state", "frame"]
theorem sc_Plain_carry_out : FnScope N_Plain_carry_out p_Plain_carry_out (defScope s_Plain_carry_out) := ⟨rfl, rfl, rfl, by decide +kernel, rfl, by decide +kernel, by decide +kernel⟩
abbrev s_Plain_begin : Stmt := inClass (top 13) 2
abbrev p_Plain_begin : List Str := ["self", "core", "around"]
abbrev N_Plain_begin : List Str := ["self", "core", "around", "kind"]
theorem sc_Plain_begin : FnScope N_Plain_begin p_Plain_begin (defScope s_Plain_begin) := ⟨rfl, rfl, rfl, by decide +kernel, rfl, by decide +kernel, by decide +kernel⟩
abbrev s_Plain_resume : Stmt := inClass (top 13) 3
abbrev p_Plain_resume : List Str := ["self", "frame", "values"]
abbrev N_Plain_resume : List Str := ["self", "frame", "values", "core", "_", "around", "kind", "parts", "table", "part", "number", "value"]
theorem sc_Plain_resume : FnScope N_Plain_resume p_Plain_resume (defScope s_Plain_resume) := ⟨rfl, rfl, rfl, by decide +kernel, rfl, by decide +kernel, by decide +kernel⟩
abbrev s_Plain_call : Stmt := inClass (top 13) 4
abbrev p_Plain_call : List Str := ["self", "function", "values"]
abbrev N_Plain_call : List Str := ["self", "function", "values"]
theorem sc_Plain_call : FnScope N_Plain_call p_Plain_call (defScope s_Plain_call) := ⟨rfl, rfl, rfl, by decide +kernel, rfl, by decide +kernel, by decide +kernel⟩
/-! ### what stands behind the top -/
structure Df (K : PySem.W.Frag) (mg : Str → Option Value) (x : Str) (st : Stmt) (ps : List Str) where
  f : Addr
  fd : FuncData
  F : Fun K x x st f fd
  b : Binds K fd ps []
  m : mg x = some (.ref f)
structure Mf (K : PySem.W.Frag) (C : Addr) (x qual : Str) (st : Stmt) (ps : List Str) where
  f : Addr
  fd : FuncData
  F : Fun K x qual st f fd
  b : Binds K fd ps []
  M : Meth K C x f
structure ClsF (K : PySem.W.Frag) (C : Addr) : Prop where
  cl : Cls K C
  cc : PySem.W.findIn K (.ref C) "__class__" = some (some (.builtin "object.__class__"))
  cm : PySem.W.mroIn K C (.type "object") = some true
  ce : PySem.W.findIn K (.ref C) "__eq__" = some (some (.builtin "object.__eq__"))
structure Txt (K : PySem.W.Frag) (mg : Str → Option Value) : Prop where
  len : mg "len" = none
  int : mg "int" = none
  abs : mg "abs" = none
  range : mg "range" = none
  list : mg "list" = none
  tuple : mg "tuple" = none
  sorted : mg "sorted" = none
  isinstance : mg "isinstance" = none
  str : mg "str" = none
  bool : mg "bool" = none
  dict : mg "dict" = none
  zip : mg "zip" = none
  max : mg "max" = none
  hn : PySem.W.specialIn K (.builtin "object.__class__") "__get__" = some (some (.builtin "getset_descriptor.__get__"))
  htk : PySem.W.takesIn K (.builtin "object.__class__") = some true

/-! ### heaps: what is frozen (F) within what stands (H); X: what may be changed -/
structure Gr (X : List Addr) (F H F' H' : Hp) : Prop where
  ff : Same F F'
  fh : Same F' H'
  keep : ∀ b o, b ∉ X → H b = some o → H' b = some o
  fresh : ∀ b, H b ≠ none → F b = none → F' b = none
  live : ∀ b, H b ≠ none → H' b ≠ none
theorem some_ne {H : Hp} {b : Addr} {o : HO} (h : H b = some o) : H b ≠ none := fun z => by rw [h] at z; cases z
theorem same_upd {H : Hp} {p : Addr} (h : H p = none) (o : HO) : Same H (upd H p o) := fun b u q => by rw [upd_ne (ne_of_none q h)]; exact q
theorem upd_live {H : Hp} {p b : Addr} {o : HO} (h : H b ≠ none) : upd H p o b ≠ none := by
  by_cases e : b = p
  · subst e; rw [upd_same]; exact fun z => nomatch z
  · rw [upd_ne e]; exact h
theorem upd_none {H : Hp} {p b : Addr} {o : HO} (h : upd H p o b = none) : H b = none ∧ b ≠ p := by
  have e : b ≠ p := fun z => by rw [z, upd_same] at h; cases h
  exact ⟨by rw [upd_ne e] at h; exact h, e⟩
section
variable {X : List Addr} {F H F1 H1 F2 H2 : Hp}
theorem Gr.refl (fh : Same F H) : Gr X F H F H := ⟨Same.refl F, fh, fun _ _ _ h => h, fun _ _ h => h, fun _ h => h⟩
theorem Gr.trans (a : Gr X F H F1 H1) (b : Gr X F1 H1 F2 H2) : Gr X F H F2 H2 :=
  ⟨a.ff.trans b.ff, b.fh, fun c o n h => b.keep c o n (a.keep c o n h), fun c n h => b.fresh c (a.live c n) (a.fresh c n h), fun c n => b.live c (a.live c n)⟩
/-- fewer things may be changed -/
theorem Gr.mono {Y : List Addr} (a : Gr X F H F1 H1) (h : ∀ b ∈ X, b ∈ Y) : Gr Y F H F1 H1 :=
  ⟨a.ff, a.fh, fun c o n z => a.keep c o (fun q => n (h c q)) z, a.fresh, a.live⟩
theorem Gr.mem (a : Gr X F H F1 H1) {b : Addr} {o : HO} (h : F b = some o) : F1 b = some o := a.ff b o h
theorem Gr.up (a : Gr X F H F1 H1) {b : Addr} {o : HO} (h : F1 b = some o) : H1 b = some o := a.fh b o h
theorem Gr.back (a : Gr X F H F1 H1) {p : Addr} (h : H1 p = none) : H p = none := by
  cases e : H p with
  | none => rfl
  | some o => exact absurd h (a.live p (some_ne e))
/-- a new object that is frozen -/
theorem Gr.new (a : Gr X F H F1 H1) {p : Addr} (h : H1 p = none) (o : HO) : Gr X F H (upd F1 p o) (upd H1 p o) := by
  have hf : F1 p = none := a.fh.free h
  refine ⟨a.ff.trans (same_upd hf o), fun b u q => ?_, fun b u n q => ?_, fun b n q => ?_, fun b n => upd_live (a.live b n)⟩
  · by_cases e : b = p
    · subst e; rw [upd_same] at q ⊢; exact q
    · rw [upd_ne e] at q ⊢; exact a.fh b u q
  · have q1 := a.keep b u n q
    rw [upd_ne (ne_of_none q1 h)]; exact q1
  · have e : b ≠ p := fun z => by subst z; exact a.live b n h
    rw [upd_ne e]; exact a.fresh b n q
/-- a new object that will change -/
theorem Gr.loc (a : Gr X F H F1 H1) {p : Addr} (h : H1 p = none) (o : HO) : Gr X F H F1 (upd H1 p o) :=
  ⟨a.ff, fun b u q => by rw [upd_ne (ne_of_none (a.fh b u q) h)]; exact a.fh b u q, fun b u n q => by rw [upd_ne (ne_of_none (a.keep b u n q) h)]; exact a.keep b u n q, a.fresh, fun b n => upd_live (a.live b n)⟩
/-- an object that is not frozen is changed: one of X, or one that is new since the entry -/
theorem Gr.put (a : Gr X F H F1 H1) {p : Addr} (hf : F1 p = none) (hx : p ∈ X ∨ H p = none) (o : HO) : Gr X F H F1 (upd H1 p o) := by
  refine ⟨a.ff, fun b u q => by rw [upd_ne (ne_of_none q hf)]; exact a.fh b u q, fun b u n q => ?_, a.fresh, fun b n => upd_live (a.live b n)⟩
  have e : b ≠ p := fun z => by
    subst z
    rcases hx with k | k
    · exact n k
    · rw [k] at q; cases q
  rw [upd_ne e]; exact a.keep b u n q
/-- an object of one's own changes no more -/
theorem Gr.freeze (a : Gr X F H F1 H1) {p : Addr} {o : HO} (h : H1 p = some o) (hf : F1 p = none) (hx : H p = none) : Gr X F H (upd F1 p o) H1 := by
  refine ⟨a.ff.trans (same_upd hf o), fun b u q => ?_, a.keep, fun b n q => ?_, a.live⟩
  · by_cases e : b = p
    · subst e; rw [upd_same] at q; cases q; exact h
    · rw [upd_ne e] at q; exact a.fh b u q
  · have e : b ≠ p := fun z => by subst z; exact n hx
    rw [upd_ne e]; exact a.fresh b n q
/-- one's own object stands behind what another has done -/
theorem Gr.own (a : Gr X F H F1 H1) {p : Addr} {o : HO} (h : H p = some o) (hf : F p = none) (hx : p ∉ X) : H1 p = some o ∧ F1 p = none := ⟨a.keep p o hx h, a.fresh p (some_ne h) hf⟩
end
end AF
/-! ## R1 -/
namespace AF
open PySem L2
/-- the drawn state: at p the list [cells, rest], at q the cells -/
def Sta (H : Hp) (p q : Addr) : Prop := p ≠ q ∧ ∃ (t : Int) (cs : List Int), 0 ≤ t ∧ cs.length ≤ 63 ∧ H p = some (.lst [.ref q, .int t]) ∧ H q = some (.lst (cs.map V.int))
structure Dst (p q : Addr) (F H : Hp) : Prop where
  fh : Same F H
  st : Sta H p q
  fp : F p = none
  fq : F q = none
theorem Dst.gr {p q : Addr} {F H F' H' : Hp} (D : Dst p q F H) (G : Gr [p, q] F H F' H') (s : Sta H' p q) : Dst p q F' H' := by
  obtain ⟨_, t, cs, _, _, hp, hq⟩ := D.st
  exact ⟨G.fh, s, G.fresh p (some_ne hp) D.fp, G.fresh q (some_ne hq) D.fq⟩
/-- what else stands is not the state -/
theorem Dst.ne {p q : Addr} {F H : Hp} (D : Dst p q F H) {a : Addr} {o : HO} (h : F a = some o) : a ∉ [p, q] := by
  intro m
  rcases List.mem_cons.mp m with e | m
  · rw [e, D.fp] at h; cases h
  · rw [List.mem_singleton.mp m, D.fq] at h; cases h
theorem Dst.neN {p q : Addr} {F H : Hp} (D : Dst p q F H) {a : Addr} (h : H a = none) : a ∉ [p, q] := by
  obtain ⟨_, t, cs, _, _, hp, hq⟩ := D.st
  intro m
  rcases List.mem_cons.mp m with e | m
  · rw [e, hp] at h; cases h
  · rw [List.mem_singleton.mp m, hq] at h; cases h
/-- what is new is not the state -/
theorem Dst.new {p q : Addr} {F H : Hp} (D : Dst p q F H) {a : Addr} (h : H a = none) (o : HO) : Sta (upd H a o) p q := by
  obtain ⟨n, t, cs, h1, h2, hp, hq⟩ := D.st
  exact ⟨n, t, cs, h1, h2, by rw [upd_ne (ne_of_none hp h)]; exact hp, by rw [upd_ne (ne_of_none hq h)]; exact hq⟩
theorem Dst.put {p q : Addr} {F H : Hp} (D : Dst p q F H) {a : Addr} (h : a ∉ [p, q]) (o : HO) : Sta (upd H a o) p q := by
  obtain ⟨n, t, cs, h1, h2, hp, hq⟩ := D.st
  have n1 : p ≠ a := fun e => h (by rw [e]; exact List.mem_cons_self)
  have n2 : q ≠ a := fun e => h (by rw [e]; exact List.mem_cons_of_mem _ List.mem_cons_self)
  exact ⟨n, t, cs, h1, h2, by rw [upd_ne n1]; exact hp, by rw [upd_ne n2]; exact hq⟩
/-- a new object, frozen or not -/
theorem Dst.newF {p q : Addr} {F H : Hp} (D : Dst p q F H) {a : Addr} (h : H a = none) (o : HO) : Dst p q (upd F a o) (upd H a o) := D.gr ((Gr.refl D.fh).new h o) (D.new h o)
theorem Dst.newL {p q : Addr} {F H : Hp} (D : Dst p q F H) {a : Addr} (h : H a = none) (o : HO) : Dst p q F (upd H a o) := D.gr ((Gr.refl D.fh).loc h o) (D.new h o)
theorem Dst.putL {p q : Addr} {F H : Hp} (D : Dst p q F H) {a : Addr} (h : a ∉ [p, q]) (hf : F a = none) (o : HO) : Dst p q F (upd H a o) :=
  ⟨fun b u z => by rw [upd_ne (ne_of_none z hf)]; exact D.fh b u z, D.put h o, D.fp, D.fq⟩
theorem Dst.frz {p q : Addr} {F H : Hp} (D : Dst p q F H) {a : Addr} {o : HO} (h : H a = some o) (hn : a ∉ [p, q]) : Dst p q (upd F a o) H := by
  have n1 : p ≠ a := fun e => hn (by rw [e]; exact List.mem_cons_self)
  have n2 : q ≠ a := fun e => hn (by rw [e]; exact List.mem_cons_of_mem _ List.mem_cons_self)
  refine ⟨fun b u z => ?_, D.st, by rw [upd_ne n1]; exact D.fp, by rw [upd_ne n2]; exact D.fq⟩
  by_cases e : b = a
  · subst e; rw [upd_same] at z; cases z; exact h
  · rw [upd_ne e] at z; exact D.fh b u z
end AF
/-! ## B1 -/
namespace AF
open PySem L2
section
variable {P : Program} {w : World} {K : PySem.W.Frag} {mg : Str → Option Value} {base : Heap}
/-! ### _law_mixed -/
def spMixed : Sp := fun vs H Q _ => ∃ c : Int, vs = [.int c] ∧ ∀ n : Int, 0 ≤ n → Q (.int n) H
theorem ok_mixed (D : Df K mg "_law_mixed" s__law_mixed p__law_mixed) (T : Txt K mg) : FnOk P w K mg base CX0 1 D.f D.fd p__law_mixed spMixed := by
  refine D.F.ok sc__law_mixed (fun vs H Q E h => ?_) (fun cdv A outer s H vs Q E hr h => ?_)
  · obtain ⟨c, rfl, _⟩ := h
    rfl
  obtain ⟨c, rfl, k⟩ := h
  have nd := sc__law_mixed.nd
  refine ⟨_, (pss_cons (ps_set (i := 1) nd rfl (Or.inl rfl) (pe_op op_mod (pe_callTy call_int1 (by rfl) T.int (by decide +kernel) (pa_cons (pv 0) pa_nil)) pe_int))
    (pss_cons (ps_set (i := 2) nd rfl (Or.inl rfl) pe_int)
    (pss_cons (ps_for PassesOwn.never rfl (pi_range1 rfl T.range (pa_cons pe_int pa_nil)) (pg_name (i := 3) nd rfl (Or.inl rfl))
    (pss_cons (ps_set (i := 1) nd rfl (Or.inl rfl) (pe_op op_mod (pe_callTy call_int1 (by rfl) T.int (by decide +kernel) (pa_cons (pe_op op_add (pe_op op_add (pe_op op_mul (pv 1) pe_int) pe_int) (pe_op op_mul pe_int (pv 3))) pa_nil)) pe_int))
    (pss_one (ps_set (i := 2) nd rfl (Or.inl rfl) (pe_op op_add (pe_op op_mul (pv 2) pe_int) (pv 1))))))
    (pss_one (ps_ret (pv 2)))))), ?_⟩
  refine ⟨_, rfl, .inl ⟨_, rfl, _, _, rfl, rfl, (by decide : (0 : Int) < 1000000007), ?_⟩⟩
  refine ⟨6, rfl, by decide, by decide, for_range (n := 6) (fun i σ H' => H' = H ∧ ∃ (a b : Int) (v : Option V), σ = [some (.int c), some (.int a), some (.int b), v] ∧ 0 ≤ a ∧ 0 ≤ b) ⟨rfl, _, _, _, rfl, ?_, Int.le_refl 0⟩ ?_ ?_⟩
  · exact Int.emod_nonneg _ (by decide)
  · rintro i σ H' _ ⟨rfl, a, b, v, rfl, ha, hb⟩
    refine ⟨_, rfl, _, _, rfl, rfl, .inr ⟨by decide, by decide⟩, _, _, rfl, rfl, _, rfl, _, _, rfl, rfl, .inl ⟨by decide, by decide⟩, _, _, rfl, rfl, .inl ⟨_, rfl, _, _, rfl, rfl, (by decide : (0 : Int) < 1000000007), ?_⟩⟩
    refine ⟨_, rfl, _, _, rfl, rfl, .inr ⟨by decide, by decide⟩, _, rfl, _, _, rfl, rfl, rfl, _, _, _, rfl, Int.emod_nonneg _ (by decide), ?_⟩
    exact Int.add_nonneg (Int.mul_nonneg hb (by decide)) (Int.emod_nonneg _ (by decide))
  · rintro σ H' ⟨rfl, a, b, v, rfl, ha, hb⟩
    exact ⟨_, rfl, k _ hb⟩
end
end AF
/-! ## B2 -/
namespace AF
open PySem L2
section
variable {P : Program} {w : World} {K : PySem.W.Frag} {mg : Str → Option Value} {base : Heap}
/-! ### _law_take -/
def spTake : Sp := fun vs H Q _ => ∃ (p q : Addr) (m : Int) (F : Hp), vs = [.ref p, .int m] ∧ 0 < m ∧ m < 1000 ∧ Dst p q F H ∧
  ∀ (d : Int) (H' : Hp), 0 ≤ d → d < m → Dst p q F H' → Gr [p, q] F H F H' → Q (.int d) H'
theorem ok_take (D : Df K mg "_law_take" s__law_take p__law_take) (T : Txt K mg) (D_law_mixed : Df K mg "_law_mixed" s__law_mixed p__law_mixed) : FnOk P w K mg base CX0 2 D.f D.fd p__law_take spTake := by
  have G_law_mixed := ok_mixed (P := P) (w := w) (base := base) D_law_mixed T
  refine D.F.ok sc__law_take (fun vs H Q E h => ?_) (fun cdv A outer s H vs Q E hr h => ?_)
  · obtain ⟨p, q, m, F, rfl, _⟩ := h
    rfl
  obtain ⟨p, q, m, F, rfl, m0, m1, S, k⟩ := h
  have nd := sc__law_take.nd
  obtain ⟨npq, t, cs, t0, cl, hp, hq⟩ := S.st
  -- behind the draw: any rest
  have same : ∀ (a b : HO) , Same F (upd (upd H q a) p b) := fun a b c u h => by
    rw [upd_ne (fun e => by rw [e, S.fp] at h; cases h), upd_ne (fun e => by rw [e, S.fq] at h; cases h)]
    exact S.fh c u h
  have gr : ∀ H' : Hp, (∀ b, b ≠ p → b ≠ q → H' b = H b) → H' p ≠ none → H' q ≠ none → Gr [p, q] F H F H' := fun H' e hp' hq' => by
    refine ⟨Same.refl F, fun b u z => ?_, fun b u n z => ?_, fun _ _ z => z, fun b n => ?_⟩
    · rw [e b (fun e => by rw [e, S.fp] at z; cases z) (fun e => by rw [e, S.fq] at z; cases z)]
      exact S.fh b u z
    · rw [e b (fun e => n (by rw [e]; exact List.mem_cons_self)) (fun e => n (by rw [e]; exact List.mem_cons_of_mem _ List.mem_cons_self))]
      exact z
    · by_cases e1 : b = p
      · subst e1; exact hp'
      · by_cases e2 : b = q
        · subst e2; exact hq'
        · rw [e b e1 e2]; exact n
  refine ⟨_, (C8.pss_cut (ps_if (PW.pt (pw_and (pt_cmpR op_lt (pe_ix ix_list (pv 0) pe_int (fun _ _ => rfl)) (pv 1) (nomark _)) (pw_and1 (pt_cmpR op_gt (pe_callB call_len_seq (by rfl) T.len PySem.boot_len (pa_cons (pe_ix ix_list (pv 0) pe_int (fun _ _ => rfl)) pa_nil)) pe_int (nomark _))))) (pss_cons (ps_set (i := 2) nd rfl (Or.inl rfl) (pe_callB call_abs (by rfl) T.abs (by decide +kernel) (pa_cons (pe_callTy call_int1 (by rfl) T.int (by decide +kernel) (pa_cons (pe_bm PySem.F.plainAttrs_list PySem.F.slot_list_pop PySem.F.type_list_pop mt_popAt (pe_ix ix_list (pv 0) pe_int (fun _ _ => rfl)) (pa_cons pe_int pa_nil)) pa_nil)) pa_nil)))
    (C8.pss_cut (ps_if (pt_cmpR op_lt (pv 2) (pe_op op_pow pe_int pe_int) (nomark _)) (pss_one (ps_set (i := 2) nd rfl (Or.inl rfl) (pe_call G_law_mixed (hr.mono (by omega)) rfl D_law_mixed.m D_law_mixed.F.kp D_law_mixed.b .nil pass0 (pa_cons (pv 2) pa_nil)))) pss_nil)
    (pss_one (ps_asg (pv 2) (pg_sub (pv 0) pe_int set_list))))) pss_nil)
    (pss_cons (ps_set (i := 3) nd rfl (Or.inl rfl) (pe_op op_mod (pe_callTy call_int1 (by rfl) T.int (by decide +kernel) (pa_cons (pe_ix ix_list (pv 0) pe_int (fun _ _ => rfl)) pa_nil)) (pv 1)))
    (pss_cons (ps_asg (pe_op op_fdivN (pe_ix ix_list (pv 0) pe_int (fun _ _ => rfl)) (pv 1)) (pg_sub (pv 0) pe_int set_list))
    (pss_one (ps_ret (pv 3)))))), ?_⟩
  refine ⟨fun σ' H' => ∃ c, σ' = [some (.ref p), some (.int m), c, none] ∧ Sta H' p q ∧ ∀ b, b ≠ p → b ≠ q → H' b = H b, ?_, ?_⟩
  · refine ⟨_, rfl, p, _, 1, _, rfl, rfl, SqL.of hp, rfl, _, rfl, _, _, rfl, rfl, _, rfl, ?_⟩
    refine ite2 (fun _ => ?_) (fun _ => ?_)
    · refine ⟨_, rfl, p, _, 0, _, rfl, rfl, SqL.of hp, rfl, q, _, rfl, .inl (SqL.of hq), _, _, rfl, rfl, _, rfl, ?_⟩
      refine ite2 (fun c => ?_) (fun _ => ?_)
      · have c' : (((cs.map V.int).length : Nat) : Int) > 0 := of_decide_eq_true c
        cases cs with
        | nil => exact absurd c' (by decide)
        | cons z cs =>
          refine ⟨_, rfl, p, _, 0, _, rfl, rfl, SqL.of hp, rfl, .inl ⟨rfl, _, .inl (.inl hq)⟩, q, _, 0, 0, _, rfl, rfl, hq, by decide, by decide, by simp [seqIndex?], rfl, ?_⟩
          refine .inl ⟨_, rfl, _, rfl, ?_⟩
          have ha : 0 ≤ (if z < 0 then -z else z) := by split <;> omega
          generalize (if z < 0 then -z else z) = a at ha
          refine ⟨fun σ' H' => ∃ b : Int, 0 ≤ b ∧ σ' = [some (.ref p), some (.int m), some (.int b), none] ∧ H' = upd H q (.lst (cs.map V.int)), ?_, ?_⟩
          · refine ⟨_, rfl, _, _, rfl, rfl, ⟨by decide, by decide, by decide⟩, _, _, rfl, rfl, _, rfl, ?_⟩
            refine ite2 (fun _ => ?_) (fun _ => ?_)
            · exact ⟨_, rfl, _, rfl, fun n hn => ⟨n, hn, rfl, rfl⟩⟩
            · exact ⟨a, ha, rfl, rfl⟩
          · rintro σ' H' ⟨b, hb, rfl, rfl⟩
            refine ⟨_, rfl, _, rfl, p, _, 1, 1, rfl, rfl, by rw [upd_ne npq]; exact hp, rfl, ?_⟩
            refine ⟨_, rfl, ⟨npq, b, cs, hb, ?_, upd_same, ?_⟩, fun c h1 h2 => ?_⟩
            · rw [List.length_cons] at cl; omega
            · rw [upd_ne npq.symm, upd_same]
            · rw [upd_ne h1, upd_ne h2]
      · exact ⟨_, rfl, S.st, fun _ _ _ => rfl⟩
    · exact ⟨_, rfl, S.st, fun _ _ _ => rfl⟩
  · rintro σ' H' ⟨c, rfl, ⟨_, t', cs', t0', cl', hp', hq'⟩, e⟩
    refine ⟨_, rfl, p, _, 1, _, rfl, rfl, SqL.of hp', rfl, .inl ⟨_, rfl, _, rfl, _, _, rfl, rfl, m0, ?_⟩⟩
    refine ⟨_, rfl, p, _, 1, _, rfl, rfl, SqL.of hp', rfl, _, rfl, _, _, rfl, rfl, ⟨by omega, by omega⟩, _, rfl, p, _, 1, 1, rfl, rfl, hp', rfl, ?_⟩
    refine ⟨_, rfl, ?_⟩
    have st' : Sta (upd H' p (.lst ([V.ref q, V.int t'].set 1 (.int (t'.fdiv m))))) p q := by
      refine ⟨npq, t'.fdiv m, cs', ?_, cl', upd_same, by rw [upd_ne npq.symm]; exact hq'⟩
      rw [Int.fdiv_eq_ediv_of_nonneg _ (by omega)]
      exact Int.ediv_nonneg t0' (by omega)
    have g := gr (upd H' p (.lst ([V.ref q, V.int t'].set 1 (.int (t'.fdiv m))))) (fun b h1 h2 => by rw [upd_ne h1]; exact e b h1 h2) (by rw [upd_same]; exact fun z => nomatch z) (by rw [upd_ne npq.symm, hq']; exact fun z => nomatch z)
    exact k _ _ (Int.emod_nonneg _ (by omega)) (Int.emod_lt_of_pos _ m0) (S.gr g st') g
end
end AF
/-! ## B3 -/
namespace AF
open PySem L2
/-- the list of known variables -/
def KnAt (F : Hp) (a : Addr) (ks : List Int) : Prop :=
  ∃ ts : List Addr, F a = some (.lst (ts.map V.ref)) ∧ ts.length = ks.length ∧ ∀ (i : Nat) (t : Addr), ts[i]? = some t → ∃ n s : Int, F t = some (.tup [.int n, .int s]) ∧ ks[i]? = some n
theorem KnAt.same {F F' : Hp} {a : Addr} {ks : List Int} (h : KnAt F a ks) (s : Same F F') : KnAt F' a ks := by
  obtain ⟨ts, h1, h2, h3⟩ := h
  exact ⟨ts, s _ _ h1, h2, fun i t e => let ⟨n, m, e1, e2⟩ := h3 i t e; ⟨n, m, s _ _ e1, e2⟩⟩
theorem all_flat (ns : List Int) : (ns.map V.int).all flatV = true := by
  rw [List.all_eq_true]
  intro x h
  obtain ⟨n, _, rfl⟩ := List.mem_map.mp h
  rfl
section
variable {P : Program} {w : World} {K : PySem.W.Frag} {mg : Str → Option Value} {base : Heap}
/-! ### _law_locals -/
def spLocals : Sp := fun vs H Q _ => ∃ (a : Addr) (m : Int) (ks : List Int) (F : Hp), vs = [.ref a, .int m] ∧ Same F H ∧ KnAt F a ks ∧ ks.length ≤ 1000 ∧
  ∀ (r : Addr) (H' : Hp) (ns : List Int), Gr [] F H F H' → H r = none → H' r = some (.lst (ns.map V.int)) → ns.length ≤ ks.length → (∀ n ∈ ns, n ∈ ks) → Q (.ref r) H'
theorem ok_locals (D : Df K mg "_law_locals" s__law_locals p__law_locals) (T : Txt K mg) : FnOk P w K mg base CX0 1 D.f D.fd p__law_locals spLocals := by
  refine D.F.ok sc__law_locals (fun vs H Q E h => ?_) (fun cdv A outer s H vs Q E hr h => ?_)
  · obtain ⟨a, m, ks, F, rfl, _⟩ := h
    rfl
  obtain ⟨a, m, ks, F, rfl, fh, kn, kl, k⟩ := h
  have nd := sc__law_locals.nd
  obtain ⟨ts, ha, tl, tk⟩ := id kn
  have tl' : (ts.map V.ref).length = ks.length := by rw [List.length_map, tl]
  refine ⟨_, (pss_cons (ps_set (i := 2) nd rfl (Or.inl rfl) (pe_lst pa_nil))
    (pss_cons (ps_set (i := 3) nd rfl (Or.inl rfl) (pe_lst pa_nil))
    (pss_cons (ps_for PassesOwn.never rfl (pi_range1 rfl T.range (pa_cons (pe_callB call_len_seq (by rfl) T.len PySem.boot_len (pa_cons (pv 0) pa_nil)) pa_nil)) (pg_name (i := 4) nd rfl (Or.inl rfl))
    (pss_cons (ps_asg (pe_ix ix_list (pv 0) (pe_op op_sub (pe_op op_sub (pe_callB call_len_seq (by rfl) T.len PySem.boot_len (pa_cons (pv 0) pa_nil)) pe_int) (pv 4)) (fun _ _ => rfl)) (pg_tup rfl (pgs_cons (pg_name (i := 5) nd rfl (Or.inl rfl)) (pgs_cons (pg_name (i := 6) nd rfl (Or.inl rfl)) pgs_nil))))
    (pss_one (ps_if (pt_cmpR op_notIn_seq (pv 5) (pv 3) rfl) (pss_cons (ps_expr (pe_bm PySem.F.plainAttrs_list PySem.F.slot_list_append PySem.F.type_list_append mt_append (pv 3) (pa_cons (pv 5) pa_nil)))
    (pss_one (ps_if (pt_cmpR op_eq (pv 6) (pv 1) (nomark _)) (pss_one (ps_expr (pe_bm PySem.F.plainAttrs_list PySem.F.slot_list_append PySem.F.type_list_append mt_append (pv 2) (pa_cons (pv 5) pa_nil)))) pss_nil))) pss_nil))))
    (pss_one (ps_ret (pv 2)))))), ?_⟩
  refine ⟨(by show 0 ≤ sizeLine; decide), fun f hf => ⟨(by show 0 ≤ sizeLine; decide), fun g hg => ?_⟩⟩
  obtain ⟨hg0, nfg⟩ := upd_none hg
  have G0 : Gr [] F H F (upd (upd H f (.lst [])) g (.lst [])) := ((Gr.refl fh).loc hf _).loc hg _
  refine ⟨_, rfl, a, _, rfl, .inl (SqL.of (G0.up ha)), (((ts.map V.ref).length : Nat) : Int), rfl, by omega, by rw [tl']; omega, for_range (n := ((ts.map V.ref).length : Int).toNat) (fun i σ H' => ∃ (v4 v5 v6 : Option V) (fs ss : List Int), σ = [some (.ref a), some (.int m), some (.ref f), some (.ref g), v4, v5, v6] ∧ Gr [] F H F H' ∧
    H' f = some (.lst (fs.map V.int)) ∧ H' g = some (.lst (ss.map V.int)) ∧ fs.length ≤ i ∧ ss.length ≤ i ∧ ∀ n ∈ fs, n ∈ ks) ⟨none, none, none, [], [], rfl, G0, by rw [upd_ne nfg.symm, upd_same] <;> rfl, upd_same, Nat.le_refl _, Nat.le_refl _, fun n z => by cases z⟩ ?_ ?_⟩
  · rintro i σ H' hi ⟨v4, v5, v6, fs, ss, rfl, G, ef, eg, lf, lg, hm⟩
    have hi' : i < ks.length := by rw [tl'] at hi; omega
    have hj : ks.length - 1 - i < ts.length := by omega
    obtain ⟨n, s, ht, hk⟩ := tk _ _ (List.getElem?_eq_getElem hj)
    have ff : F f = none := fh.free hf
    have fg : F g = none := fh.free hg0
    have ix : atI (ts.map V.ref) ((((ts.map V.ref).length : Nat) : Int) - 1 - (0 + (i : Int))) = some (.ref ts[ks.length - 1 - i]) := by
      refine at_of (j := ks.length - 1 - i) (by rw [tl']; omega) ?_
      rw [List.getElem?_map, List.getElem?_eq_getElem hj] <;> rfl
    refine ⟨_, rfl, _, rfl, a, _, rfl, .inl (SqL.of (G.up ha)), _, _, rfl, rfl, _, rfl, _, _, rfl, rfl, a, _, _, _, rfl, rfl, SqL.of (G.up ha), ix, ?_⟩
    refine ⟨_, _, rfl, SqT.of (G.up ht), rfl, _, _, rfl, _, _, rfl, rfl, ?_⟩
    refine ⟨_, rfl, _, rfl, g, _, rfl, .inl (SqL.of eg), rfl, all_flat _, _, rfl, ?_⟩
    have mem : n ∈ ks := List.mem_of_getElem? hk
    refine ite2 (fun _ => ?_) (fun _ => ?_)
    · refine ⟨_, rfl, .inl ⟨rfl, _, SqL.of eg⟩, _, rfl, g, _, _, rfl, rfl, eg, by rw [List.length_map]; exact small1000 (by omega), ?_⟩
      have ef' : upd H' g (.lst (ss.map V.int ++ [V.int n])) f = some (.lst (fs.map V.int)) := by rw [upd_ne nfg.symm]; exact ef
      have G' : Gr [] F H F (upd H' g (.lst (ss.map V.int ++ [V.int n]))) := G.put fg (.inr hg0) _
      refine ⟨_, rfl, _, rfl, rfl, _, rfl, ?_⟩
      refine ite2 (fun _ => ?_) (fun _ => ?_)
      · refine ⟨_, rfl, .inl ⟨rfl, _, SqL.of ef'⟩, _, rfl, f, _, _, rfl, rfl, ef', by rw [List.length_map]; exact small1000 (by omega), ?_⟩
        refine ⟨_, _, _, fs ++ [n], ss ++ [n], rfl, G'.put ff (.inr hf) _, ?_, ?_, ?_, ?_, fun x hx => ?_⟩
        · rw [upd_same, List.map_append] <;> rfl
        · rw [upd_ne nfg, upd_same, List.map_append] <;> rfl
        · rw [List.length_append, List.length_singleton]; omega
        · rw [List.length_append, List.length_singleton]; omega
        · rcases List.mem_append.mp hx with z | z
          · exact hm x z
          · rw [List.mem_singleton.mp z]; exact mem
      · refine ⟨_, _, _, fs, ss ++ [n], rfl, G', ef', ?_, by omega, ?_, hm⟩
        · rw [upd_same, List.map_append] <;> rfl
        · rw [List.length_append, List.length_singleton]; omega
    · exact ⟨_, _, _, fs, ss, rfl, G, ef, eg, by omega, by omega, hm⟩
  · rintro σ H' ⟨v4, v5, v6, fs, ss, rfl, G, ef, eg, lf, lg, hm⟩
    exact ⟨_, rfl, k f H' fs G hf ef (by rw [tl'] at lf; omega) hm⟩
end
end AF
/-! ## R2 -/
namespace AF
open PySem L2
/-! ### how trees and values stand in a heap -/
def pstr : MM.Pr → Str
  | .add => "+"
  | .sub => "-"
  | .mul => "*"
  | .lt => "<"
  | .eq => "="
  | .pair => "pair"
  | .first => "first"
  | .second => "second"
def mstr : MM.GM → Str
  | .m => "m"
  | .ma => "ma"
  | .n => "n"
def nstr : MM.GN → Str
  | .a => "a"
  | .aa => "aa"
  | .b => "b"
  | .e => "e"
def In (ns : List Int) (D : Int → Prop) : Int → Prop := fun n => n ∈ ns ∨ D n
def Num (ns : List Int) : Prop := ns.length ≤ 10 ∧ ∀ n ∈ ns, 0 ≤ n ∧ n < 7
inductive CoreAt (F : Hp) : (Int → Prop) → V → MM.Core → Prop where
  | int {D : Int → Prop} {a : Addr} {k : Int} : F a = some (.tup [.str "int", .int k]) → -MM.big ≤ k → k ≤ MM.big → CoreAt F D (.ref a) (.int k)
  | loc {D : Int → Prop} {a : Addr} {n : Int} : F a = some (.tup [.str "local", .int n]) → D n → CoreAt F D (.ref a) (.loc n)
  | glob {D : Int → Prop} {a : Addr} {g : MM.G} : F a = some (.tup [.str "global", .str (mstr g.mo), .str (nstr g.na)]) → CoreAt F D (.ref a) (.glob g)
  | prim {D : Int → Prop} {a : Addr} {p : MM.Pr} : F a = some (.tup [.str "prim", .str (pstr p)]) → CoreAt F D (.ref a) (.prim p)
  | fn {D : Int → Prop} {a b : Addr} {v : V} {ns : List Int} {c : MM.Core} : F a = some (.tup [.str "fn", .ref b, v]) → F b = some (.tup (ns.map V.int)) → Num ns → CoreAt F (In ns D) v c → CoreAt F D (.ref a) (.fn ns c)
  | lett {D : Int → Prop} {a b : Addr} {v : V} {ts : List Addr} {ns : List Int} {ws : List V} {ps : List MM.Core} {c : MM.Core} : F a = some (.tup [.str "let", .ref b, v]) → F b = some (.tup (ts.map V.ref)) →
      ts.length = ns.length → ws.length = ns.length → ps.length = ns.length → Num ns → (∀ (i : Nat) (t : Addr) (n : Int) (u : V), ts[i]? = some t → ns[i]? = some n → ws[i]? = some u → F t = some (.tup [.int n, u])) →
      (∀ (i : Nat) (u : V) (q : MM.Core), ws[i]? = some u → ps[i]? = some q → CoreAt F D u q) → CoreAt F (In ns D) v c → CoreAt F D (.ref a) (.lett ns ps c)
  | ite {D : Int → Prop} {a : Addr} {u v w : V} {x y z : MM.Core} : F a = some (.tup [.str "if", u, v, w]) → CoreAt F D u x → CoreAt F D v y → CoreAt F D w z → CoreAt F D (.ref a) (.ite x y z)
  | call {D : Int → Prop} {a b : Addr} {u : V} {ws : List V} {f : MM.Core} {ps : List MM.Core} : F a = some (.tup [.str "call", u, .ref b]) → F b = some (.tup ws) → ws.length = ps.length → ws.length ≤ 10 → f.atom → CoreAt F D u f →
      (∀ (i : Nat) (u : V) (q : MM.Core), ws[i]? = some u → ps[i]? = some q → CoreAt F D u q) → CoreAt F D (.ref a) (.call f ps)
theorem CoreAt.same {F F' : Hp} (s : Same F F') {D : Int → Prop} {v : V} {c : MM.Core} (h : CoreAt F D v c) : CoreAt F' D v c := by
  induction h with
  | int h h1 h2 => exact .int (s _ _ h) h1 h2
  | loc h h1 => exact .loc (s _ _ h) h1
  | glob h => exact .glob (s _ _ h)
  | prim h => exact .prim (s _ _ h)
  | fn h h1 h2 _ ih => exact .fn (s _ _ h) (s _ _ h1) h2 ih
  | lett h h1 h2 h3 h4 h5 h6 _ _ ih ih2 => exact .lett (s _ _ h) (s _ _ h1) h2 h3 h4 h5 (fun i t n u e1 e2 e3 => s _ _ (h6 i t n u e1 e2 e3)) ih ih2
  | ite h _ _ _ i1 i2 i3 => exact .ite (s _ _ h) i1 i2 i3
  | call h h1 h2 h3 h4 _ _ ih ih2 => exact .call (s _ _ h) (s _ _ h1) h2 h3 h4 ih ih2
theorem CoreAt.mono {F : Hp} {D : Int → Prop} {v : V} {c : MM.Core} (h : CoreAt F D v c) : ∀ {D' : Int → Prop}, (∀ n, D n → D' n) → CoreAt F D' v c := by
  have ext : ∀ {D D' : Int → Prop} (ns : List Int), (∀ n, D n → D' n) → ∀ n, In ns D n → In ns D' n := fun ns k n h => h.imp id (k n)
  induction h with
  | int h h1 h2 => exact fun _ => .int h h1 h2
  | loc h h1 => exact fun k => .loc h (k _ h1)
  | glob h => exact fun _ => .glob h
  | prim h => exact fun _ => .prim h
  | fn h h1 h2 _ ih => exact fun k => .fn h h1 h2 (ih (ext _ k))
  | lett h h1 h2 h3 h4 h5 h6 _ _ ih ih2 => exact fun k => .lett h h1 h2 h3 h4 h5 h6 (fun i u q e1 e2 => ih i u q e1 e2 k) (ih2 (ext _ k))
  | ite h _ _ _ i1 i2 i3 => exact fun k => .ite h (i1 k) (i2 k) (i3 k)
  | call h h1 h2 h3 h4 _ _ ih ih2 => exact fun k => .call h h1 h2 h3 h4 (ih k) fun i u q e1 e2 => ih2 i u q e1 e2 k

/-! ### the values of the law's evaluator -/
def KvOk (kvs : List (Key × V)) : Prop := (kvs.map (·.1)).Nodup ∧ ∀ k ∈ kvs.map (·.1), ∃ n : Int, k = .inl n ∧ 0 ≤ n ∧ n < 7
theorem few : ∀ (k : Nat) (l : List Int), l.Nodup → (∀ n ∈ l, 0 ≤ n ∧ n < (k : Int)) → l.length ≤ k := by
  intro k
  induction k with
  | zero =>
    intro l _ h
    cases l with
    | nil => exact Nat.le_refl _
    | cons a r => have := h a List.mem_cons_self; omega
  | succ k ih =>
    intro l nd h
    have h1 := ih (l.filter fun n => decide (n ≠ (k : Int))) (nd.filter _) fun n hn => by
      obtain ⟨m, e⟩ := List.mem_filter.mp hn
      have := h n m
      have := of_decide_eq_true e
      omega
    have h2 : ∀ (l : List Int), l.Nodup → l.length ≤ (l.filter fun n => decide (n ≠ (k : Int))).length + 1 := by
      intro l
      induction l with
      | nil => intro _; exact Nat.zero_le _
      | cons a r ih =>
        intro nd
        obtain ⟨n1, n2⟩ := List.nodup_cons.mp nd
        by_cases e : a = (k : Int)
        · have : (r.filter fun n => decide (n ≠ (k : Int))) = r := List.filter_eq_self.mpr fun x hx => decide_eq_true fun z => n1 (by rw [e, ← z]; exact hx)
          rw [List.filter_cons, if_neg (by simp [e]), this]
          exact Nat.le_refl _
        · rw [List.filter_cons, if_pos (by simp [e]), List.length_cons, List.length_cons]
          have := ih n2
          omega
    have := h2 l nd
    omega
theorem KvOk.len {kvs : List (Key × V)} (h : KvOk kvs) : kvs.length ≤ 7 := by
  obtain ⟨nd, hk⟩ := h
  have key : ∀ ks : List Key, ks.Nodup → (∀ k ∈ ks, ∃ n : Int, k = .inl n ∧ 0 ≤ n ∧ n < 7) → ∃ ns : List Int, ks = ns.map Sum.inl ∧ ns.Nodup ∧ ∀ n ∈ ns, 0 ≤ n ∧ n < 7 := by
    intro ks
    induction ks with
    | nil => intro _ _; exact ⟨[], rfl, List.nodup_nil, fun _ z => nomatch z⟩
    | cons k r ih =>
      intro nd h
      obtain ⟨n1, n2⟩ := List.nodup_cons.mp nd
      obtain ⟨ns, e, d, b⟩ := ih n2 fun k hk => h k (List.mem_cons_of_mem _ hk)
      obtain ⟨n, rfl, b1, b2⟩ := h k List.mem_cons_self
      refine ⟨n :: ns, by rw [e]; rfl, List.nodup_cons.mpr ⟨fun m => n1 (by rw [e]; exact List.mem_map.mpr ⟨n, m, rfl⟩), d⟩, fun x hx => ?_⟩
      rcases List.mem_cons.mp hx with z | z
      · rw [z]; exact ⟨b1, b2⟩
      · exact b x z
  obtain ⟨ns, e, d, b⟩ := key _ nd hk
  have := few 7 ns d fun n hn => by have := b n hn; omega
  have e2 := congrArg List.length e
  rw [List.length_map, List.length_map] at e2
  omega
theorem KvOk.nil : KvOk [] := ⟨List.nodup_nil, fun _ z => nomatch z⟩
theorem KvOk.put {kvs : List (Key × V)} (h : KvOk kvs) {n : Int} (h0 : 0 ≤ n) (h1 : n < 7) (v : V) : KvOk (putK kvs (.inl n) v) := by
  obtain ⟨nd, hk⟩ := h
  cases e : valV kvs (Sum.inl n) with
  | none =>
    refine ⟨nd_putK v nd e, fun k m => ?_⟩
    rw [putK_new v e, List.map_append] at m
    rcases List.mem_append.mp m with z | z
    · exact hk k z
    · exact ⟨n, List.mem_singleton.mp z, h0, h1⟩
  | some u =>
    have q : (kvs.any fun kv => decide (kv.1 = Sum.inl n)) = true := by rw [valV_any, e] <;> rfl
    have e2 : (putK kvs (Sum.inl n) v).map (·.1) = kvs.map (·.1) := by
      unfold putK
      rw [if_pos q, List.map_map]
      refine List.map_congr_left fun kv _ => ?_
      show (if kv.1 = Sum.inl n then (kv.1, v) else kv).1 = kv.1
      split <;> rfl
    unfold KvOk
    rw [e2]
    exact ⟨nd, hk⟩

inductive RepL (F : Hp) : V → MM.Val → Prop where
  | int {k : Int} : -MM.big ≤ k → k ≤ MM.big → RepL F (.int k) (.int k)
  | prim {a : Addr} {p : MM.Pr} : F a = some (.tup [.str "prim", .str (pstr p)]) → RepL F (.ref a) (.prim p)
  | pair {a : Addr} {u v : V} {x y : MM.Val} : F a = some (.tup [.str "pair", u, v]) → RepL F u x → RepL F v y → RepL F (.ref a) (.pair x y)
  | fn {a b d : Addr} {v : V} {ns : List Int} {c : MM.Core} {dom : Int → Bool} {env : Int → MM.Val} {kvs : List (Key × V)} : F a = some (.tup [.str "fn", .ref b, v, .ref d]) → F b = some (.tup (ns.map V.int)) → Num ns → F d = some (.dK kvs) → KvOk kvs →
      CoreAt F (In ns fun n => dom n = true) v c → (∀ n, dom n = (valV kvs (.inl n)).isSome) → (∀ (n : Int) (u : V), valV kvs (.inl n) = some u → RepL F u (env n)) → RepL F (.ref a) (.fn ns c dom env)
theorem RepL.same {F F' : Hp} (s : Same F F') {v : V} {x : MM.Val} (h : RepL F v x) : RepL F' v x := by
  induction h with
  | int h1 h2 => exact .int h1 h2
  | prim h => exact .prim (s _ _ h)
  | pair h _ _ i1 i2 => exact .pair (s _ _ h) i1 i2
  | fn h h1 h2 h3 h4 h5 h6 _ ih => exact .fn (s _ _ h) (s _ _ h1) h2 (s _ _ h3) h4 (h5.same s) h6 ih
/-- an environment of the law's: a dict -/
structure EnvL (F : Hp) (d : Addr) (e : MM.Env) : Prop where
  ex : ∃ kvs, F d = some (.dK kvs) ∧ KvOk kvs ∧ (∀ n, e.dom n = (valV kvs (.inl n)).isSome) ∧ ∀ (n : Int) (u : V), valV kvs (.inl n) = some u → RepL F u (e.at_ n)
theorem EnvL.same {F F' : Hp} {d : Addr} {e : MM.Env} (s : Same F F') (h : EnvL F d e) : EnvL F' d e := by
  obtain ⟨kvs, h1, h2, h3, h4⟩ := h.ex
  exact ⟨kvs, s _ _ h1, h2, h3, fun n u q => (h4 n u q).same s⟩
end AF
/-! ## B4 -/
namespace AF
open PySem L2
section
variable {P : Program} {w : World} {K : PySem.W.Frag} {mg : Str → Option Value} {base : Heap}
/-! ### _law_numbers -/
def spNumbers : Sp := fun vs H Q _ => ∃ (p q : Addr) (c : Int) (F : Hp), vs = [.ref p, .int c] ∧ 0 ≤ c ∧ c ≤ 10 ∧ Dst p q F H ∧
  ∀ (r : Addr) (H' : Hp) (ns : List Int), Dst p q F H' → Gr [p, q] F H F H' → H r = none → H' r = some (.lst (ns.map V.int)) → ns.length = c.toNat → (∀ n ∈ ns, 0 ≤ n ∧ n < 7) → Q (.ref r) H'
theorem ok_numbers (D : Df K mg "_law_numbers" s__law_numbers p__law_numbers) (T : Txt K mg) (D_law_take : Df K mg "_law_take" s__law_take p__law_take) (G_law_take : FnOk P w K mg base CX0 2 D_law_take.f D_law_take.fd p__law_take spTake) : FnOk P w K mg base CX0 3 D.f D.fd p__law_numbers spNumbers := by
  refine D.F.ok sc__law_numbers (fun vs H Q E h => ?_) (fun cdv A outer s H vs Q E hr h => ?_)
  · obtain ⟨p, q, c, F, rfl, _⟩ := h
    rfl
  obtain ⟨p, q, c, F, rfl, c0, c1, S, k⟩ := h
  have nd := sc__law_numbers.nd
  refine ⟨_, (pss_cons (ps_set (i := 2) nd rfl (Or.inl rfl) (pe_lst pa_nil))
    (pss_cons (ps_for PassesOwn.never rfl (pi_range1 rfl T.range (pa_cons (pv 1) pa_nil)) (pg_name (i := 3) nd rfl (Or.inl rfl))
    (pss_cons (ps_set (i := 4) nd rfl (Or.inl rfl) (pe_call G_law_take (hr.mono (by omega)) rfl D_law_take.m D_law_take.F.kp D_law_take.b .nil pass0 (pa_cons (pv 0) (pa_cons pe_int pa_nil))))
    (pss_cons (ps_for PassesOwn.never rfl (pi_range1 rfl T.range (pa_cons pe_int pa_nil)) (pg_name (i := 5) nd rfl (Or.inl rfl))
    (pss_one (ps_if (pt_cmpR op_in_seq (pv 4) (pv 2) rfl) (pss_one (ps_set (i := 4) nd rfl (Or.inl rfl) (pe_op op_mod (pe_callTy call_int1 (by rfl) T.int (by decide +kernel) (pa_cons (pe_op op_add (pv 4) pe_int) pa_nil)) pe_int))) pss_nil)))
    (pss_one (ps_expr (pe_bm PySem.F.plainAttrs_list PySem.F.slot_list_append PySem.F.type_list_append mt_append (pv 2) (pa_cons (pv 4) pa_nil)))))))
    (pss_one (ps_ret (pv 2))))), ?_⟩
  refine ⟨(by show 0 ≤ sizeLine; decide), fun r hr' => ?_⟩
  have rf : F r = none := S.fh.free hr'
  have nr : r ∉ [p, q] := S.neN hr'
  have G0 : Gr [p, q] F H F (upd H r (.lst [])) := (Gr.refl S.fh).loc hr' _
  refine ⟨_, rfl, c, rfl, by omega, by omega, for_range (n := c.toNat) (fun i σ H' => ∃ (v3 v4 v5 : Option V) (ns : List Int), σ = [some (.ref p), some (.int c), some (.ref r), v3, v4, v5] ∧ Gr [p, q] F H F H' ∧ Dst p q F H' ∧
    H' r = some (.lst (ns.map V.int)) ∧ ns.length = i ∧ ∀ n ∈ ns, 0 ≤ n ∧ n < 7) ⟨none, none, none, [], rfl, G0, S.gr G0 (S.new hr' _), upd_same, rfl, fun _ z => nomatch z⟩ ?_ ?_⟩
  · rintro i σ H' hi ⟨v3, v4, v5, ns, rfl, G, S', er, el, eb⟩
    refine ⟨_, rfl, p, q, 7, F, rfl, by decide, by decide, S', fun d H1 d0 d1 S1 G1 => ?_⟩
    have er1 : H1 r = some (.lst (ns.map V.int)) := G1.keep r _ nr er
    refine ⟨7, rfl, by decide, by decide, for_range (n := 7) (fun j σ H' => ∃ (v3 v5 : Option V) (x : Int), σ = [some (.ref p), some (.int c), some (.ref r), v3, some (.int x), v5] ∧ H' = H1 ∧ 0 ≤ x ∧ x < 7) ⟨_, _, d, rfl, rfl, d0, d1⟩ ?_ ?_⟩
    · rintro j σ H' hj ⟨v3, v5, x, rfl, rfl, x0, x1⟩
      refine ⟨_, rfl, _, rfl, r, _, rfl, .inl (SqL.of er1), rfl, all_flat _, _, rfl, ?_⟩
      refine ite2 (fun _ => ?_) (fun _ => ?_)
      · refine ⟨_, rfl, _, _, rfl, rfl, .inl ⟨_, rfl, _, _, rfl, rfl, (by decide : (0 : Int) < 7), ?_⟩⟩
        exact ⟨_, _, _, rfl, rfl, Int.emod_nonneg _ (by decide), Int.emod_lt_of_pos _ (by decide)⟩
      · exact ⟨_, _, x, rfl, rfl, x0, x1⟩
    · rintro σ H' ⟨v3, v5, x, rfl, rfl, x0, x1⟩
      refine ⟨_, rfl, .inl ⟨rfl, _, SqL.of er1⟩, _, rfl, r, _, _, rfl, rfl, er1, by rw [List.length_map]; exact small1000 (by omega), ?_⟩
      have G2 := (G.trans G1).put (p := r) rf (.inr hr') (.lst (ns.map V.int ++ [V.int x]))
      refine ⟨_, _, _, ns ++ [x], rfl, G2, S.gr G2 (S1.put nr _), ?_, ?_, fun n hn => ?_⟩
      · rw [upd_same, List.map_append] <;> rfl
      · rw [List.length_append, List.length_singleton, el]
      · rcases List.mem_append.mp hn with z | z
        · exact eb n z
        · rw [List.mem_singleton.mp z]; exact ⟨x0, x1⟩
  · rintro σ H' ⟨v3, v4, v5, ns, rfl, G, S', er, el, eb⟩
    exact ⟨_, rfl, k r H' ns S' G hr' er el eb⟩
end
end AF
/-! ## B5 -/
namespace AF
open PySem L2
section
variable {P : Program} {w : World} {K : PySem.W.Frag} {mg : Str → Option Value} {base : Heap}
/-! ### _law_small -/
/-- a drawn tree -/
def Dr (p q : Addr) (F H : Hp) (Dm : Int → Prop) (at_ : MM.Core → Prop) (Q : VK) : Prop :=
  ∀ (v : V) (c : MM.Core) (F' H' : Hp), Dst p q F' H' → Gr [p, q] F H F' H' → CoreAt F' Dm v c → at_ c → Q v H'
def spSmall : Sp := fun vs H Q _ => ∃ (p q : Addr) (F : Hp), vs = [.ref p] ∧ Dst p q F H ∧ ∃ Dm, Dr p q F H Dm MM.Core.atom Q
theorem ok_small (D : Df K mg "_law_small" s__law_small p__law_small) (T : Txt K mg) (D_law_take : Df K mg "_law_take" s__law_take p__law_take) (G_law_take : FnOk P w K mg base CX0 2 D_law_take.f D_law_take.fd p__law_take spTake) : FnOk P w K mg base CX0 3 D.f D.fd p__law_small spSmall := by
  refine D.F.ok sc__law_small (fun vs H Q E h => ?_) (fun cdv A outer s H vs Q E hr h => ?_)
  · obtain ⟨p, q, F, rfl, _⟩ := h
    rfl
  obtain ⟨p, q, F, rfl, S, Dm, k⟩ := h
  have nd := sc__law_small.nd
  refine ⟨_, (pss_cons (ps_set (i := 1) nd rfl (Or.inl rfl) (pe_call G_law_take (hr.mono (by omega)) rfl D_law_take.m D_law_take.F.kp D_law_take.b .nil pass0 (pa_cons (pv 0) (pa_cons pe_int pa_nil))))
    (pss_cons (ps_if (pt_cmpR op_eq (pv 1) pe_int (nomark _)) (pss_one (ps_ret (pe_tup (pa_cons pe_str (pa_cons (pe_ix ix_list (pe_lst (pa_cons (pe_op op_sub (pe_op op_pow pe_int pe_int) pe_int) (pa_cons (pe_op op_sub pe_int (pe_op op_pow pe_int pe_int)) (pa_cons (pe_op op_pow pe_int pe_int) (pa_cons (pe_un un_neg pe_int) pa_nil))))) (pe_call G_law_take (hr.mono (by omega)) rfl D_law_take.m D_law_take.F.kp D_law_take.b .nil pass0 (pa_cons (pv 0) (pa_cons pe_int pa_nil))) (fun _ _ => rfl)) pa_nil))))) pss_nil)
    (pss_one (ps_ret (pe_tup (pa_cons pe_str (pa_cons (pe_call G_law_take (hr.mono (by omega)) rfl D_law_take.m D_law_take.F.kp D_law_take.b .nil pass0 (pa_cons (pv 0) (pa_cons pe_int pa_nil))) pa_nil))))))), ?_⟩
  refine ⟨_, rfl, p, q, 8, F, rfl, by decide, by decide, S, fun d H1 d0 d1 S1 G1 => ?_⟩
  -- the end: the tuple
  have fin : ∀ (H2 : Hp) (x : Int), Dst p q F H2 → Gr [p, q] F H F H2 → -MM.big ≤ x → x ≤ MM.big → ∀ t, H2 t = none → Q (.ref t) (upd H2 t (.tup [.str "int", .int x])) := fun H2 x S2 G2 b1 b2 t ht => by
    exact k _ (.int x) _ _ (S2.newF ht _) (G2.new ht _) (.int upd_same b1 b2) True.intro
  refine ⟨_, rfl, rfl, _, rfl, ?_⟩
  refine ite2 (fun _ => ?_) (fun _ => ?_)
  · refine ⟨_, _, rfl, rfl, ⟨by decide, by decide, by decide⟩, _, _, rfl, rfl, _, _, rfl, rfl, ⟨by decide, by decide, by decide⟩, _, _, rfl, rfl, _, _, rfl, rfl, ⟨by decide, by decide, by decide⟩, _, rfl, (by show 4 ≤ sizeLine; decide), fun l hl => ?_⟩
    have G2 := G1.loc hl (.lst [.int (10 ^ (40 : Int).toNat - 1), .int (1 - 10 ^ (40 : Int).toNat), .int (10 ^ (30 : Int).toNat), .int (-7)])
    have S2 := S1.newL hl (.lst [.int (10 ^ (40 : Int).toNat - 1), .int (1 - 10 ^ (40 : Int).toNat), .int (10 ^ (30 : Int).toNat), .int (-7)])
    refine ⟨_, rfl, p, q, 4, F, rfl, by decide, by decide, S2, fun e H3 e0 e1 S3 G3 => ?_⟩
    have el : H3 l = some (.lst [.int (10 ^ (40 : Int).toNat - 1), .int (1 - 10 ^ (40 : Int).toNat), .int (10 ^ (30 : Int).toNat), .int (-7)]) := G3.keep l _ (S1.neN hl) upd_same
    have G4 := G2.trans G3
    have four : e = 0 ∨ e = 1 ∨ e = 2 ∨ e = 3 := by omega
    rcases four with rfl | rfl | rfl | rfl
    · exact ⟨l, _, 0, _, rfl, rfl, SqL.of el, rfl, (by show 2 ≤ sizeLine; decide), fin H3 _ S3 G4 (by decide) (by decide)⟩
    · exact ⟨l, _, 1, _, rfl, rfl, SqL.of el, rfl, (by show 2 ≤ sizeLine; decide), fin H3 _ S3 G4 (by decide) (by decide)⟩
    · exact ⟨l, _, 2, _, rfl, rfl, SqL.of el, rfl, (by show 2 ≤ sizeLine; decide), fin H3 _ S3 G4 (by decide) (by decide)⟩
    · exact ⟨l, _, 3, _, rfl, rfl, SqL.of el, rfl, (by show 2 ≤ sizeLine; decide), fin H3 _ S3 G4 (by decide) (by decide)⟩
  · refine ⟨_, rfl, p, q, 4, F, rfl, by decide, by decide, S1, fun e H3 e0 e1 S3 G3 => ?_⟩
    have b : (4 : Int) ≤ MM.big := by decide
    exact ⟨(by show 2 ≤ sizeLine; decide), fin H3 e S3 (G1.trans G3) (by omega) (by omega)⟩
/-! ### _law_state -/
def spState (K : PySem.W.Frag) : Sp := fun vs H Q _ => ∃ (a : Addr) (ns : List Int), vs = [.ref a] ∧ SqL K H a (ns.map V.int) ∧ ∀ (p q : Addr) (H' : Hp), Dst p q (fun _ => none) H' → Q (.ref p) H'
theorem ok_state (D : Df K mg "_law_state" s__law_state p__law_state) (T : Txt K mg) : FnOk P w K mg base CX0 1 D.f D.fd p__law_state (spState K) := by
  refine D.F.ok sc__law_state (fun vs H Q E h => ?_) (fun cdv A outer s H vs Q E hr h => ?_)
  · obtain ⟨a, ns, rfl, _⟩ := h
    rfl
  obtain ⟨a, ns, rfl, hS, k⟩ := h
  have nd := sc__law_state.nd
  refine ⟨_, (pss_one (ps_ret (pe_lst (pa_cons (pe_lc (own := [("_law_cell", 1)]) (g := gName 1) (tt := tYes) rfl nd (pi_list (pe_slice sl_list (pv 0) po_none (po_some pe_int))) (blkOk_by (own := [("_law_cell", 1)]) (N := N__law_state) (sc := defScope s__law_state) (by decide +kernel)) (fun _ _ _ _ _ => (pg_name (i := 1) nd rfl (Or.inl rfl))) (fun _ _ _ _ _ => pts_nil) (fun _ _ _ _ _ => (pe_callTy call_int1 (by rfl) T.int (by decide +kernel) (pa_cons (pv 1) pa_nil)))) (pa_cons pe_int pa_nil))))), ?_⟩
  have cut : ∃ ms : List Int, cutV (ns.map V.int) none (some 63) = ms.map V.int ∧ ms.length ≤ 63 := by
    refine ⟨(ns.drop (HT.sIx (ns.map V.int).length 0 none)).take (HT.sIx (ns.map V.int).length (ns.map V.int).length (some 63) - HT.sIx (ns.map V.int).length 0 none), ?_, ?_⟩
    · unfold cutV
      rw [List.map_take, List.map_drop]
    · rw [List.length_take]
      have : HT.sIx (ns.map V.int).length (ns.map V.int).length (some 63) ≤ 63 := by
        rw [show (some (63 : Int)) = some ((63 : Nat) : Int) from rfl, HT.sIx_nat]
        exact Nat.min_le_left _ _
      omega
  obtain ⟨ms, em, lm⟩ := cut
  refine ⟨_, rfl, _, rfl, a, _, rfl, hS, fun u hu => ?_⟩
  rw [em]
  refine ⟨u, rfl, ⟨_, SqL.of upd_same⟩, fun l hl => ?_⟩
  have nul : u ≠ l := (upd_none hl).2.symm
  refine lc_list (K := K) (a := u) (xs := ms.map V.int) (fun i H' => H' u = some (.lst (ms.map V.int)) ∧ ∃ cs : List Int, H' l = some (.lst (cs.map V.int)) ∧ cs.length = i) ⟨by rw [upd_ne nul, upd_same], [], upd_same, rfl⟩ (fun i H' _ z => SqL.of z.1) ?_ ?_
  · rintro i x H' hx ⟨hu', cs, hl', el⟩
    obtain ⟨n, hn, rfl⟩ : ∃ n, n ∈ ms ∧ V.int n = x := List.mem_map.mp (List.mem_of_getElem? hx)
    have hi : i < ms.length := by
      have := (List.getElem?_eq_some_iff.mp hx).1
      rwa [List.length_map] at this
    refine ⟨rfl, ?_⟩
    refine ⟨_, rfl, .inl ⟨n, rfl, cs.map V.int, hl', by rw [List.length_map]; exact small1000 (by omega), by rw [upd_ne nul]; exact hu', cs ++ [n], ?_, by rw [List.length_append, List.length_singleton, el]⟩⟩
    rw [upd_same, List.map_append] <;> rfl
  · rintro H' ⟨hu', cs, hl', el⟩
    refine ⟨(by show 2 ≤ sizeLine; decide), fun p hp => ?_⟩
    refine k p l _ ⟨fun b o z => (nomatch z), ⟨fun e => ?_, 0, cs, Int.le_refl 0, by rw [List.length_map] at el; omega, upd_same, ?_⟩, rfl, rfl⟩
    · rw [← e, hp] at hl'; cases hl'
    · rw [upd_ne (ne_of_none hl' hp)]; exact hl'
end
end AF
/-! ## R3 -/
namespace AF
open PySem L2
/-! ### lists of ints, of texts against [] -/
theorem dpAll_ints {K : PySem.W.Frag} {H : Hp} : ∀ ns : List Int, DpAll K H (ns.map V.int) (ns.map PyData.int)
  | [] => .nil
  | n :: r => .cons (.int n) (dpAll_ints r)
theorem dpAll_strs {K : PySem.W.Frag} {H : Hp} : ∀ ns : List Str, DpAll K H (ns.map V.str) (ns.map PyData.str)
  | [] => .nil
  | n :: r => .cons (.str n) (dpAll_strs r)
theorem lay_ints : ∀ ns : List Int, PyData.canLayAll0 (ns.map PyData.int) = true ∧ PyData.depthAll (ns.map PyData.int) ≤ 1
  | [] => ⟨rfl, Nat.zero_le _⟩
  | n :: r => by
    obtain ⟨h1, h2⟩ := lay_ints r
    constructor
    · simp [PyData.canLayAll0, PyData.canLay0, h1]
    · simp only [List.map_cons, PyData.depthAll, PyData.depth]; omega
theorem lay_strs : ∀ ns : List Str, (∀ x ∈ ns, PyData.strOk x = true) → PyData.canLayAll0 (ns.map PyData.str) = true ∧ PyData.depthAll (ns.map PyData.str) ≤ 1
  | [], _ => ⟨rfl, Nat.zero_le _⟩
  | n :: r, h => by
    obtain ⟨h1, h2⟩ := lay_strs r fun x hx => h x (List.mem_cons_of_mem _ hx)
    constructor
    · simp [PyData.canLayAll0, PyData.canLay0, h1, h n List.mem_cons_self]
    · simp only [List.map_cons, PyData.depthAll, PyData.depth]; omega
theorem shaped_ints (ns : List Int) : SeqAt.shaped (.list (ns.map PyData.int)) = true := by
  obtain ⟨h1, h2⟩ := lay_ints ns
  refine Bool.and_eq_true_iff.mpr ⟨by unfold PyData.canLay0; exact h1, decide_eq_true ?_⟩
  unfold PyData.depth
  omega
theorem shaped_strs (ns : List Str) (h : ∀ x ∈ ns, PyData.strOk x = true) : SeqAt.shaped (.list (ns.map PyData.str)) = true := by
  obtain ⟨h1, h2⟩ := lay_strs ns h
  refine Bool.and_eq_true_iff.mpr ⟨by unfold PyData.canLay0; exact h1, decide_eq_true ?_⟩
  unfold PyData.depth
  omega
theorem eqv_nil {α : Type} (f : α → PyData) (ns : List α) : (!PyData.eqv (.list (ns.map f)) (.list [])) = !ns.isEmpty := by
  cases ns <;> simp [PyData.eqv, PyData.eqvAll]
end AF
/-! ## R4 -/
namespace AF
open PySem L2
/-- nothing is promised, nothing is asked -/
theorem never {P : Program} {w : World} {K : PySem.W.Frag} {mg : Str → Option Value} {base : Heap} {k : Nat} {f : Addr} {fd : FuncData} {ps : List Str} {sp : Sp} (h : ∀ vs H Q E, ¬ sp vs H Q E) : FnOk P w K mg base CX0 k f fd ps sp :=
  ⟨fun vs H Q E z => absurd z (h vs H Q E), fun A outer s H args us vs Q E _ _ _ _ z => absurd z (h vs H Q E)⟩
def gnames : List Str := ["m a", "ma a", "m aa", "m b"]
def wkvs (is : List Int) : List (Key × V) := (gnames.zip is).map fun p => (Sum.inr p.1, V.int p.2)
def WorldAt (F : Hp) (wd : Addr) : Prop := ∃ is : List Int, is.length ≤ 4 ∧ F wd = some (.dK (wkvs is))
theorem WorldAt.same {F F' : Hp} {a : Addr} (h : WorldAt F a) (s : Same F F') : WorldAt F' a := let ⟨is, h1, h2⟩ := h; ⟨is, h1, s _ _ h2⟩
theorem val_pairs : ∀ (zs : List (Str × Int)) {y : Str}, y ∈ zs.map (·.1) → ∃ i : Int, valV (zs.map fun p => ((Sum.inr p.1 : Key), V.int p.2)) (Sum.inr y) = some (.int i)
  | [], _, h => nomatch h
  | z :: r, y, h => by
    by_cases e : z.1 = y
    · exact ⟨z.2, by rw [List.map_cons]; exact valV_pos (p := ((Sum.inr z.1 : Key), V.int z.2)) (by rw [← e])⟩
    · obtain ⟨i, hi⟩ := val_pairs r ((List.mem_cons.mp h).resolve_left fun q => e q.symm)
      exact ⟨i, by rw [List.map_cons, valV_neg (p := ((Sum.inr z.1 : Key), V.int z.2)) fun q => e (Sum.inr.inj q)]; exact hi⟩
theorem zip_fst : ∀ (l : List Str) (m : List Int), (l.zip m).map (·.1) = l.take m.length
  | [], _ => by simp
  | _ :: _, [] => by simp
  | a :: l, b :: m => by
    rw [List.zip_cons_cons, List.map_cons, List.length_cons, List.take_succ_cons, zip_fst l m]
theorem wkeys (is : List Int) (h : is.length ≤ 4) : (wkvs is).map (·.1) = (gnames.take is.length).map Sum.inr := by
  unfold wkvs
  rw [List.map_map]
  show (gnames.zip is).map (Sum.inr ∘ Prod.fst) = _
  rw [← List.map_map]
  congr 1
  exact zip_fst gnames is
theorem gname_ok : ∀ x ∈ gnames, PyData.strOk x = true := by decide +kernel
/-- a drawn part with room for n - 1 more -/
def spPart (n : Nat) : Sp := fun vs H Q _ => ∃ (p q kn wd : Addr) (r : Int) (ks : List Int) (F : Hp), vs = [.ref p, .ref kn, .ref wd, .int r] ∧ r + 1 = (n : Int) ∧ 0 ≤ r ∧ Dst p q F H ∧ KnAt F kn ks ∧
  (ks.length : Int) + 10 * r ≤ 100 ∧ WorldAt F wd ∧ Dr p q F H (fun n => n ∈ ks) (fun _ => True) Q
def spFun (n : Nat) : Sp := fun vs H Q _ => ∃ (p q kn wd : Addr) (r m : Int) (ks : List Int) (F : Hp), vs = [.ref p, .ref kn, .ref wd, .int r, .int m] ∧ r + 1 = (n : Int) ∧ 1 ≤ r ∧ 0 ≤ m ∧ m ≤ 5 ∧ Dst p q F H ∧ KnAt F kn ks ∧
  (ks.length : Int) + 10 * r ≤ 100 ∧ WorldAt F wd ∧ Dr p q F H (fun n => n ∈ ks) MM.Core.atom Q
theorem spPart_zero {vs : List V} {H : Hp} {Q : VK} {E : XK} : ¬ spPart 0 vs H Q E := fun h => by
  obtain ⟨p, q, kn, wd, r, ks, F, _, h1, h2, _⟩ := h
  omega
theorem spFun_zero {vs : List V} {H : Hp} {Q : VK} {E : XK} : ¬ spFun 0 vs H Q E := fun h => by
  obtain ⟨p, q, kn, wd, r, m, ks, F, _, h1, h2, _⟩ := h
  omega
end AF
/-! ## R5 -/
namespace AF
open PySem L2
theorem sz0 : 0 ≤ sizeLine := by decide
theorem sz1 : 1 ≤ sizeLine := by decide
theorem sz2 : 2 ≤ sizeLine := by decide
theorem sz3 : 3 ≤ sizeLine := by decide
theorem sz4 : 4 ≤ sizeLine := by decide
theorem sz5 : 5 ≤ sizeLine := by decide
theorem snoc_at {α : Type} {l : List α} {x y : α} {j : Nat} (h : (l ++ [x])[j]? = some y) : (j < l.length ∧ l[j]? = some y) ∨ (j = l.length ∧ x = y) := by
  by_cases hj : j < l.length
  · rw [List.getElem?_append_left hj] at h
    exact .inl ⟨hj, h⟩
  · rw [List.getElem?_append_right (by omega)] at h
    have z : j - l.length = 0 := by
      have := (List.getElem?_eq_some_iff.mp h).1
      rw [List.length_singleton] at this
      omega
    rw [z] at h
    exact .inr ⟨by omega, Option.some.inj h⟩
/-- parts, one after another -/
structure PtsAt (F : Hp) (D : Int → Prop) (ws : List V) (ps : List MM.Core) : Prop where
  len : ws.length = ps.length
  at_ : ∀ (i : Nat) (u : V) (q : MM.Core), ws[i]? = some u → ps[i]? = some q → CoreAt F D u q
theorem PtsAt.nil {F : Hp} {D : Int → Prop} : PtsAt F D [] [] := ⟨rfl, fun _ _ _ h => by simp at h⟩
theorem PtsAt.cons {F : Hp} {D : Int → Prop} {u : V} {c : MM.Core} {ws : List V} {ps : List MM.Core} (h : CoreAt F D u c) (r : PtsAt F D ws ps) : PtsAt F D (u :: ws) (c :: ps) := by
  refine ⟨by rw [List.length_cons, List.length_cons, r.len], fun i v q e1 e2 => ?_⟩
  cases i with
  | zero =>
    obtain rfl : u = v := Option.some.inj e1
    obtain rfl : c = q := Option.some.inj e2
    exact h
  | succ i => exact r.at_ i v q (by simpa using e1) (by simpa using e2)
theorem PtsAt.same {F F' : Hp} {D : Int → Prop} {ws : List V} {ps : List MM.Core} (s : Same F F') (h : PtsAt F D ws ps) : PtsAt F' D ws ps := ⟨h.len, fun i u q e1 e2 => (h.at_ i u q e1 e2).same s⟩
theorem PtsAt.snoc {F : Hp} {D : Int → Prop} {u : V} {c : MM.Core} {ws : List V} {ps : List MM.Core} (r : PtsAt F D ws ps) (h : CoreAt F D u c) : PtsAt F D (ws ++ [u]) (ps ++ [c]) := by
  refine ⟨by rw [List.length_append, List.length_append, r.len] <;> rfl, fun i v q e1 e2 => ?_⟩
  by_cases hi : i < ws.length
  · rw [List.getElem?_append_left hi] at e1
    rw [List.getElem?_append_left (by rw [← r.len]; exact hi)] at e2
    exact r.at_ i v q e1 e2
  · rw [List.getElem?_append_right (by omega)] at e1
    rw [List.getElem?_append_right (by rw [← r.len]; omega)] at e2
    have z : i - ws.length = 0 := by
      have := (List.getElem?_eq_some_iff.mp e1).1
      rw [List.length_singleton] at this
      omega
    rw [z] at e1
    rw [← r.len, z] at e2
    obtain rfl : u = v := Option.some.inj e1
    obtain rfl : c = q := Option.some.inj e2
    exact h
theorem CoreAt.mkCall {F : Hp} {D : Int → Prop} {a b : Addr} {u : V} {ws : List V} {f : MM.Core} {ps : List MM.Core} (h : F a = some (.tup [.str "call", u, .ref b])) (h1 : F b = some (.tup ws)) (h2 : ws.length ≤ 10) (h3 : f.atom) (h4 : CoreAt F D u f) (h5 : PtsAt F D ws ps) :
    CoreAt F D (.ref a) (.call f ps) := .call h h1 h5.len h2 h3 h4 h5.at_
def spStrange (n : Nat) : Sp := fun vs H Q _ => ∃ (p q kn wd : Addr) (r : Int) (ks : List Int) (F : Hp), vs = [.ref p, .ref kn, .ref wd, .int r] ∧ r + 1 = (n : Int) ∧ 2 ≤ r ∧ Dst p q F H ∧ KnAt F kn ks ∧
  (ks.length : Int) + 10 * r ≤ 100 ∧ WorldAt F wd ∧ Dr p q F H (fun n => n ∈ ks) (fun _ => True) Q
end AF
/-! ## B6 -/
namespace AF
open PySem L2
section
variable {P : Program} {w : World} {K : PySem.W.Frag} {mg : Str → Option Value} {base : Heap}
/-! ### _law_function -/
theorem names_cut : ∀ y ∈ gnames, ∃ g : MM.G, Txt.split y " " = [mstr g.mo, nstr g.na] := by
  intro y h
  have four : y = "m a" ∨ y = "ma a" ∨ y = "m aa" ∨ y = "m b" := by
    simpa [gnames] using h
  rcases four with rfl | rfl | rfl | rfl
  · exact ⟨⟨.m, .a⟩, by decide +kernel⟩
  · exact ⟨⟨.ma, .a⟩, by decide +kernel⟩
  · exact ⟨⟨.m, .aa⟩, by decide +kernel⟩
  · exact ⟨⟨.m, .b⟩, by decide +kernel⟩
theorem names_len : ∀ y ∈ gnames, y.length + 2 ≤ sizeLine := by decide +kernel
theorem ok_function {n : Nat} (D : Df K mg "_law_function" s__law_function p__law_function) (T : Txt K mg) (D_law_take : Df K mg "_law_take" s__law_take p__law_take) (G_law_take : FnOk P w K mg base CX0 2 D_law_take.f D_law_take.fd p__law_take spTake)
    (D_law_locals : Df K mg "_law_locals" s__law_locals p__law_locals) (G_law_locals : FnOk P w K mg base CX0 1 D_law_locals.f D_law_locals.fd p__law_locals spLocals)
    (D_law_numbers : Df K mg "_law_numbers" s__law_numbers p__law_numbers) (G_law_numbers : FnOk P w K mg base CX0 3 D_law_numbers.f D_law_numbers.fd p__law_numbers spNumbers)
    (D_law_part : Df K mg "_law_part" s__law_part p__law_part) (G_law_part : FnOk P w K mg base CX0 (4 * n + 4) D_law_part.f D_law_part.fd p__law_part (spPart n)) : FnOk P w K mg base CX0 (4 * n + 5) D.f D.fd p__law_function (spFun (n + 1)) := by
  refine D.F.ok sc__law_function (fun vs H Q E h => ?_) (fun cdv A outer s H vs Q E hr h => ?_)
  · obtain ⟨p, q, kn, wd, r, m, ks, F, rfl, _⟩ := h
    rfl
  obtain ⟨p, q, kn, wd, r, m, ks, F, rfl, r0, r1, m0, m1, S, kna, kl, wa, k⟩ := h
  have nd := sc__law_function.nd
  have hu := hu_of hr
  refine ⟨_, (pss_cons (ps_set (i := 5) nd rfl (Or.inl rfl) (pe_call G_law_take (hr.mono (by omega)) rfl D_law_take.m D_law_take.F.kp D_law_take.b .nil pass0 (pa_cons (pv 0) (pa_cons pe_int pa_nil))))
    (pss_cons (ps_set (i := 6) nd rfl (Or.inl rfl) (pe_call G_law_locals (hr.mono (by omega)) rfl D_law_locals.m D_law_locals.F.kp D_law_locals.b .nil pass0 (pa_cons (pv 1) (pa_cons (pv 4) pa_nil))))
    (C8.pss_cut (ps_if (PW.pt (pw_and (pt_cmpR op_lt (pv 5) pe_int (nomark _)) (pw_and1 (pt_cmpR (op_neD hr.units) (pv 6) (pe_lst pa_nil) (nomark _))))) (pss_one (ps_ret (pe_tup (pa_cons pe_str (pa_cons (pe_ix ix_list (pv 6) (pe_call G_law_take (hr.mono (by omega)) rfl D_law_take.m D_law_take.F.kp D_law_take.b .nil pass0 (pa_cons (pv 0) (pa_cons (pe_callB call_len_seq (by rfl) T.len PySem.boot_len (pa_cons (pv 6) pa_nil)) pa_nil))) (fun _ _ => rfl)) pa_nil))))) pss_nil)
    (pss_cons (ps_setLc (i := 7) (own := [("_law_name", 10)]) (g := gName 10) rfl nd rfl rfl (sw_true rfl rfl rfl (by decide +kernel)) (pi_list (pe_callB (call_sortedD rfl) (by rfl) T.sorted (by decide +kernel) (pa_cons (pv 2) pa_nil))) (blkOk_by (own := [("_law_name", 10)]) (N := N__law_function) (sc := defScope s__law_function) (by decide +kernel)) (fun _ _ _ _ _ => (pg_name (i := 10) nd rfl (Or.inl rfl))) (fun _ _ _ _ _ => (pts_one (pt_cmpR op_eq (pe_dget hu (pv 2) (pv 10) (fun _ _ => rfl)) (pv 4) (nomark _)))) (fun _ _ _ _ _ => (pv 10)))
    (C8.pss_cut (ps_if (PW.pt (pw_and (pt_cmpR op_eq (pv 5) pe_int (nomark _)) (pw_and1 (pt_cmpR (op_neD hr.units) (pv 7) (pe_lst pa_nil) (nomark _))))) (pss_one (ps_ret (pe_op op_catT (pe_tup (pa_cons pe_str pa_nil)) (pe_callTy call_tuple_of (by rfl) T.tuple (by decide +kernel) (pa_cons (pe_split (pe_ix ix_list (pv 7) (pe_call G_law_take (hr.mono (by omega)) rfl D_law_take.m D_law_take.F.kp D_law_take.b .nil pass0 (pa_cons (pv 0) (pa_cons (pe_callB call_len_seq (by rfl) T.len PySem.boot_len (pa_cons (pv 7) pa_nil)) pa_nil))) (fun _ _ => rfl)) pe_str) pa_nil))))) pss_nil)
    (C8.pss_cut (ps_if (PW.pt (pw_and (pt_cmpR op_eq (pv 4) pe_int (nomark _)) (pw_and1 (pt_cmpR op_eq (pv 5) pe_int (nomark _))))) (pss_one (ps_ret (pe_tup (pa_cons pe_str (pa_cons (pe_ix ix_list (pe_lst (pa_cons pe_str (pa_cons pe_str (pa_cons pe_str (pa_cons pe_str (pa_cons pe_str pa_nil)))))) (pe_call G_law_take (hr.mono (by omega)) rfl D_law_take.m D_law_take.F.kp D_law_take.b .nil pass0 (pa_cons (pv 0) (pa_cons pe_int pa_nil))) (fun _ _ => rfl)) pa_nil))))) pss_nil)
    (pss_cons (ps_set (i := 8) nd rfl (Or.inl rfl) (pe_call G_law_numbers (hr.mono (by omega)) rfl D_law_numbers.m D_law_numbers.F.kp D_law_numbers.b .nil pass0 (pa_cons (pv 0) (pa_cons (pv 4) pa_nil))))
    (pss_cons (ps_set (i := 9) nd rfl (Or.inl rfl) (pe_op op_cat (pv 1) (pe_lc (own := [("_law_number", 11)]) (g := gName 11) (tt := tYes) rfl nd (pi_list (pv 8)) (blkOk_by (own := [("_law_number", 11)]) (N := N__law_function) (sc := defScope s__law_function) (by decide +kernel)) (fun _ _ _ _ _ => (pg_name (i := 11) nd rfl (Or.inl rfl))) (fun _ _ _ _ _ => pts_nil) (fun _ _ _ _ _ => (pe_tup (pa_cons (pv 11) (pa_cons (pe_un un_neg pe_int) pa_nil)))))))
    (pss_one (ps_ret (pe_tup (pa_cons pe_str (pa_cons (pe_callTy call_tuple_of (by rfl) T.tuple (by decide +kernel) (pa_cons (pv 8) pa_nil)) (pa_cons (pe_call G_law_part (hr.mono (by omega)) rfl D_law_part.m D_law_part.F.kp D_law_part.b .nil pass0 (pa_cons (pv 0) (pa_cons (pv 9) (pa_cons (pv 2) (pa_cons (pe_op op_sub (pv 3) pe_int) pa_nil))))) pa_nil)))))))))))))), ?_⟩
  refine ⟨_, rfl, p, q, 4, F, rfl, by decide, by decide, S, fun d H1 d0 d1 S1 G1 => ?_⟩
  refine ⟨_, rfl, _, rfl, kn, m, ks, F, rfl, S1.fh, kna, by omega, fun u H2 ns G2' hu2 eu lu mu => ?_⟩
  have G2 : Gr [p, q] F H1 F H2 := G2'.mono fun _ z => nomatch z
  have S2 := S1.gr G2 (by
    obtain ⟨npq, t, cs, h1, h2, hp, hq⟩ := S1.st
    exact ⟨npq, t, cs, h1, h2, G2'.keep p _ (fun z => nomatch z) hp, G2'.keep q _ (fun z => nomatch z) hq⟩)
  have G3 : Gr [p, q] F H F H2 := G1.trans G2
  -- a local
  refine ⟨fun σ' H' => ∃ u : Addr, σ' = [some (.ref p), some (.ref kn), some (.ref wd), some (.int r), some (.int m), some (.int d), some (.ref u), none, none, none, none, none] ∧ Gr [p, q] F H F H' ∧ Dst p q F H', ?_, ?_⟩
  · refine ⟨_, rfl, _, _, rfl, rfl, _, rfl, ?_⟩
    refine ite2 (fun _ => ?_) (fun _ => ?_)
    · refine ⟨_, rfl, (by show 0 ≤ sizeLine; decide), fun l hl => ?_⟩
      have el : upd H2 l (.lst []) u = some (.lst (ns.map V.int)) := by rw [upd_ne (ne_of_none eu hl)]; exact eu
      refine ⟨_, _, .lst (SqL.of el) (dpAll_ints ns), .lst (SqL.of upd_same) .nil, shaped_ints ns, by decide, _, rfl, ?_⟩
      rw [eqv_nil]
      have S3 := S2.newL hl (.lst [])
      have G4 := G3.loc hl (.lst [])
      have nu : u ∉ [p, q] := S1.neN hu2
      cases ns with
      | nil => exact ⟨u, rfl, G4, S3⟩
      | cons x xs =>
        refine ⟨_, rfl, _, rfl, _, rfl, u, _, rfl, .inl (SqL.of el), p, q, _, F, rfl, ?_, ?_, S3, fun e H4 e0 e1 S4 G5 => ?_⟩
        · rw [List.length_map, List.length_cons]; omega
        · rw [List.length_map]; omega
        · rw [List.length_map] at e1
          have eu4 : H4 u = some (.lst ((x :: xs).map V.int)) := G5.keep u _ nu el
          obtain ⟨j, rfl⟩ := Int.eq_ofNat_of_zero_le e0
          have hj : j < (x :: xs).length := by omega
          refine ⟨u, _, _, .int (x :: xs)[j], rfl, rfl, SqL.of eu4, atI_nat (by rw [List.getElem?_map, List.getElem?_eq_getElem hj] <;> rfl), (by show 2 ≤ sizeLine; decide), fun t ht => ?_⟩
          exact k _ (.loc (x :: xs)[j]) _ _ (S4.newF ht _) ((G4.trans G5).new ht _) (.loc upd_same (mu _ (List.getElem_mem hj))) True.intro
    · exact ⟨u, rfl, G3, S2⟩
  rintro σ' H' ⟨u', rfl, G5, S5⟩
  -- the names with this arity
  obtain ⟨is, il, hw⟩ := id wa
  refine ⟨_, rfl, wd, wkvs is, gnames.take is.length, rfl, .inl (S5.fh _ _ hw), wkeys is il, ?_, fun ys b perm _ hb => ?_⟩
  · rw [List.length_take]
    exact Nat.lt_of_le_of_lt (Nat.min_le_left _ _) (by omega)
  have ysIn : ∀ y ∈ ys, y ∈ gnames.take is.length := fun y hy => perm.mem_iff.mp hy
  have ysl : ys.length ≤ 4 := by
    rw [perm.length_eq, List.length_take]
    omega
  refine ⟨b, rfl, ⟨_, SqL.of upd_same⟩, fun l hl => ?_⟩
  have nbl : b ≠ l := (upd_none hl).2.symm
  have G6 := (G5.loc hb (.lst (ys.map V.str))).loc hl (.lst [])
  have S6 := (S5.newL hb (.lst (ys.map V.str))).newL hl (.lst [])
  refine lc_list (K := K) (a := b) (xs := ys.map V.str) (fun i H' => H' b = some (.lst (ys.map V.str)) ∧ H' wd = some (.dK (wkvs is)) ∧ ∃ gs : List Str, H' l = some (.lst (gs.map V.str)) ∧ gs.length ≤ i ∧ (∀ y ∈ gs, y ∈ gnames) ∧ Gr [p, q] F H F H' ∧ Dst p q F H')
    ⟨by rw [upd_ne nbl, upd_same], G6.up hw, [], upd_same, Nat.le_refl _, fun _ z => (nomatch z), G6, S6⟩ (fun i H' _ z => SqL.of z.1) ?_ ?_
  · rintro i x H' hx ⟨eb, ew, gs, el, lg, mg', G7, S7⟩
    obtain ⟨y, hy, rfl⟩ : ∃ y, y ∈ ys ∧ V.str y = x := List.mem_map.mp (List.mem_of_getElem? hx)
    have hy' := ysIn y hy
    have hi : i < 4 := by
      have := (List.getElem?_eq_some_iff.mp hx).1
      rw [List.length_map] at this
      omega
    obtain ⟨z, hz⟩ := val_pairs (gnames.zip is) (y := y) (by rw [zip_fst]; exact hy')
    refine ⟨rfl, _, rfl, _, rfl, wd, _, rfl, (by have q := DGet.k (k := Sum.inr y) ew; rw [show valV (wkvs is) (Sum.inr y) = some (.int z) from hz] at q; exact q), _, rfl, rfl, _, rfl, ?_⟩
    refine ite2 (fun _ => ?_) (fun _ => ?_)
    · refine ⟨_, rfl, gs.map V.str, el, by rw [List.length_map]; exact small1000 (by omega), by rw [upd_ne nbl]; exact eb, ?_, gs ++ [y], ?_, ?_, fun x hx => ?_, ?_⟩
      · rw [upd_ne (ne_of ew el (by intro z; cases z))]; exact ew
      · rw [upd_same, List.map_append] <;> rfl
      · rw [List.length_append, List.length_singleton]; omega
      · rcases List.mem_append.mp hx with z | z
        · exact mg' x z
        · rw [List.mem_singleton.mp z]; exact List.mem_of_mem_take hy'
      · have lf : F l = none := S5.fh.free (upd_none hl).1
        have l0 : H l = none := by
          cases e : H l with
          | none => rfl
          | some o => exact absurd (upd_none hl).1 (G5.live l (some_ne e))
        exact ⟨G7.put lf (.inr l0) _, S7.putL (S5.neN (upd_none hl).1) lf _⟩
    · exact ⟨eb, ew, gs, el, by omega, mg', G7, S7⟩
  rintro H7 ⟨_, _, gs, eg, lg, mgs, G7, S7⟩
  -- a definition
  refine ⟨fun σ' H' => ∃ l : Addr, σ' = [some (.ref p), some (.ref kn), some (.ref wd), some (.int r), some (.int m), some (.int d), some (.ref u'), some (.ref l), none, none, none, none] ∧ Gr [p, q] F H F H' ∧ Dst p q F H', ?_, ?_⟩
  · refine ⟨_, rfl, rfl, _, rfl, ?_⟩
    refine ite2 (fun _ => ?_) (fun _ => ?_)
    · refine ⟨_, rfl, (by show 0 ≤ sizeLine; decide), fun l' hl' => ?_⟩
      have el : upd H7 l' (.lst []) l = some (.lst (gs.map V.str)) := by rw [upd_ne (ne_of_none eg hl')]; exact eg
      have ok : ∀ x ∈ gs, PyData.strOk x = true := fun x hx => gname_ok x (mgs x hx)
      refine ⟨_, _, .lst (SqL.of el) (dpAll_strs gs), .lst (SqL.of upd_same) .nil, shaped_strs gs ok, by decide, _, rfl, ?_⟩
      rw [eqv_nil]
      have S8 := S7.newL hl' (.lst [])
      have G8 := G7.loc hl' (.lst [])
      have nl : l ∉ [p, q] := S5.neN (upd_none hl).1
      cases gs with
      | nil => exact ⟨l, rfl, G8, S8⟩
      | cons x xs =>
        refine ⟨(by show 1 ≤ sizeLine; decide), fun t1 ht1 => ?_⟩
        have S9 := S8.newL ht1 (.tup [.str "global"])
        have G9 := G8.loc ht1 (.tup [.str "global"])
        have el9 : upd (upd H7 l' (.lst [])) t1 (.tup [.str "global"]) l = some (.lst ((x :: xs).map V.str)) := by rw [upd_ne (ne_of_none el ht1)]; exact el
        refine ⟨_, rfl, _, rfl, _, rfl, l, _, rfl, .inl (SqL.of el9), p, q, _, F, rfl, ?_, ?_, S9, fun e H4 e0 e1 S4 G10 => ?_⟩
        · rw [List.length_map, List.length_cons]; omega
        · rw [List.length_map]; rw [List.length_map, ] at lg; omega
        · rw [List.length_map] at e1
          have eu4 : H4 l = some (.lst ((x :: xs).map V.str)) := G10.keep l _ nl el9
          have et1 : H4 t1 = some (.tup [.str "global"]) := G10.keep t1 _ (S8.neN ht1) upd_same
          obtain ⟨j, rfl⟩ := Int.eq_ofNat_of_zero_le e0
          have hj : j < (x :: xs).length := by omega
          have hm := mgs _ (List.getElem_mem hj)
          obtain ⟨g, hg⟩ := names_cut _ hm
          refine ⟨l, _, _, .str (x :: xs)[j], rfl, rfl, SqL.of eu4, atI_nat (by rw [List.getElem?_map, List.getElem?_eq_getElem hj] <;> rfl), ⟨_, rfl⟩, _, _, rfl, rfl, by decide, names_len _ hm, fun t2 ht2 => ?_⟩
          rw [hg]
          have ne12 : t1 ≠ t2 := ne_of_none et1 ht2
          refine ⟨t2, _, rfl, .inl ⟨SqL.of upd_same, fun t3 ht3 => ?_⟩⟩
          obtain ⟨ht30, ne32⟩ := upd_none ht3
          refine ⟨t1, t3, [.str "global"], [.str (mstr g.mo), .str (nstr g.na)], rfl, rfl, SqT.of ?_, SqT.of upd_same, by simp, (by show 3 ≤ sizeLine; decide), fun z => by simp at z, fun _ t4 ht4 => ?_⟩
          · rw [upd_ne (ne_of_none et1 ht30), upd_ne ne12]; exact et1
          · have G11 := (((G9.trans G10).loc ht2 (.lst [.str (mstr g.mo), .str (nstr g.na)])).loc ht3 (.tup [.str (mstr g.mo), .str (nstr g.na)])).new ht4 (.tup [.str "global", .str (mstr g.mo), .str (nstr g.na)])
            have S11 := ((S4.newL ht2 (.lst [.str (mstr g.mo), .str (nstr g.na)])).newL ht3 (.tup [.str (mstr g.mo), .str (nstr g.na)])).newF ht4 (.tup [.str "global", .str (mstr g.mo), .str (nstr g.na)])
            exact k _ (.glob g) _ _ S11 G11 (.glob upd_same) True.intro
    · exact ⟨l, rfl, G7, S7⟩
  rintro σ' H8 ⟨l', rfl, G8, S8⟩
  -- a primitive
  refine ⟨fun σ' H' => σ' = [some (.ref p), some (.ref kn), some (.ref wd), some (.int r), some (.int m), some (.int d), some (.ref u'), some (.ref l'), none, none, none, none] ∧ H' = H8, ?_, ?_⟩
  · refine ⟨_, rfl, rfl, _, rfl, ?_⟩
    refine ite2 (fun _ => ?_) (fun _ => ?_)
    · refine ⟨_, rfl, rfl, _, rfl, ?_⟩
      refine ite2 (fun _ => ?_) (fun _ => ?_)
      · refine ⟨(by show 5 ≤ sizeLine; decide), fun l hl => ?_⟩
        have G9 := G8.loc hl (.lst [.str "+", .str "-", .str "*", .str "<", .str "="])
        have S9 := S8.newL hl (.lst [.str "+", .str "-", .str "*", .str "<", .str "="])
        refine ⟨_, rfl, p, q, 5, F, rfl, by decide, by decide, S9, fun e H4 e0 e1 S4 G10 => ?_⟩
        have el : H4 l = some (.lst [.str "+", .str "-", .str "*", .str "<", .str "="]) := G10.keep l _ (S8.neN hl) upd_same
        have fin : ∀ (pr : MM.Pr) (t : Addr), H4 t = none → Q (.ref t) (upd H4 t (.tup [.str "prim", .str (pstr pr)])) := fun pr t ht => k _ (.prim pr) _ _ (S4.newF ht _) ((G9.trans G10).new ht _) (.prim upd_same) True.intro
        have five : e = 0 ∨ e = 1 ∨ e = 2 ∨ e = 3 ∨ e = 4 := by omega
        rcases five with rfl | rfl | rfl | rfl | rfl
        · exact ⟨l, _, 0, _, rfl, rfl, SqL.of el, rfl, (by show 2 ≤ sizeLine; decide), fin .add⟩
        · exact ⟨l, _, 1, _, rfl, rfl, SqL.of el, rfl, (by show 2 ≤ sizeLine; decide), fin .sub⟩
        · exact ⟨l, _, 2, _, rfl, rfl, SqL.of el, rfl, (by show 2 ≤ sizeLine; decide), fin .mul⟩
        · exact ⟨l, _, 3, _, rfl, rfl, SqL.of el, rfl, (by show 2 ≤ sizeLine; decide), fin .lt⟩
        · exact ⟨l, _, 4, _, rfl, rfl, SqL.of el, rfl, (by show 2 ≤ sizeLine; decide), fin .eq⟩
      · exact ⟨rfl, rfl⟩
    · exact ⟨rfl, rfl⟩
  rintro σ' H' ⟨rfl, rfl⟩
  -- a function of its own
  refine ⟨_, rfl, _, rfl, p, q, m, F, rfl, m0, by omega, S8, fun x H9 ns S9 G9' hx ex lx mx => ?_⟩
  have G9 := G8.trans G9'
  have hx0 : H x = none := G8.back hx
  have xf : F x = none := S8.fh.free hx
  obtain ⟨ts, ha, tl, tk⟩ := id kna
  have tl' : (ts.map V.ref).length = ks.length := by rw [List.length_map, tl]
  refine ⟨_, rfl, _, rfl, x, rfl, ⟨_, SqL.of ex⟩, fun y hy => ?_⟩
  have yf : F y = none := S9.fh.free hy
  have y0 : H y = none := G9.back hy
  have nxy : x ≠ y := ne_of_none ex hy
  have nx : x ∉ [p, q] := S8.neN hx
  have ny : y ∉ [p, q] := S9.neN hy
  refine lc_list (K := K) (a := x) (xs := ns.map V.int) (fun i H' => ∃ (F' : Hp) (us : List Addr), Gr [p, q] F H F' H' ∧ Dst p q F' H' ∧ F' y = none ∧ F' x = none ∧ H' x = some (.lst (ns.map V.int)) ∧ H' y = some (.lst (us.map V.ref)) ∧ us.length = i ∧
      ∀ (j : Nat) (t : Addr), us[j]? = some t → ∃ n : Int, F' t = some (.tup [.int n, .int (-1)]) ∧ ns[j]? = some n)
    ⟨F, [], G9.loc hy _, S9.newL hy _, yf, xf, by rw [upd_ne nxy]; exact ex, upd_same, rfl, fun j t z => by simp at z⟩ (fun i H' _ ⟨_, _, _, _, _, _, z, _⟩ => SqL.of z) ?_ ?_
  · rintro i z H' hz ⟨F', us, G', S', yf', xf', ex', ey', lu', tu⟩
    obtain ⟨n, hn, rfl⟩ : ∃ n, ns[i]? = some n ∧ V.int n = z := by
      rw [List.getElem?_map] at hz
      exact Option.map_eq_some_iff.mp hz
    have hi : i < 6 := by
      have := (List.getElem?_eq_some_iff.mp hn).1
      omega
    refine ⟨rfl, _, rfl, _, rfl, (by show 2 ≤ sizeLine; decide), fun t ht => ?_⟩
    have nyt : y ≠ t := ne_of_none ey' ht
    have nxt : x ≠ t := ne_of_none ex' ht
    have G1' := G'.new ht (.tup [.int n, .int (-1)])
    have S1' := S'.newF ht (.tup [.int n, .int (-1)])
    have yf1 : upd F' t (.tup [.int n, .int (-1)]) y = none := by rw [upd_ne nyt]; exact yf'
    refine ⟨us.map V.ref, by rw [upd_ne nyt]; exact ey', by rw [List.length_map]; exact small1000 (by omega), upd F' t (.tup [.int n, .int (-1)]), us ++ [t], G1'.put yf1 (.inr y0) _, S1'.putL ny yf1 _, yf1, by rw [upd_ne nxt]; exact xf', ?_, ?_, ?_, fun j u e => ?_⟩
    · rw [upd_ne nxy, upd_ne nxt]; exact ex'
    · rw [upd_same, List.map_append] <;> rfl
    · rw [List.length_append, List.length_singleton, lu']
    · by_cases hj : j < us.length
      · rw [List.getElem?_append_left hj] at e
        obtain ⟨n', h1, h2⟩ := tu j u e
        exact ⟨n', by rw [upd_ne (ne_of_none (S'.fh _ _ h1) ht)]; exact h1, h2⟩
      · rw [List.getElem?_append_right (by omega)] at e
        have hj2 : j - us.length = 0 := by
          have := (List.getElem?_eq_some_iff.mp e).1
          rw [List.length_singleton] at this
          omega
        rw [hj2] at e
        obtain rfl : t = u := Option.some.inj e
        have ej : j = i := by omega
        rw [ej]
        exact ⟨n, upd_same, hn⟩
  rintro H10 ⟨F', us, G', S', yf', xf', ex', ey', lu', tu⟩
  rw [List.length_map] at lu'
  refine ⟨kn, y, _, _, rfl, rfl, G'.up (G'.mem ha), ey', by rw [tl', List.length_map]; exact Nat.le_of_lt (small1000 (by omega)), fun il' hil => ?_⟩
  have G1' := G'.new hil (.lst (ts.map V.ref ++ us.map V.ref))
  have S1' := S'.newF hil (.lst (ts.map V.ref ++ us.map V.ref))
  have nxi : x ≠ il' := ne_of_none ex' hil
  refine ⟨_, rfl, x, _, rfl, .inl ⟨SqL.of (by rw [upd_ne nxi]; exact ex'), fun tb htb => ?_⟩⟩
  have G2' := G1'.new htb (.tup (ns.map V.int))
  have S2' := S1'.newF htb (.tup (ns.map V.int))
  obtain ⟨htb0, ntb⟩ := upd_none htb
  refine ⟨_, rfl, _, rfl, _, rfl, _, rfl, _, _, rfl, rfl, p, q, il', wd, r - 1, ks ++ ns, _, rfl, by omega, by omega, S2', ?_, ?_, (wa.same G2'.ff), fun v c F3 H3 S3 G3' hc _ => ?_⟩
  · refine ⟨ts ++ us, ?_, ?_, fun j t e => ?_⟩
    · rw [upd_ne ntb.symm, upd_same, List.map_append]
    · rw [List.length_append, List.length_append, tl, lu']
    · by_cases hj : j < ts.length
      · rw [List.getElem?_append_left hj] at e
        obtain ⟨n', s', h1, h2⟩ := tk j t e
        exact ⟨n', s', G2'.mem h1, by rw [List.getElem?_append_left (by omega)]; exact h2⟩
      · rw [List.getElem?_append_right (by omega)] at e
        obtain ⟨n', h1, h2⟩ := tu _ t e
        refine ⟨n', -1, (((Gr.refl S'.fh).new hil (.lst (ts.map V.ref ++ us.map V.ref))).new htb (.tup (ns.map V.int)) : Gr [p, q] F' H10 _ _).mem h1, ?_⟩
        rw [List.getElem?_append_right (by omega), ← tl, h2]
  · rw [List.length_append]; omega
  · have numok : Num ns := ⟨by omega, mx⟩
    refine ⟨(by show 3 ≤ sizeLine; decide), fun t ht => ?_⟩
    have G4 := (G2'.trans G3').new ht (.tup [.str "fn", .ref tb, v])
    have S4 := S3.newF ht (.tup [.str "fn", .ref tb, v])
    have sm : Same F3 (upd F3 t (.tup [.str "fn", .ref tb, v])) := same_upd (S3.fh.free ht) _
    refine k _ (.fn ns c) _ _ S4 G4 (.fn upd_same (sm _ _ (G3'.mem upd_same)) numok ((hc.same sm).mono fun n hn => ?_)) True.intro
    rcases List.mem_append.mp hn with z | z
    · exact .inr z
    · exact .inl z
end
end AF
/-! ## B7 -/
namespace AF
open PySem L2
section
variable {P : Program} {w : World} {K : PySem.W.Frag} {mg : Str → Option Value} {base : Heap}
/-! ### _law_strange -/
theorem ok_strange {n : Nat} (D : Df K mg "_law_strange" s__law_strange p__law_strange) (T : Txt K mg) (D_law_take : Df K mg "_law_take" s__law_take p__law_take) (G_law_take : FnOk P w K mg base CX0 2 D_law_take.f D_law_take.fd p__law_take spTake)
    (D_law_small : Df K mg "_law_small" s__law_small p__law_small) (G_law_small : FnOk P w K mg base CX0 3 D_law_small.f D_law_small.fd p__law_small spSmall)
    (D_law_function : Df K mg "_law_function" s__law_function p__law_function) (G_law_function : FnOk P w K mg base CX0 (4 * n + 4) D_law_function.f D_law_function.fd p__law_function (spFun n)) : FnOk P w K mg base CX0 (4 * n + 5) D.f D.fd p__law_strange (spStrange (n + 1)) := by
  refine D.F.ok sc__law_strange (fun vs H Q E h => ?_) (fun cdv A outer s H vs Q E hr h => ?_)
  · obtain ⟨p, q, kn, wd, r, ks, F, rfl, _⟩ := h
    rfl
  obtain ⟨p, q, kn, wd, r, ks, F, rfl, r0, r1, S, kna, kl, wa, k⟩ := h
  have nd := sc__law_strange.nd
  refine ⟨_, (pss_cons (ps_set (i := 4) nd rfl (Or.inl rfl) (pe_call G_law_take (hr.mono (by omega)) rfl D_law_take.m D_law_take.F.kp D_law_take.b .nil pass0 (pa_cons (pv 0) (pa_cons pe_int pa_nil))))
    (pss_cons (ps_set (i := 5) nd rfl (Or.inl rfl) (pe_call G_law_small (hr.mono (by omega)) rfl D_law_small.m D_law_small.F.kp D_law_small.b .nil pass0 (pa_cons (pv 0) pa_nil)))
    (C8.pss_cut (ps_if (pt_cmpR op_eq (pv 4) pe_int (nomark _)) (pss_one (ps_ret (pe_tup (pa_cons pe_str (pa_cons (pv 5) (pa_cons (pe_tup (pa_cons (pv 5) pa_nil)) pa_nil)))))) pss_nil)
    (C8.pss_cut (ps_if (pt_cmpR op_eq (pv 4) pe_int (nomark _)) (pss_one (ps_ret (pe_tup (pa_cons pe_str (pa_cons (pe_call G_law_function (hr.mono (by omega)) rfl D_law_function.m D_law_function.F.kp D_law_function.b .nil pass0 (pa_cons (pv 0) (pa_cons (pv 1) (pa_cons (pv 2) (pa_cons (pe_op op_sub (pv 3) pe_int) (pa_cons pe_int pa_nil)))))) (pa_cons (pe_ix ix_list (pe_lst (pa_cons (pe_tup pa_nil) (pa_cons (pe_tup (pa_cons (pv 5) (pa_cons (pv 5) pa_nil))) pa_nil))) (pe_call G_law_take (hr.mono (by omega)) rfl D_law_take.m D_law_take.F.kp D_law_take.b .nil pass0 (pa_cons (pv 0) (pa_cons pe_int pa_nil))) (fun _ _ => rfl)) pa_nil)))))) pss_nil)
    (C8.pss_cut (ps_if (pt_cmpR op_eq (pv 4) pe_int (nomark _)) (pss_one (ps_ret (pe_tup (pa_cons pe_str (pa_cons (pe_tup (pa_cons pe_str (pa_cons (pe_ix ix_list (pe_lst (pa_cons pe_str (pa_cons pe_str (pa_cons pe_str (pa_cons pe_str pa_nil))))) (pe_call G_law_take (hr.mono (by omega)) rfl D_law_take.m D_law_take.F.kp D_law_take.b .nil pass0 (pa_cons (pv 0) (pa_cons pe_int pa_nil))) (fun _ _ => rfl)) pa_nil))) (pa_cons (pe_tup (pa_cons (pv 5) (pa_cons (pv 5) (pa_cons (pv 5) pa_nil)))) pa_nil)))))) pss_nil)
    (C8.pss_cut (ps_if (pt_cmpR op_eq (pv 4) pe_int (nomark _)) (pss_one (ps_ret (pe_tup (pa_cons pe_str (pa_cons (pe_tup (pa_cons pe_str (pa_cons (pe_ix ix_list (pe_lst (pa_cons pe_str (pa_cons pe_str (pa_cons pe_str pa_nil)))) (pe_call G_law_take (hr.mono (by omega)) rfl D_law_take.m D_law_take.F.kp D_law_take.b .nil pass0 (pa_cons (pv 0) (pa_cons pe_int pa_nil))) (fun _ _ => rfl)) pa_nil))) (pa_cons (pe_tup (pa_cons (pv 5) pa_nil)) pa_nil)))))) pss_nil)
    (C8.pss_cut (ps_if (pt_cmpR op_eq (pv 4) pe_int (nomark _)) (pss_one (ps_ret (pe_tup (pa_cons pe_str (pa_cons (pe_tup (pa_cons pe_str (pa_cons (pe_ix ix_list (pe_lst (pa_cons pe_str (pa_cons pe_str (pa_cons pe_str pa_nil)))) (pe_call G_law_take (hr.mono (by omega)) rfl D_law_take.m D_law_take.F.kp D_law_take.b .nil pass0 (pa_cons (pv 0) (pa_cons pe_int pa_nil))) (fun _ _ => rfl)) pa_nil))) (pa_cons (pe_tup (pa_cons (pv 5) (pa_cons (pe_tup (pa_cons pe_str (pa_cons pe_str pa_nil))) pa_nil))) pa_nil)))))) pss_nil)
    (C8.pss_cut (ps_if (pt_cmpR op_eq (pv 4) pe_int (nomark _)) (pss_one (ps_ret (pe_tup (pa_cons pe_str (pa_cons (pe_ix ix_list (pe_lst (pa_cons pe_str (pa_cons pe_str (pa_cons pe_str pa_nil)))) (pe_call G_law_take (hr.mono (by omega)) rfl D_law_take.m D_law_take.F.kp D_law_take.b .nil pass0 (pa_cons (pv 0) (pa_cons pe_int pa_nil))) (fun _ _ => rfl)) (pa_cons (pe_ix ix_list (pe_lst (pa_cons pe_str (pa_cons pe_str (pa_cons pe_str (pa_cons pe_str pa_nil))))) (pe_call G_law_take (hr.mono (by omega)) rfl D_law_take.m D_law_take.F.kp D_law_take.b .nil pass0 (pa_cons (pv 0) (pa_cons pe_int pa_nil))) (fun _ _ => rfl)) pa_nil)))))) pss_nil)
    (C8.pss_cut (ps_if (pt_cmpR op_eq (pv 4) pe_int (nomark _)) (pss_one (ps_ret (pe_tup (pa_cons pe_str (pa_cons (pe_call G_law_function (hr.mono (by omega)) rfl D_law_function.m D_law_function.F.kp D_law_function.b .nil pass0 (pa_cons (pv 0) (pa_cons (pv 1) (pa_cons (pv 2) (pa_cons (pe_op op_sub (pv 3) pe_int) (pa_cons pe_int pa_nil)))))) (pa_cons (pv 5) (pa_cons (pe_tup (pa_cons pe_str (pa_cons pe_int pa_nil))) pa_nil))))))) pss_nil)
    (pss_one (ps_ret (pe_tup (pa_cons pe_str (pa_cons (pe_tup (pa_cons pe_str (pa_cons pe_str pa_nil))) (pa_cons (pe_tup (pa_cons (pv 5) (pa_cons (pe_call G_law_function (hr.mono (by omega)) rfl D_law_function.m D_law_function.F.kp D_law_function.b .nil pass0 (pa_cons (pv 0) (pa_cons (pv 1) (pa_cons (pv 2) (pa_cons (pe_op op_sub (pv 3) pe_int) (pa_cons pe_int pa_nil)))))) pa_nil))) pa_nil))))))))))))))), ?_⟩
  refine ⟨_, rfl, p, q, 8, F, rfl, by decide, by decide, S, fun d H1 d0 d1 S1 G1 => ?_⟩
  refine ⟨_, rfl, p, q, F, rfl, S1, (fun n => n ∈ ks), fun u c F2 H2 S2 G2' hc hat => ?_⟩
  have G2 := G1.trans G2'
  -- one more call of _law_function
  have fun_ : ∀ {F' H' : Hp} {Q' : VK}, Dst p q F' H' → Gr [p, q] F H F' H' → (∀ v c F3 H3, Dst p q F3 H3 → Gr [p, q] F H F3 H3 → Gr [p, q] F' H' F3 H3 → CoreAt F3 (fun n => n ∈ ks) v c → c.atom → Q' v H3) →
      spFun n [.ref p, .ref kn, .ref wd, .int (r - 1), .int 1] H' Q' E0 := fun {F' H' Q'} S' G' kk =>
    ⟨p, q, kn, wd, r - 1, 1, ks, F', rfl, by omega, by omega, by decide, by decide, S', kna.same G'.ff, by omega, wa.same G'.ff, fun v c F3 H3 S3 G3 h1 h2 => kk v c F3 H3 S3 (G'.trans G3) G3 h1 h2⟩
  -- one drawn text
  have call : ∀ {F' H' : Hp} {a b : Addr} {f : MM.Core} {ps : List MM.Core} {x : V} {ws : List V}, Dst p q F' H' → Gr [p, q] F H F' H' → F' b = some (.tup ws) → ws.length ≤ 10 → f.atom → CoreAt F' (fun n => n ∈ ks) x f → PtsAt F' (fun n => n ∈ ks) ws ps → H' a = none →
      Q (.ref a) (upd H' a (.tup [.str "call", x, .ref b])) := fun {F' H' a b f ps x ws} S' G' hb hl hf hx hp ha => by
    have sm := same_upd (S'.fh.free ha) (.tup [.str "call", x, .ref b])
    exact k _ (.call f ps) _ _ (S'.newF ha _) (G'.new ha _) (.mkCall upd_same (sm _ _ hb) hl hf (hx.same sm) (hp.same sm)) True.intro
  refine ⟨fun σ' H' => σ' = [some (.ref p), some (.ref kn), some (.ref wd), some (.int r), some (.int d), some u] ∧ H2 = H', ?_, ?_⟩
  · refine ⟨_, rfl, rfl, _, rfl, ite2 (fun _ => ?_) (fun _ => ⟨rfl, rfl⟩)⟩
    refine ⟨_, rfl, _, rfl, sz1, fun t1 h1 => ⟨sz3, fun t2 h2 => ?_⟩⟩
    have sm := same_upd (S2.fh.free h1) (.tup [u])
    exact call (S2.newF h1 _) (G2.new h1 _) upd_same (by show 1 ≤ 10; decide) hat (hc.same sm) (.cons (hc.same sm) .nil) h2
  rintro σ' H' ⟨rfl, rfl⟩
  refine ⟨fun σ' H' => σ' = [some (.ref p), some (.ref kn), some (.ref wd), some (.int r), some (.int d), some u] ∧ H2 = H', ?_, ?_⟩
  · refine ⟨_, rfl, rfl, _, rfl, ite2 (fun _ => ?_) (fun _ => ⟨rfl, rfl⟩)⟩
    refine ⟨_, rfl, _, rfl, _, rfl, _, rfl, _, _, rfl, rfl, fun_ S2 G2 fun v c' F3 H3 S3 G3 G3' hv hva => ?_⟩
    refine ⟨sz0, fun t1 h1 => ⟨_, rfl, _, rfl, sz2, fun t2 h2 => ⟨sz2, fun l hl => ?_⟩⟩⟩
    obtain ⟨h20, n21⟩ := upd_none h2
    have S4 := ((S3.newF h1 (.tup [])).newF h2 (.tup [u, u])).newL hl (.lst [.ref t1, .ref t2])
    have G4 := ((G3.new h1 (.tup [])).new h2 (.tup [u, u])).loc hl (.lst [.ref t1, .ref t2])
    refine ⟨_, rfl, p, q, 2, _, rfl, by decide, by decide, S4, fun e H5 e0 e1 S5 G5 => ?_⟩
    have el : H5 l = some (.lst [.ref t1, .ref t2]) := G5.keep l _ (((S3.newF h1 (.tup [])).newF h2 (.tup [u, u])).neN hl) upd_same
    have f1 : Same F3 (upd (upd F3 t1 (.tup [])) t2 (.tup [u, u])) := ((Gr.refl S3.fh : Gr [] F3 H3 F3 H3).new h1 (.tup []) |>.new h2 (.tup [u, u])).ff
    have b1 : upd (upd F3 t1 (.tup [])) t2 (.tup [u, u]) t1 = some (.tup []) := by rw [upd_ne n21.symm, upd_same]
    have cu := (hc.same G3'.ff).same f1
    have two : e = 0 ∨ e = 1 := by omega
    rcases two with rfl | rfl
    · exact ⟨l, _, 0, _, rfl, rfl, SqL.of el, rfl, sz3, fun t3 h3 => call S5 (G4.trans G5) b1 (by decide) hva (hv.same f1) .nil h3⟩
    · exact ⟨l, _, 1, _, rfl, rfl, SqL.of el, rfl, sz3, fun t3 h3 => call S5 (G4.trans G5) upd_same (by show 2 ≤ 10; decide) hva (hv.same f1) (.cons cu (.cons cu .nil)) h3⟩
  rintro σ' H' ⟨rfl, rfl⟩
  refine ⟨fun σ' H' => σ' = [some (.ref p), some (.ref kn), some (.ref wd), some (.int r), some (.int d), some u] ∧ H2 = H', ?_, ?_⟩
  · refine ⟨_, rfl, rfl, _, rfl, ite2 (fun _ => ?_) (fun _ => ⟨rfl, rfl⟩)⟩
    refine ⟨sz4, fun l hl => ?_⟩
    have S4 := S2.newL hl (.lst [.str "+", .str "<", .str "pair", .str "first"])
    have G4 := G2.loc hl (.lst [.str "+", .str "<", .str "pair", .str "first"])
    refine ⟨_, rfl, p, q, 4, _, rfl, by decide, by decide, S4, fun e H5 e0 e1 S5 G5 => ?_⟩
    have el : H5 l = some (.lst [.str "+", .str "<", .str "pair", .str "first"]) := G5.keep l _ (S2.neN hl) upd_same
    have fin : ∀ (pr : MM.Pr) (t1 : Addr), H5 t1 = none → ∀ (t2 : Addr), upd H5 t1 (.tup [.str "prim", .str (pstr pr)]) t2 = none → ∀ (t3 : Addr), upd (upd H5 t1 (.tup [.str "prim", .str (pstr pr)])) t2 (.tup [u, u, u]) t3 = none →
        Q (.ref t3) (upd (upd (upd H5 t1 (.tup [.str "prim", .str (pstr pr)])) t2 (.tup [u, u, u])) t3 (.tup [.str "call", .ref t1, .ref t2])) := fun pr t1 h1 t2 h2 t3 h3 => by
      have n21 := (upd_none h2).2
      have g := ((Gr.refl S5.fh : Gr [] F2 H5 F2 H5).new h1 (.tup [.str "prim", .str (pstr pr)])).new h2 (.tup [u, u, u])
      have cu := hc.same g.ff
      exact call ((S5.newF h1 _).newF h2 _) (((G4.trans G5).new h1 _).new h2 _) upd_same (by show 3 ≤ 10; decide) (f := .prim pr) True.intro (.prim (by rw [upd_ne n21.symm, upd_same])) (.cons cu (.cons cu (.cons cu .nil))) h3
    have four : e = 0 ∨ e = 1 ∨ e = 2 ∨ e = 3 := by omega
    rcases four with rfl | rfl | rfl | rfl
    · exact ⟨l, _, 0, _, rfl, rfl, SqL.of el, rfl, sz2, fun t1 h1 => ⟨_, rfl, _, rfl, _, rfl, sz3, fun t2 h2 => ⟨sz3, fin .add t1 h1 t2 h2⟩⟩⟩
    · exact ⟨l, _, 1, _, rfl, rfl, SqL.of el, rfl, sz2, fun t1 h1 => ⟨_, rfl, _, rfl, _, rfl, sz3, fun t2 h2 => ⟨sz3, fin .lt t1 h1 t2 h2⟩⟩⟩
    · exact ⟨l, _, 2, _, rfl, rfl, SqL.of el, rfl, sz2, fun t1 h1 => ⟨_, rfl, _, rfl, _, rfl, sz3, fun t2 h2 => ⟨sz3, fin .pair t1 h1 t2 h2⟩⟩⟩
    · exact ⟨l, _, 3, _, rfl, rfl, SqL.of el, rfl, sz2, fun t1 h1 => ⟨_, rfl, _, rfl, _, rfl, sz3, fun t2 h2 => ⟨sz3, fin .first t1 h1 t2 h2⟩⟩⟩
  rintro σ' H' ⟨rfl, rfl⟩
  refine ⟨fun σ' H' => σ' = [some (.ref p), some (.ref kn), some (.ref wd), some (.int r), some (.int d), some u] ∧ H2 = H', ?_, ?_⟩
  · refine ⟨_, rfl, rfl, _, rfl, ite2 (fun _ => ?_) (fun _ => ⟨rfl, rfl⟩)⟩
    refine ⟨sz3, fun l hl => ?_⟩
    have S4 := S2.newL hl (.lst [.str "first", .str "second", .str "first"])
    have G4 := G2.loc hl (.lst [.str "first", .str "second", .str "first"])
    refine ⟨_, rfl, p, q, 3, _, rfl, by decide, by decide, S4, fun e H5 e0 e1 S5 G5 => ?_⟩
    have el : H5 l = some (.lst [.str "first", .str "second", .str "first"]) := G5.keep l _ (S2.neN hl) upd_same
    have fin : ∀ (pr : MM.Pr) (t1 : Addr), H5 t1 = none → ∀ (t2 : Addr), upd H5 t1 (.tup [.str "prim", .str (pstr pr)]) t2 = none → ∀ (t3 : Addr), upd (upd H5 t1 (.tup [.str "prim", .str (pstr pr)])) t2 (.tup [u]) t3 = none →
        Q (.ref t3) (upd (upd (upd H5 t1 (.tup [.str "prim", .str (pstr pr)])) t2 (.tup [u])) t3 (.tup [.str "call", .ref t1, .ref t2])) := fun pr t1 h1 t2 h2 t3 h3 => by
      have n21 := (upd_none h2).2
      have g := ((Gr.refl S5.fh : Gr [] F2 H5 F2 H5).new h1 (.tup [.str "prim", .str (pstr pr)])).new h2 (.tup [u])
      have cu := hc.same g.ff
      exact call ((S5.newF h1 _).newF h2 _) (((G4.trans G5).new h1 _).new h2 _) upd_same (by show 1 ≤ 10; decide) (f := .prim pr) True.intro (.prim (by rw [upd_ne n21.symm, upd_same])) (.cons cu .nil) h3
    have three : e = 0 ∨ e = 1 ∨ e = 2 := by omega
    rcases three with rfl | rfl | rfl
    · exact ⟨l, _, 0, _, rfl, rfl, SqL.of el, rfl, sz2, fun t1 h1 => ⟨_, rfl, sz1, fun t2 h2 => ⟨sz3, fin .first t1 h1 t2 h2⟩⟩⟩
    · exact ⟨l, _, 1, _, rfl, rfl, SqL.of el, rfl, sz2, fun t1 h1 => ⟨_, rfl, sz1, fun t2 h2 => ⟨sz3, fin .second t1 h1 t2 h2⟩⟩⟩
    · exact ⟨l, _, 2, _, rfl, rfl, SqL.of el, rfl, sz2, fun t1 h1 => ⟨_, rfl, sz1, fun t2 h2 => ⟨sz3, fin .first t1 h1 t2 h2⟩⟩⟩
  rintro σ' H' ⟨rfl, rfl⟩
  refine ⟨fun σ' H' => σ' = [some (.ref p), some (.ref kn), some (.ref wd), some (.int r), some (.int d), some u] ∧ H2 = H', ?_, ?_⟩
  · refine ⟨_, rfl, rfl, _, rfl, ite2 (fun _ => ?_) (fun _ => ⟨rfl, rfl⟩)⟩
    refine ⟨sz3, fun l hl => ?_⟩
    have S4 := S2.newL hl (.lst [.str "+", .str "=", .str "*"])
    have G4 := G2.loc hl (.lst [.str "+", .str "=", .str "*"])
    refine ⟨_, rfl, p, q, 3, _, rfl, by decide, by decide, S4, fun e H5 e0 e1 S5 G5 => ?_⟩
    have el : H5 l = some (.lst [.str "+", .str "=", .str "*"]) := G5.keep l _ (S2.neN hl) upd_same
    have fin : ∀ (pr : MM.Pr) (t1 : Addr), H5 t1 = none → ∀ (t0 : Addr), upd H5 t1 (.tup [.str "prim", .str (pstr pr)]) t0 = none → ∀ (t2 : Addr), upd (upd H5 t1 (.tup [.str "prim", .str (pstr pr)])) t0 (.tup [.str "prim", .str (pstr .add)]) t2 = none →
        ∀ (t3 : Addr), upd (upd (upd H5 t1 (.tup [.str "prim", .str (pstr pr)])) t0 (.tup [.str "prim", .str (pstr .add)])) t2 (.tup [u, .ref t0]) t3 = none →
        Q (.ref t3) (upd (upd (upd (upd H5 t1 (.tup [.str "prim", .str (pstr pr)])) t0 (.tup [.str "prim", .str (pstr .add)])) t2 (.tup [u, .ref t0])) t3 (.tup [.str "call", .ref t1, .ref t2])) := fun pr t1 h1 t0 h0 t2 h2 t3 h3 => by
      obtain ⟨h20, n20⟩ := upd_none h2
      have n21 := (upd_none h20).2
      have n01 := (upd_none h0).2
      have g := (((Gr.refl S5.fh : Gr [] F2 H5 F2 H5).new h1 (.tup [.str "prim", .str (pstr pr)])).new h0 (.tup [.str "prim", .str (pstr .add)])).new h2 (.tup [u, .ref t0])
      have cu := hc.same g.ff
      exact call (((S5.newF h1 _).newF h0 _).newF h2 _) ((((G4.trans G5).new h1 _).new h0 _).new h2 _) upd_same (by show 2 ≤ 10; decide) (f := .prim pr) True.intro (.prim (by rw [upd_ne n21.symm, upd_ne n01.symm, upd_same]))
        (.cons cu (.cons (.prim (p := .add) (by rw [upd_ne n20.symm, upd_same])) .nil)) h3
    have three : e = 0 ∨ e = 1 ∨ e = 2 := by omega
    rcases three with rfl | rfl | rfl
    · exact ⟨l, _, 0, _, rfl, rfl, SqL.of el, rfl, sz2, fun t1 h1 => ⟨_, rfl, sz2, fun t0 h0 => ⟨sz2, fun t2 h2 => ⟨sz3, fin .add t1 h1 t0 h0 t2 h2⟩⟩⟩⟩
    · exact ⟨l, _, 1, _, rfl, rfl, SqL.of el, rfl, sz2, fun t1 h1 => ⟨_, rfl, sz2, fun t0 h0 => ⟨sz2, fun t2 h2 => ⟨sz3, fin .eq t1 h1 t0 h0 t2 h2⟩⟩⟩⟩
    · exact ⟨l, _, 2, _, rfl, rfl, SqL.of el, rfl, sz2, fun t1 h1 => ⟨_, rfl, sz2, fun t0 h0 => ⟨sz2, fun t2 h2 => ⟨sz3, fin .mul t1 h1 t0 h0 t2 h2⟩⟩⟩⟩
  rintro σ' H' ⟨rfl, rfl⟩
  refine ⟨fun σ' H' => σ' = [some (.ref p), some (.ref kn), some (.ref wd), some (.int r), some (.int d), some u] ∧ H2 = H', ?_, ?_⟩
  · refine ⟨_, rfl, rfl, _, rfl, ite2 (fun _ => ?_) (fun _ => ⟨rfl, rfl⟩)⟩
    refine ⟨sz3, fun l hl => ?_⟩
    have S4 := S2.newL hl (.lst [.str "m", .str "ma", .str "n"])
    have G4 := G2.loc hl (.lst [.str "m", .str "ma", .str "n"])
    refine ⟨_, rfl, p, q, 3, _, rfl, by decide, by decide, S4, fun e H5 e0 e1 S5 G5 => ?_⟩
    have el : H5 l = some (.lst [.str "m", .str "ma", .str "n"]) := G5.keep l _ (S2.neN hl) upd_same
    have go : ∀ gm : MM.GM, sz4 = sz4 ∧ ∀ (l2 : Addr), H5 l2 = none → ∃ v, ([some (V.ref p), some (.ref kn), some (.ref wd), some (.int r), some (.int d), some u])[0]? = some (some v) ∧ spTake [v, .int 4] (upd H5 l2 (.lst [.str "a", .str "aa", .str "b", .str "e"]))
        (fun y H6 => ∃ (a : Addr) (xs : List V) (i : Int) (z : V), (V.ref l2) = .ref a ∧ y = .int i ∧ SqL K H6 a xs ∧ atI xs i = some z ∧ 3 ≤ sizeLine ∧ ∀ t, H6 t = none → Q (.ref t) (upd H6 t (.tup [.str "global", .str (mstr gm), z]))) E0 := fun gm => by
      refine ⟨rfl, fun l2 hl2 => ⟨_, rfl, p, q, 4, _, rfl, by decide, by decide, S5.newL hl2 _, fun e H6 e0 e1 S6 G6 => ?_⟩⟩
      have el2 : H6 l2 = some (.lst [.str "a", .str "aa", .str "b", .str "e"]) := G6.keep l2 _ (S5.neN hl2) upd_same
      have G7 := ((G4.trans G5).loc hl2 (.lst [.str "a", .str "aa", .str "b", .str "e"])).trans G6
      have fin : ∀ gn : MM.GN, ∀ t, H6 t = none → Q (.ref t) (upd H6 t (.tup [.str "global", .str (mstr gm), .str (nstr gn)])) := fun gn t ht => k _ (.glob ⟨gm, gn⟩) _ _ (S6.newF ht _) (G7.new ht _) (.glob upd_same) True.intro
      have four : e = 0 ∨ e = 1 ∨ e = 2 ∨ e = 3 := by omega
      rcases four with rfl | rfl | rfl | rfl
      · exact ⟨l2, _, 0, _, rfl, rfl, SqL.of el2, rfl, sz3, fin .a⟩
      · exact ⟨l2, _, 1, _, rfl, rfl, SqL.of el2, rfl, sz3, fin .aa⟩
      · exact ⟨l2, _, 2, _, rfl, rfl, SqL.of el2, rfl, sz3, fin .b⟩
      · exact ⟨l2, _, 3, _, rfl, rfl, SqL.of el2, rfl, sz3, fin .e⟩
    have three : e = 0 ∨ e = 1 ∨ e = 2 := by omega
    rcases three with rfl | rfl | rfl
    · exact ⟨l, _, 0, _, rfl, rfl, SqL.of el, rfl, sz4, (go .m).2⟩
    · exact ⟨l, _, 1, _, rfl, rfl, SqL.of el, rfl, sz4, (go .ma).2⟩
    · exact ⟨l, _, 2, _, rfl, rfl, SqL.of el, rfl, sz4, (go .n).2⟩
  rintro σ' H' ⟨rfl, rfl⟩
  refine ⟨fun σ' H' => σ' = [some (.ref p), some (.ref kn), some (.ref wd), some (.int r), some (.int d), some u] ∧ H2 = H', ?_, ?_⟩
  · refine ⟨_, rfl, rfl, _, rfl, ite2 (fun _ => ?_) (fun _ => ⟨rfl, rfl⟩)⟩
    refine ⟨_, rfl, _, rfl, _, rfl, _, rfl, _, _, rfl, rfl, fun_ S2 G2 fun v c' F3 H3 S3 G3 G3' hv hva => ?_⟩
    refine ⟨_, rfl, sz2, fun t1 h1 => ⟨sz4, fun t2 h2 => ?_⟩⟩
    have g := ((Gr.refl S3.fh : Gr [] F3 H3 F3 H3).new h1 (.tup [.str "int", .int 9])).new h2 (.tup [.str "if", v, u, .ref t1])
    have b : (9 : Int) ≤ MM.big := by decide
    exact k _ (.ite c' c (.int 9)) _ _ ((S3.newF h1 _).newF h2 _) ((G3.new h1 _).new h2 _) (.ite upd_same (hv.same g.ff) ((hc.same G3'.ff).same g.ff) (.int (by rw [upd_ne (upd_none h2).2.symm, upd_same]) (by decide) b)) True.intro
  rintro σ' H' ⟨rfl, rfl⟩
  refine ⟨sz2, fun t1 h1 => ?_⟩
  refine ⟨_, rfl, _, rfl, _, rfl, _, rfl, _, rfl, _, _, rfl, rfl, fun_ (S2.newF h1 _) (G2.new h1 _) fun v c' F3 H3 S3 G3 G3' hv hva => ?_⟩
  refine ⟨sz2, fun t2 h2 => ⟨sz3, fun t3 h3 => ?_⟩⟩
  have sm := same_upd (S3.fh.free h2) (.tup [u, v])
  have c1 := (hc.same (same_upd (S2.fh.free h1) (.tup [.str "prim", .str "pair"]))).same G3'.ff
  exact call (S3.newF h2 _) (G3.new h2 _) upd_same (by show 2 ≤ 10; decide) (f := .prim .pair) True.intro (.prim (sm _ _ (G3'.mem upd_same))) (.cons (c1.same sm) (.cons (hv.same sm) .nil)) h3
end
end AF
/-! ## B8 -/
namespace AF
open PySem L2
section
variable {P : Program} {w : World} {K : PySem.W.Frag} {mg : Str → Option Value} {base : Heap}
/-! ### _law_let -/
/-- of two drawn numbers one -/
theorem pick2 {p q : Addr} {F H : Hp} {l : Addr} {a b e : Int} (h : H l = some (.lst [.int a, .int b])) (e0 : 0 ≤ e) (e1 : e < 2) : ∃ c : Int, (c = a ∨ c = b) ∧ atI [V.int a, V.int b] e = some (.int c) := by
  have two : e = 0 ∨ e = 1 := by omega
  rcases two with rfl | rfl
  · exact ⟨a, .inl rfl, rfl⟩
  · exact ⟨b, .inr rfl, rfl⟩
theorem ok_let {n : Nat} (D : Df K mg "_law_let" s__law_let p__law_let) (T : Txt K mg) (D_law_take : Df K mg "_law_take" s__law_take p__law_take) (G_law_take : FnOk P w K mg base CX0 2 D_law_take.f D_law_take.fd p__law_take spTake)
    (D_law_numbers : Df K mg "_law_numbers" s__law_numbers p__law_numbers) (G_law_numbers : FnOk P w K mg base CX0 3 D_law_numbers.f D_law_numbers.fd p__law_numbers spNumbers)
    (D_law_part : Df K mg "_law_part" s__law_part p__law_part) (G_law_part : FnOk P w K mg base CX0 (4 * n + 4) D_law_part.f D_law_part.fd p__law_part (spPart n))
    (D_law_function : Df K mg "_law_function" s__law_function p__law_function) (G_law_function : FnOk P w K mg base CX0 (4 * n + 4) D_law_function.f D_law_function.fd p__law_function (spFun n)) : FnOk P w K mg base CX0 (4 * n + 5) D.f D.fd p__law_let (spStrange (n + 1)) := by
  refine D.F.ok sc__law_let (fun vs H Q E h => ?_) (fun cdv A outer s H vs Q E hr h => ?_)
  · obtain ⟨p, q, kn, wd, r, ks, F, rfl, _⟩ := h
    rfl
  obtain ⟨p, q, kn, wd, r, ks, F, rfl, r0, r1, S, kna, kl, wa, k⟩ := h
  have nd := sc__law_let.nd
  obtain ⟨ts, ha, tl, tk⟩ := id kna
  have tl' : (ts.map V.ref).length = ks.length := by rw [List.length_map, tl]
  refine ⟨_, (pss_cons (ps_set (i := 4) nd rfl (Or.inl rfl) (pe_call G_law_numbers (hr.mono (by omega)) rfl D_law_numbers.m D_law_numbers.F.kp D_law_numbers.b .nil pass0 (pa_cons (pv 0) (pa_cons (pe_ix ix_list (pe_lst (pa_cons (pe_call G_law_take (hr.mono (by omega)) rfl D_law_take.m D_law_take.F.kp D_law_take.b .nil pass0 (pa_cons (pv 0) (pa_cons pe_int pa_nil))) (pa_cons (pe_call G_law_take (hr.mono (by omega)) rfl D_law_take.m D_law_take.F.kp D_law_take.b .nil pass0 (pa_cons (pv 0) (pa_cons pe_int pa_nil))) pa_nil))) (pe_call G_law_take (hr.mono (by omega)) rfl D_law_take.m D_law_take.F.kp D_law_take.b .nil pass0 (pa_cons (pv 0) (pa_cons pe_int pa_nil))) (fun _ _ => rfl)) pa_nil))))
    (pss_cons (ps_set (i := 5) nd rfl (Or.inl rfl) (pe_lst pa_nil))
    (pss_cons (ps_set (i := 6) nd rfl (Or.inl rfl) (pe_callTy call_list_of (by rfl) T.list (by decide +kernel) (pa_cons (pv 1) pa_nil)))
    (C8.pss_cut (ps_for PassesOwn.never rfl (pi_list (pv 4)) (pg_name (i := 7) nd rfl (Or.inl rfl))
    (pss_cons (ps_set (i := 8) nd rfl (Or.inl rfl) (pe_op op_sub (pe_ix ix_list (pe_lst (pa_cons (pe_call G_law_take (hr.mono (by omega)) rfl D_law_take.m D_law_take.F.kp D_law_take.b .nil pass0 (pa_cons (pv 0) (pa_cons pe_int pa_nil))) (pa_cons (pe_call G_law_take (hr.mono (by omega)) rfl D_law_take.m D_law_take.F.kp D_law_take.b .nil pass0 (pa_cons (pv 0) (pa_cons pe_int pa_nil))) pa_nil))) (pe_call G_law_take (hr.mono (by omega)) rfl D_law_take.m D_law_take.F.kp D_law_take.b .nil pass0 (pa_cons (pv 0) (pa_cons pe_int pa_nil))) (fun _ _ => rfl)) pe_int))
    (C8.pss_cut (ps_if (pt_cmpR op_lt (pv 8) pe_int (nomark _)) (pss_one (ps_expr (pe_bm PySem.F.plainAttrs_list PySem.F.slot_list_append PySem.F.type_list_append mt_append (pv 5) (pa_cons (pe_tup (pa_cons (pv 7) (pa_cons (pe_call G_law_part (hr.mono (by omega)) rfl D_law_part.m D_law_part.F.kp D_law_part.b .nil pass0 (pa_cons (pv 0) (pa_cons (pv 1) (pa_cons (pv 2) (pa_cons (pe_op op_sub (pv 3) pe_int) pa_nil))))) pa_nil))) pa_nil)))) (pss_one (ps_expr (pe_bm PySem.F.plainAttrs_list PySem.F.slot_list_append PySem.F.type_list_append mt_append (pv 5) (pa_cons (pe_tup (pa_cons (pv 7) (pa_cons (pe_call G_law_function (hr.mono (by omega)) rfl D_law_function.m D_law_function.F.kp D_law_function.b .nil pass0 (pa_cons (pv 0) (pa_cons (pv 1) (pa_cons (pv 2) (pa_cons (pe_op op_sub (pv 3) pe_int) (pa_cons (pv 8) pa_nil)))))) pa_nil))) pa_nil)))))
    (pss_one (ps_expr (pe_bm PySem.F.plainAttrs_list PySem.F.slot_list_append PySem.F.type_list_append mt_append (pv 6) (pa_cons (pe_tup (pa_cons (pv 7) (pa_cons (pv 8) pa_nil))) pa_nil)))))))
    (pss_one (ps_ret (pe_tup (pa_cons pe_str (pa_cons (pe_callTy call_tuple_of (by rfl) T.tuple (by decide +kernel) (pa_cons (pv 5) pa_nil)) (pa_cons (pe_call G_law_part (hr.mono (by omega)) rfl D_law_part.m D_law_part.F.kp D_law_part.b .nil pass0 (pa_cons (pv 0) (pa_cons (pv 6) (pa_cons (pv 2) (pa_cons (pe_op op_sub (pv 3) pe_int) pa_nil))))) pa_nil)))))))))), ?_⟩
  refine ⟨_, rfl, _, rfl, p, q, 3, F, rfl, by decide, by decide, S, fun d1 H1 d10 d11 S1 G1 => ?_⟩
  refine ⟨_, rfl, p, q, 6, F, rfl, by decide, by decide, S1, fun d2 H2 d20 d21 S2 G2 => ⟨sz2, fun l hl => ?_⟩⟩
  refine ⟨_, rfl, p, q, 2, F, rfl, by decide, by decide, S2.newL hl _, fun e H3 e0 e1 S3 G3 => ?_⟩
  have el : H3 l = some (.lst [.int d1, .int d2]) := G3.keep l _ (S2.neN hl) upd_same
  obtain ⟨c, hc, hat⟩ := pick2 (p := p) (q := q) (F := F) el e0 e1
  refine ⟨l, _, e, _, rfl, rfl, SqL.of el, hat, p, q, c, F, rfl, by omega, by omega, S3, fun x H4 ns S4 G4' hx ex lx mx => ?_⟩
  have G4 : Gr [p, q] F H F H4 := (((G1.trans G2).loc hl _).trans G3).trans G4'
  have hx0 : H x = none := (((G1.trans G2).loc hl _).trans G3).back hx
  have xf : F x = none := S3.fh.free hx
  refine ⟨sz0, fun pr hpr => ?_⟩
  have prf : F pr = none := S4.fh.free hpr
  have pr0 : H pr = none := G4.back hpr
  have nxp : x ≠ pr := ne_of_none ex hpr
  have S5 := S4.newL hpr (.lst [])
  have G5 := G4.loc hpr (.lst [])
  refine ⟨_, rfl, kn, _, rfl, .inl (SqL.of (G5.up ha)), fun il hil => ?_⟩
  have ilf : F il = none := S5.fh.free hil
  have il0 : H il = none := G5.back hil
  obtain ⟨hil1, nip⟩ := upd_none hil
  have nxi : x ≠ il := ne_of_none ex hil1
  have S6 := S5.newL hil (.lst (ts.map V.ref))
  have G6 := G5.loc hil (.lst (ts.map V.ref))
  have nx : x ∉ [p, q] := S3.neN hx
  have npr : pr ∉ [p, q] := S4.neN hpr
  have nil_ : il ∉ [p, q] := S5.neN hil
  -- what stands ahead of a turn, behind it
  generalize hW : (fun (i : Nat) (σ : L2.St) (H' : Hp) => ∃ (v7 v8 : Option V) (F' : Hp) (tp us : List Addr) (ws : List V) (ps : List MM.Core), σ = [some (.ref p), some (.ref kn), some (.ref wd), some (.int r), some (.ref x), some (.ref pr), some (.ref il), v7, v8] ∧
      Gr [p, q] F H F' H' ∧ Dst p q F' H' ∧ H' x = some (.lst (ns.map V.int)) ∧ H' pr = some (.lst (tp.map V.ref)) ∧ H' il = some (.lst ((ts ++ us).map V.ref)) ∧ F' x = none ∧ F' pr = none ∧ F' il = none ∧ tp.length = i ∧ ws.length = i ∧ us.length = i ∧
      (∀ (j : Nat) (t : Addr) (n : Int) (u : V), tp[j]? = some t → ns[j]? = some n → ws[j]? = some u → F' t = some (.tup [.int n, u])) ∧ PtsAt F' (fun n => n ∈ ks) ws ps ∧
      ∀ (j : Nat) (t : Addr), us[j]? = some t → ∃ n s : Int, F' t = some (.tup [.int n, .int s]) ∧ ns[j]? = some n) = W
  refine ⟨W ns.length, ⟨_, rfl, x, rfl, ⟨_, SqL.of (by rw [upd_ne nxi, upd_ne nxp]; exact ex)⟩, for_list (K := K) (a := x) (xs := ns.map V.int) W ?_ (fun i σ H' _ z => ?_) ?_ ?_⟩, ?_⟩
  · rw [← hW]
    exact ⟨none, none, F, [], [], [], [], rfl, G6, S6, by rw [upd_ne nxi, upd_ne nxp]; exact ex, by rw [upd_ne nip.symm, upd_same] <;> rfl, by rw [upd_same, List.append_nil], xf, prf, ilf, rfl, rfl, rfl, fun j t n u z => by simp at z, .nil, fun j t z => by simp at z⟩
  · rw [← hW] at z
    obtain ⟨v7, v8, F', tp, us, ws, ps, rfl, G', S', ex', _⟩ := z
    exact SqL.of ex'
  · rintro i z σ H' hz hWi
    rw [← hW] at hWi
    obtain ⟨v7, v8, F', tp, us, ws, ps, rfl, G', S', ex', ep', ei', xf', pf', if', lt, lw, lu, ht, hp, hu⟩ := hWi
    obtain ⟨m, hm, rfl⟩ : ∃ m, ns[i]? = some m ∧ V.int m = z := by
      rw [List.getElem?_map] at hz
      exact Option.map_eq_some_iff.mp hz
    have hi : i < 6 := by
      have := (List.getElem?_eq_some_iff.mp hm).1
      omega
    refine ⟨_, rfl, p, q, 4, F', rfl, by decide, by decide, S', fun d3 H7 d30 d31 S7 G7 => ?_⟩
    refine ⟨_, rfl, p, q, 6, F', rfl, by decide, by decide, S7, fun d4 H8 d40 d41 S8 G8 => ⟨sz2, fun l2 hl2 => ?_⟩⟩
    refine ⟨_, rfl, p, q, 2, F', rfl, by decide, by decide, S8.newL hl2 _, fun e2 H9 e20 e21 S9 G9 => ?_⟩
    have el2 : H9 l2 = some (.lst [.int d3, .int d4]) := G9.keep l2 _ (S8.neN hl2) upd_same
    obtain ⟨sr, hsr, hat2⟩ := pick2 (p := p) (q := q) (F := F') el2 e20 e21
    have Gd : Gr [p, q] F' H' F' H9 := ((G7.trans G8).loc hl2 _).trans G9
    have G9a := G'.trans Gd
    refine ⟨l2, _, e2, _, rfl, rfl, SqL.of el2, hat2, _, _, rfl, rfl, ?_⟩
    obtain ⟨ex9, _⟩ := Gd.own ex' xf' nx
    obtain ⟨ep9, _⟩ := Gd.own ep' pf' npr
    obtain ⟨ei9, _⟩ := Gd.own ei' if' nil_
    -- the pair appended
    have app : ∀ (v : V) (c' : MM.Core) (F3 H3 : Hp) (t : Addr), Dst p q F3 H3 → Gr [p, q] F' H9 F3 H3 → CoreAt F3 (fun n => n ∈ ks) v c' → H3 t = none →
        ∃ (F4 : Hp) (tp' : List Addr), let H4 := upd (upd H3 t (.tup [.int m, v])) pr (.lst (tp.map V.ref ++ [.ref t]))
          Gr [p, q] F H F4 H4 ∧ Dst p q F4 H4 ∧ H4 x = some (.lst (ns.map V.int)) ∧ H4 pr = some (.lst (tp'.map V.ref)) ∧ H4 il = some (.lst ((ts ++ us).map V.ref)) ∧ F4 x = none ∧ F4 pr = none ∧ F4 il = none ∧ tp'.length = i + 1 ∧
          (∀ (j : Nat) (t : Addr) (n : Int) (u : V), tp'[j]? = some t → ns[j]? = some n → (ws ++ [v])[j]? = some u → F4 t = some (.tup [.int n, u])) ∧ PtsAt F4 (fun n => n ∈ ks) (ws ++ [v]) (ps ++ [c']) ∧
          ∀ (j : Nat) (t : Addr), us[j]? = some t → ∃ n s : Int, F4 t = some (.tup [.int n, .int s]) ∧ ns[j]? = some n := fun v c' F3 H3 t S3 G3 hc' ht3 => by
      obtain ⟨ex3, xf3⟩ := G3.own ex9 xf' nx
      obtain ⟨ep3, pf3⟩ := G3.own ep9 pf' npr
      obtain ⟨ei3, if3⟩ := G3.own ei9 if' nil_
      have n1 : x ≠ t := ne_of_none ex3 ht3
      have n2 : pr ≠ t := ne_of_none ep3 ht3
      have n3 : il ≠ t := ne_of_none ei3 ht3
      have sm := same_upd (S3.fh.free ht3) (.tup [.int m, v])
      have pf4 : upd F3 t (.tup [.int m, v]) pr = none := by rw [upd_ne n2]; exact pf3
      have G4a := (G9a.trans G3).new ht3 (.tup [.int m, v])
      refine ⟨upd F3 t (.tup [.int m, v]), tp ++ [t], G4a.put pf4 (.inr pr0) _, (S3.newF ht3 _).putL npr pf4 _, ?_, ?_, ?_, ?_, pf4, ?_, ?_, fun j t' n' u e1 e2 e3 => ?_, (hp.same (G3.ff.trans sm)).snoc (hc'.same sm), fun j t' e1 => ?_⟩
      · rw [upd_ne nxp, upd_ne n1]; exact ex3
      · rw [upd_same, List.map_append] <;> rfl
      · rw [upd_ne nip, upd_ne n3]; exact ei3
      · rw [upd_ne n1]; exact xf3
      · rw [upd_ne n3]; exact if3
      · rw [List.length_append, List.length_singleton, lt]
      · rcases snoc_at e1 with ⟨j1, e1⟩ | ⟨j1, rfl⟩
        · rcases snoc_at e3 with ⟨_, e3⟩ | ⟨j3, _⟩
          · exact sm _ _ (G3.mem (ht j t' n' u e1 e2 e3))
          · omega
        · rcases snoc_at e3 with ⟨j3, _⟩ | ⟨_, rfl⟩
          · omega
          · rw [j1, lt, hm] at e2
            obtain rfl := Option.some.inj e2
            exact upd_same
      · obtain ⟨n', s', h1, h2⟩ := hu j t' e1
        exact ⟨n', s', sm _ _ (G3.mem h1), h2⟩
    refine ⟨fun σ' H4 => ∃ (v : V) (c' : MM.Core) (F4 : Hp) (tp' : List Addr), σ' = [some (.ref p), some (.ref kn), some (.ref wd), some (.int r), some (.ref x), some (.ref pr), some (.ref il), some (.int m), some (.int (sr - 1))] ∧
      Gr [p, q] F H F4 H4 ∧ Dst p q F4 H4 ∧ H4 x = some (.lst (ns.map V.int)) ∧ H4 pr = some (.lst (tp'.map V.ref)) ∧ H4 il = some (.lst ((ts ++ us).map V.ref)) ∧ F4 x = none ∧ F4 pr = none ∧ F4 il = none ∧ tp'.length = i + 1 ∧
          (∀ (j : Nat) (t : Addr) (n : Int) (u : V), tp'[j]? = some t → ns[j]? = some n → (ws ++ [v])[j]? = some u → F4 t = some (.tup [.int n, u])) ∧ PtsAt F4 (fun n => n ∈ ks) (ws ++ [v]) (ps ++ [c']) ∧
          ∀ (j : Nat) (t : Addr), us[j]? = some t → ∃ n s : Int, F4 t = some (.tup [.int n, .int s]) ∧ ns[j]? = some n, ?_, ?_⟩
    · refine ⟨_, rfl, _, _, rfl, rfl, _, rfl, ite2 (fun _ => ?_) (fun hs => ?_)⟩
      · refine ⟨_, rfl, .inl ⟨rfl, _, SqL.of ep9⟩, _, rfl, _, rfl, _, rfl, _, rfl, _, rfl, _, _, rfl, rfl, p, q, kn, wd, r - 1, ks, F', rfl, by omega, by omega, S9, kna.same G'.ff, by omega, wa.same G'.ff, fun v c' F3 H3 S3 G3 hc' _ => ⟨sz2, fun t ht3 => ?_⟩⟩
        obtain ⟨ep3, pf3⟩ := G3.own ep9 pf' npr
        obtain ⟨F4, tp', h⟩ := app v c' F3 H3 t S3 G3 hc' ht3
        exact ⟨pr, _, _, rfl, rfl, by rw [upd_ne (ne_of_none ep3 ht3)]; exact ep3, by rw [List.length_map]; exact small1000 (by omega), v, c', F4, tp', rfl, h⟩
      · have hs' : ¬ (sr - 1 < 0) := of_decide_eq_false (Bool.eq_false_iff.mpr hs)
        refine ⟨_, rfl, .inl ⟨rfl, _, SqL.of ep9⟩, _, rfl, _, rfl, _, rfl, _, rfl, _, rfl, _, _, rfl, rfl, _, rfl, p, q, kn, wd, r - 1, sr - 1, ks, F', rfl, by omega, by omega, by omega, by omega, S9, kna.same G'.ff, by omega, wa.same G'.ff, fun v c' F3 H3 S3 G3 hc' _ => ⟨sz2, fun t ht3 => ?_⟩⟩
        obtain ⟨ep3, pf3⟩ := G3.own ep9 pf' npr
        obtain ⟨F4, tp', h⟩ := app v c' F3 H3 t S3 G3 hc' ht3
        exact ⟨pr, _, _, rfl, rfl, by rw [upd_ne (ne_of_none ep3 ht3)]; exact ep3, by rw [List.length_map]; exact small1000 (by omega), v, c', F4, tp', rfl, h⟩
    · rintro σ' H4 ⟨v, c', F4, tp', rfl, G4, S4, ex4, ep4, ei4, xf4, pf4, if4, lt4, ht4, hp4, hu4⟩
      refine ⟨_, rfl, .inl ⟨rfl, _, SqL.of ei4⟩, _, rfl, _, rfl, sz2, fun t ht5 => ?_⟩
      have n1 : x ≠ t := ne_of_none ex4 ht5
      have n2 : pr ≠ t := ne_of_none ep4 ht5
      have n3 : il ≠ t := ne_of_none ei4 ht5
      refine ⟨il, _, _, rfl, rfl, by rw [upd_ne n3]; exact ei4, by rw [List.length_map, List.length_append, tl]; exact small1000 (by omega), ?_⟩
      have sm := same_upd (S4.fh.free ht5) (.tup [.int m, .int (sr - 1)])
      have if5 : upd F4 t (.tup [.int m, .int (sr - 1)]) il = none := by rw [upd_ne n3]; exact if4
      rw [← hW]
      refine ⟨_, _, upd F4 t (.tup [.int m, .int (sr - 1)]), tp', us ++ [t], ws ++ [v], ps ++ [c'], rfl, (G4.new ht5 _).put if5 (.inr il0) _, (S4.newF ht5 _).putL nil_ if5 _, ?_, ?_, ?_, ?_, ?_, if5, lt4, ?_, ?_, fun j t' n' u e1 e2 e3 => sm _ _ (ht4 j t' n' u e1 e2 e3), hp4.same sm, fun j t' e1 => ?_⟩
      · rw [upd_ne nxi, upd_ne n1]; exact ex4
      · rw [upd_ne nip.symm, upd_ne n2]; exact ep4
      · rw [upd_same, ← List.append_assoc, List.map_append (l₁ := ts ++ us)] <;> rfl
      · rw [upd_ne n1]; exact xf4
      · rw [upd_ne n2]; exact pf4
      · rw [List.length_append, List.length_singleton, lw]
      · rw [List.length_append, List.length_singleton, lu]
      · rcases snoc_at e1 with ⟨j1, e1⟩ | ⟨j1, rfl⟩
        · obtain ⟨n', s', h1, h2⟩ := hu4 j t' e1
          exact ⟨n', s', sm _ _ h1, h2⟩
        · exact ⟨m, sr - 1, upd_same, by rw [j1, lu]; exact hm⟩
  · intro σ H' z
    rw [List.length_map] at z
    exact z
  rintro σ' H' hWn
  rw [← hW] at hWn
  obtain ⟨v7, v8, F', tp, us, ws, ps, rfl, G', S', ex', ep', ei', xf', pf', if', lt, lw, lu, ht, hp, hu⟩ := hWn
  refine ⟨_, rfl, pr, _, rfl, .inl ⟨SqL.of ep', fun tb htb => ?_⟩⟩
  have n3 : il ≠ tb := ne_of_none ei' htb
  have S7 := (S'.newF htb (.tup (tp.map V.ref))).frz (a := il) (o := .lst ((ts ++ us).map V.ref)) (by rw [upd_ne n3]; exact ei') nil_
  have G7 := (G'.new htb (.tup (tp.map V.ref))).freeze (p := il) (o := .lst ((ts ++ us).map V.ref)) (by rw [upd_ne n3]; exact ei') (by rw [upd_ne n3]; exact if') il0
  have sm : Same F' (upd (upd F' tb (.tup (tp.map V.ref))) il (.lst ((ts ++ us).map V.ref))) := (same_upd (S'.fh.free htb) _).trans (same_upd (by rw [upd_ne n3]; exact if') _)
  have hl : ks.length + ns.length ≤ 110 := by omega
  refine ⟨_, rfl, _, rfl, _, rfl, _, rfl, _, _, rfl, rfl, p, q, il, wd, r - 1, ks ++ ns, _, rfl, by omega, by omega, S7, ?_, ?_, wa.same G7.ff, fun v c' F3 H3 S3 G3 hc' _ => ?_⟩
  · refine ⟨ts ++ us, upd_same, ?_, fun j t e => ?_⟩
    · rw [List.length_append, List.length_append, tl, lu]
    · by_cases hj : j < ts.length
      · rw [List.getElem?_append_left hj] at e
        obtain ⟨n', s', h1, h2⟩ := tk j t e
        exact ⟨n', s', G7.mem h1, by rw [List.getElem?_append_left (by omega)]; exact h2⟩
      · rw [List.getElem?_append_right (by omega)] at e
        obtain ⟨n', s', h1, h2⟩ := hu _ t e
        exact ⟨n', s', sm _ _ h1, by rw [List.getElem?_append_right (by omega), ← tl]; exact h2⟩
  · rw [List.length_append]; omega
  · refine ⟨sz3, fun t ht6 => ?_⟩
    have sm2 := same_upd (S3.fh.free ht6) (.tup [.str "let", .ref tb, v])
    have s3 := G3.ff.trans sm2
    refine k _ (.lett ns ps c') _ _ (S3.newF ht6 _) ((G7.trans G3).new ht6 _) (.lett (ts := tp) (ws := ws) upd_same (s3 _ _ (by rw [upd_ne n3.symm, upd_same])) lt lw (hp.len.symm.trans lw) ⟨by omega, mx⟩ (fun j t' n' u e1 e2 e3 => s3 _ _ (sm _ _ (ht j t' n' u e1 e2 e3))) ((hp.same (sm.trans s3)).at_) ((hc'.same sm2).mono fun n' hn => ?_)) True.intro
    rcases List.mem_append.mp hn with z | z
    · exact .inr z
    · exact .inl z
end
end AF
/-! ## B9 -/
namespace AF
open PySem L2
section
variable {P : Program} {w : World} {K : PySem.W.Frag} {mg : Str → Option Value} {base : Heap}
/-! ### _law_part -/
theorem ok_part {n : Nat} (D_law_part : Df K mg "_law_part" s__law_part p__law_part) (T : Txt K mg) (D_law_take : Df K mg "_law_take" s__law_take p__law_take) (G_law_take : FnOk P w K mg base CX0 2 D_law_take.f D_law_take.fd p__law_take spTake)
    (D_law_locals : Df K mg "_law_locals" s__law_locals p__law_locals) (G_law_locals : FnOk P w K mg base CX0 1 D_law_locals.f D_law_locals.fd p__law_locals spLocals)
    (D_law_small : Df K mg "_law_small" s__law_small p__law_small) (G_law_small : FnOk P w K mg base CX0 3 D_law_small.f D_law_small.fd p__law_small spSmall)
    (G_law_part : FnOk P w K mg base CX0 (4 * n + 4) D_law_part.f D_law_part.fd p__law_part (spPart n))
    (D_law_function : Df K mg "_law_function" s__law_function p__law_function) (G_law_function : FnOk P w K mg base CX0 (4 * n + 4) D_law_function.f D_law_function.fd p__law_function (spFun n))
    (D_law_let : Df K mg "_law_let" s__law_let p__law_let) (G_law_let : FnOk P w K mg base CX0 (4 * n + 5) D_law_let.f D_law_let.fd p__law_let (spStrange (n + 1)))
    (D_law_strange : Df K mg "_law_strange" s__law_strange p__law_strange) (G_law_strange : FnOk P w K mg base CX0 (4 * n + 5) D_law_strange.f D_law_strange.fd p__law_strange (spStrange (n + 1))) : FnOk P w K mg base CX0 (4 * n + 8) D_law_part.f D_law_part.fd p__law_part (spPart (n + 1)) := by
  refine D_law_part.F.ok sc__law_part (fun vs H Q E h => ?_) (fun cdv A outer s H vs Q E hr h => ?_)
  · obtain ⟨p, q, kn, wd, r, ks, F, rfl, _⟩ := h
    rfl
  obtain ⟨p, q, kn, wd, r, ks, F, rfl, r0, r1, S, kna, kl, wa, k⟩ := h
  have nd := sc__law_part.nd
  refine ⟨_, (pss_cons (ps_set (i := 4) nd rfl (Or.inl rfl) (pe_call G_law_take (hr.mono (by omega)) rfl D_law_take.m D_law_take.F.kp D_law_take.b .nil pass0 (pa_cons (pv 0) (pa_cons pe_int pa_nil))))
    (pss_cons (ps_set (i := 5) nd rfl (Or.inl rfl) (pe_call G_law_locals (hr.mono (by omega)) rfl D_law_locals.m D_law_locals.F.kp D_law_locals.b .nil pass0 (pa_cons (pv 1) (pa_cons (pe_un un_neg pe_int) pa_nil))))
    (C8.pss_cut (ps_if (PW.pt (pw_or (pt_cmpR op_lt (pv 3) pe_int (nomark _)) (pw_or1 (pt_cmpR op_lt (pv 4) pe_int (nomark _))))) (pss_cons (ps_if (PW.pt (pw_and (pt_cmpR (op_neD hr.units) (pv 5) (pe_lst pa_nil) (nomark _)) (pw_and1 (pt_cmpR op_gt (pe_call G_law_take (hr.mono (by omega)) rfl D_law_take.m D_law_take.F.kp D_law_take.b .nil pass0 (pa_cons (pv 0) (pa_cons pe_int pa_nil))) pe_int (nomark _))))) (pss_one (ps_ret (pe_tup (pa_cons pe_str (pa_cons (pe_ix ix_list (pv 5) (pe_call G_law_take (hr.mono (by omega)) rfl D_law_take.m D_law_take.F.kp D_law_take.b .nil pass0 (pa_cons (pv 0) (pa_cons (pe_callB call_len_seq (by rfl) T.len PySem.boot_len (pa_cons (pv 5) pa_nil)) pa_nil))) (fun _ _ => rfl)) pa_nil))))) pss_nil)
    (pss_one (ps_ret (pe_call G_law_small (hr.mono (by omega)) rfl D_law_small.m D_law_small.F.kp D_law_small.b .nil pass0 (pa_cons (pv 0) pa_nil))))) pss_nil)
    (C8.pss_cut (ps_if (pt_cmpR op_lt (pv 4) pe_int (nomark _)) (pss_cons (ps_set (i := 6) nd rfl (Or.inl rfl) (pe_tup (pa_cons (pe_call G_law_part (hr.mono (by omega)) rfl D_law_part.m D_law_part.F.kp D_law_part.b .nil pass0 (pa_cons (pv 0) (pa_cons (pv 1) (pa_cons (pv 2) (pa_cons (pe_op op_sub (pv 3) pe_int) pa_nil))))) (pa_cons (pe_call G_law_part (hr.mono (by omega)) rfl D_law_part.m D_law_part.F.kp D_law_part.b .nil pass0 (pa_cons (pv 0) (pa_cons (pv 1) (pa_cons (pv 2) (pa_cons (pe_op op_sub (pv 3) pe_int) pa_nil))))) pa_nil))))
    (pss_one (ps_ret (pe_tup (pa_cons pe_str (pa_cons (pe_tup (pa_cons pe_str (pa_cons (pe_ix ix_list (pe_lst (pa_cons pe_str (pa_cons pe_str (pa_cons pe_str (pa_cons pe_str (pa_cons pe_str pa_nil)))))) (pe_call G_law_take (hr.mono (by omega)) rfl D_law_take.m D_law_take.F.kp D_law_take.b .nil pass0 (pa_cons (pv 0) (pa_cons pe_int pa_nil))) (fun _ _ => rfl)) pa_nil))) (pa_cons (pv 6) pa_nil))))))) pss_nil)
    (C8.pss_cut (ps_if (pt_cmpR op_lt (pv 4) pe_int (nomark _)) (pss_cons (ps_setLc (i := 6) (own := [("_law_k", 9)]) (g := gName 9) (tt := tYes) rfl nd rfl rfl (sw_true rfl rfl rfl (by decide +kernel)) (pi_range1 rfl T.range (pa_cons pe_int pa_nil)) (blkOk_by (own := [("_law_k", 9)]) (N := N__law_part) (sc := defScope s__law_part) (by decide +kernel)) (fun _ _ _ _ _ => (pg_name (i := 9) nd rfl (Or.inl rfl))) (fun _ _ _ _ _ => pts_nil) (fun _ _ _ _ _ => (pe_call G_law_part (hr.mono (by omega)) rfl D_law_part.m D_law_part.F.kp D_law_part.b .nil pass0 (pa_cons (pv 0) (pa_cons (pv 1) (pa_cons (pv 2) (pa_cons (pe_op op_sub (pv 3) pe_int) pa_nil)))))))
    (pss_one (ps_ret (pe_tup (pa_cons pe_str (pa_cons (pe_ix ix_list (pv 6) pe_int (fun _ _ => rfl)) (pa_cons (pe_ix ix_list (pv 6) pe_int (fun _ _ => rfl)) (pa_cons (pe_ix ix_list (pv 6) pe_int (fun _ _ => rfl)) pa_nil)))))))) pss_nil)
    (C8.pss_cut (ps_if (pt_cmpR op_lt (pv 4) pe_int (nomark _)) (pss_one (ps_ret (pe_call G_law_let (hr.mono (by omega)) rfl D_law_let.m D_law_let.F.kp D_law_let.b .nil pass0 (pa_cons (pv 0) (pa_cons (pv 1) (pa_cons (pv 2) (pa_cons (pv 3) pa_nil))))))) pss_nil)
    (C8.pss_cut (ps_if (pt_cmpR op_lt (pv 4) pe_int (nomark _)) (pss_cons (ps_set (i := 7) nd rfl (Or.inl rfl) (pe_ix ix_list (pe_lst (pa_cons (pe_call G_law_take (hr.mono (by omega)) rfl D_law_take.m D_law_take.F.kp D_law_take.b .nil pass0 (pa_cons (pv 0) (pa_cons pe_int pa_nil))) (pa_cons (pe_call G_law_take (hr.mono (by omega)) rfl D_law_take.m D_law_take.F.kp D_law_take.b .nil pass0 (pa_cons (pv 0) (pa_cons pe_int pa_nil))) pa_nil))) (pe_call G_law_take (hr.mono (by omega)) rfl D_law_take.m D_law_take.F.kp D_law_take.b .nil pass0 (pa_cons (pv 0) (pa_cons pe_int pa_nil))) (fun _ _ => rfl)))
    (pss_cons (ps_set (i := 8) nd rfl (Or.inl rfl) (pe_call G_law_function (hr.mono (by omega)) rfl D_law_function.m D_law_function.F.kp D_law_function.b .nil pass0 (pa_cons (pv 0) (pa_cons (pv 1) (pa_cons (pv 2) (pa_cons (pe_op op_sub (pv 3) pe_int) (pa_cons (pv 7) pa_nil)))))))
    (pss_one (ps_ret (pe_tup (pa_cons pe_str (pa_cons (pv 8) (pa_cons (pe_callTy call_tuple_of (by rfl) T.tuple (by decide +kernel) (pa_cons (pe_lc (own := [("_law_k", 9)]) (g := gName 9) (tt := tYes) rfl nd (pi_range1 rfl T.range (pa_cons (pv 7) pa_nil)) (blkOk_by (own := [("_law_k", 9)]) (N := N__law_part) (sc := defScope s__law_part) (by decide +kernel)) (fun _ _ _ _ _ => (pg_name (i := 9) nd rfl (Or.inl rfl))) (fun _ _ _ _ _ => pts_nil) (fun _ _ _ _ _ => (pe_call G_law_part (hr.mono (by omega)) rfl D_law_part.m D_law_part.F.kp D_law_part.b .nil pass0 (pa_cons (pv 0) (pa_cons (pv 1) (pa_cons (pv 2) (pa_cons (pe_op op_sub (pv 3) pe_int) pa_nil))))))) pa_nil)) pa_nil)))))))) pss_nil)
    (C8.pss_cut (ps_if (pt_cmpR op_eq (pv 4) pe_int (nomark _)) (pss_cons (ps_set (i := 6) nd rfl (Or.inl rfl) (pe_tup (pa_cons (pe_call G_law_part (hr.mono (by omega)) rfl D_law_part.m D_law_part.F.kp D_law_part.b .nil pass0 (pa_cons (pv 0) (pa_cons (pv 1) (pa_cons (pv 2) (pa_cons (pe_op op_sub (pv 3) pe_int) pa_nil))))) (pa_cons (pe_call G_law_part (hr.mono (by omega)) rfl D_law_part.m D_law_part.F.kp D_law_part.b .nil pass0 (pa_cons (pv 0) (pa_cons (pv 1) (pa_cons (pv 2) (pa_cons (pe_op op_sub (pv 3) pe_int) pa_nil))))) pa_nil))))
    (pss_one (ps_ret (pe_tup (pa_cons pe_str (pa_cons (pe_tup (pa_cons pe_str (pa_cons (pe_ix ix_list (pe_lst (pa_cons pe_str (pa_cons pe_str pa_nil))) (pe_call G_law_take (hr.mono (by omega)) rfl D_law_take.m D_law_take.F.kp D_law_take.b .nil pass0 (pa_cons (pv 0) (pa_cons pe_int pa_nil))) (fun _ _ => rfl)) pa_nil))) (pa_cons (pe_tup (pa_cons (pe_tup (pa_cons pe_str (pa_cons (pe_tup (pa_cons pe_str (pa_cons pe_str pa_nil))) (pa_cons (pv 6) pa_nil)))) pa_nil)) pa_nil))))))) pss_nil)
    (pss_one (ps_ret (pe_call G_law_strange (hr.mono (by omega)) rfl D_law_strange.m D_law_strange.F.kp D_law_strange.b .nil pass0 (pa_cons (pv 0) (pa_cons (pv 1) (pa_cons (pv 2) (pa_cons (pv 3) pa_nil))))))))))))))), ?_⟩
  refine ⟨_, rfl, p, q, 14, F, rfl, by decide, by decide, S, fun d H1 d0 d1 S1 G1 => ?_⟩
  refine ⟨_, rfl, _, rfl, kn, -1, ks, F, rfl, S1.fh, kna, by omega, fun u H2 ns G2' hu2 eu lu mu => ?_⟩
  have G2a : Gr [p, q] F H1 F H2 := G2'.mono fun _ z => nomatch z
  have S2 := S1.gr G2a (by
    obtain ⟨npq, t, cs, h1, h2, hp, hq⟩ := S1.st
    exact ⟨npq, t, cs, h1, h2, G2'.keep p _ (fun z => nomatch z) hp, G2'.keep q _ (fun z => nomatch z) hq⟩)
  have G2 : Gr [p, q] F H F H2 := G1.trans G2a
  have nu : u ∉ [p, q] := S1.neN hu2
  generalize hσ : ([some (.ref p), some (.ref kn), some (.ref wd), some (.int r), some (.int d), some (.ref u), none, none, none, none] : L2.St) = σ0
  -- a part within
  have part_ : ∀ {F' H' : Hp} {Q' : VK}, Dst p q F' H' → Gr [p, q] F H F' H' → 1 ≤ r → (∀ v c F3 H3, Dst p q F3 H3 → Gr [p, q] F H F3 H3 → Gr [p, q] F' H' F3 H3 → CoreAt F3 (fun n => n ∈ ks) v c → Q' v H3) →
      spPart n [.ref p, .ref kn, .ref wd, .int (r - 1)] H' Q' E0 := fun {F' H' Q'} S' G' hr1 kk =>
    ⟨p, q, kn, wd, r - 1, ks, F', rfl, by omega, by omega, S', kna.same G'.ff, by omega, wa.same G'.ff, fun v c F3 H3 S3 G3 h1 _ => kk v c F3 H3 S3 (G'.trans G3) G3 h1⟩
  have call : ∀ {F' H' : Hp} {a b : Addr} {f : MM.Core} {ps : List MM.Core} {x : V} {ws : List V}, Dst p q F' H' → Gr [p, q] F H F' H' → F' b = some (.tup ws) → ws.length ≤ 10 → f.atom → CoreAt F' (fun n => n ∈ ks) x f → PtsAt F' (fun n => n ∈ ks) ws ps → H' a = none →
      Q (.ref a) (upd H' a (.tup [.str "call", x, .ref b])) := fun {F' H' a b f ps x ws} S' G' hb hl hf hx hp ha => by
    have sm := same_upd (S'.fh.free ha) (.tup [.str "call", x, .ref b])
    exact k _ (.call f ps) _ _ (S'.newF ha _) (G'.new ha _) (.mkCall upd_same (sm _ _ hb) hl hf (hx.same sm) (hp.same sm)) True.intro
  -- a leaf
  refine ⟨fun σ' H' => σ' = σ0 ∧ H2 = H' ∧ 2 ≤ r, ?_, ?_⟩
  · have leaf : ∀ (c : Bool), spSmall [.ref p] H2 Q E0 := fun _ => ⟨p, q, F, rfl, S2, (fun n => n ∈ ks), fun v c F3 H3 S3 G3 hc _ => k v c F3 H3 S3 (G2.trans G3) hc True.intro⟩
    have both : ∀ H3 : Hp, Dst p q F H3 → Gr [p, q] F H F H3 → spSmall [.ref p] H3 Q E0 := fun H3 S3 G3 => ⟨p, q, F, rfl, S3, (fun n => n ∈ ks), fun v c F3 H4 S4 G4 hc _ => k v c F3 H4 S4 (G3.trans G4) hc True.intro⟩
    -- what is done behind the test
    have go : ∃ e, ([some (.ref p), some (.ref kn), some (.ref wd), some (.int r), some (.int d), some (.ref u), none, none, none, none] : L2.St)[5]? = some (some e) ∧ 0 ≤ sizeLine ∧ ∀ l, H2 l = none → ∃ d' e', Dp K (upd H2 l (.lst [])) e d' ∧ Dp K (upd H2 l (.lst [])) (.ref l) e' ∧ SeqAt.shaped d' = true ∧ SeqAt.shaped e' = true ∧ (!PyData.eqv d' e') = !ns.isEmpty := by
      refine ⟨_, rfl, sz0, fun l hl => ⟨_, _, .lst (SqL.of (by rw [upd_ne (ne_of_none eu hl)]; exact eu)) (dpAll_ints ns), .lst (SqL.of upd_same) .nil, shaped_ints ns, by decide, eqv_nil _ _⟩⟩
    refine ⟨_, rfl, _, _, rfl, rfl, _, rfl, ite2 (fun _ => ?_) (fun c1 => ⟨_, rfl, _, _, rfl, rfl, _, rfl, ite2 (fun _ => ?_) (fun _ => ⟨hσ, rfl, by have := of_decide_eq_false (Bool.eq_false_iff.mpr c1); omega⟩)⟩)⟩
    all_goals
      obtain ⟨e, he, z, go⟩ := go
      refine ⟨e, he, z, fun l hl => ?_⟩
      obtain ⟨d', e', h1, h2, h3, h4, h5⟩ := go l hl
      refine ⟨d', e', h1, h2, h3, h4, _, rfl, ?_⟩
      rw [h5]
      have S3 := S2.newL hl (.lst [])
      have G3 := G2.loc hl (.lst [])
      cases ns with
      | nil => exact ⟨_, rfl, both _ S3 G3⟩
      | cons x xs =>
        refine ⟨_, rfl, p, q, 3, F, rfl, by decide, by decide, S3, fun e2 H4 e20 e21 S4 G4 => ⟨_, _, rfl, rfl, _, rfl, ?_⟩⟩
        refine ite2 (fun _ => ?_) (fun _ => ⟨_, rfl, both _ S4 (G3.trans G4)⟩)
        have eu4 : H4 u = some (.lst ((x :: xs).map V.int)) := G4.keep u _ nu (by rw [upd_ne (ne_of_none eu hl)]; exact eu)
        refine ⟨_, rfl, _, rfl, _, rfl, u, _, rfl, .inl (SqL.of eu4), p, q, _, F, rfl, ?_, ?_, S4, fun e H5 e0 e1 S5 G5 => ?_⟩
        · rw [List.length_map, List.length_cons]; omega
        · rw [List.length_map]; omega
        · rw [List.length_map] at e1
          have eu5 : H5 u = some (.lst ((x :: xs).map V.int)) := G5.keep u _ nu eu4
          obtain ⟨j, rfl⟩ := Int.eq_ofNat_of_zero_le e0
          have hj : j < (x :: xs).length := by omega
          refine ⟨u, _, _, .int (x :: xs)[j], rfl, rfl, SqL.of eu5, atI_nat (by rw [List.getElem?_map, List.getElem?_eq_getElem hj] <;> rfl), sz2, fun t ht => ?_⟩
          exact k _ (.loc (x :: xs)[j]) _ _ (S5.newF ht _) (((G3.trans G4).trans G5).new ht _) (.loc upd_same (mu _ (List.getElem_mem hj))) True.intro
  rintro σ' H' ⟨rfl, rfl, r2⟩
  subst hσ
  -- reckoning
  refine ⟨fun σ' H' => σ' = [some (.ref p), some (.ref kn), some (.ref wd), some (.int r), some (.int d), some (.ref u), none, none, none, none] ∧ H2 = H', ?_, ?_⟩
  · refine ⟨_, rfl, _, _, rfl, rfl, _, rfl, ite2 (fun _ => ?_) (fun _ => ⟨rfl, rfl⟩)⟩
    refine ⟨_, rfl, _, rfl, _, rfl, _, rfl, _, _, rfl, rfl, part_ S2 G2 (by omega) fun v1 c1 F3 H3 S3 G3 _ hc1 => ?_⟩
    refine ⟨_, rfl, _, rfl, _, rfl, _, rfl, _, _, rfl, rfl, part_ S3 G3 (by omega) fun v2 c2 F4 H4 S4 G4 G4' hc2 => ⟨sz2, fun tb htb => ?_⟩⟩
    refine ⟨sz5, fun l hl => ?_⟩
    have S5 := (S4.newF htb (.tup [v1, v2])).newL hl (.lst [.str "+", .str "-", .str "*", .str "<", .str "="])
    have G5 := (G4.new htb (.tup [v1, v2])).loc hl (.lst [.str "+", .str "-", .str "*", .str "<", .str "="])
    refine ⟨_, rfl, p, q, 5, _, rfl, by decide, by decide, S5, fun e H6 e0 e1 S6 G6 => ?_⟩
    have el : H6 l = some (.lst [.str "+", .str "-", .str "*", .str "<", .str "="]) := G6.keep l _ ((S4.newF htb _).neN hl) upd_same
    have fin : ∀ (pr : MM.Pr) (t1 : Addr), H6 t1 = none → ∀ t2, upd H6 t1 (.tup [.str "prim", .str (pstr pr)]) t2 = none → Q (.ref t2) (upd (upd H6 t1 (.tup [.str "prim", .str (pstr pr)])) t2 (.tup [.str "call", .ref t1, .ref tb])) := fun pr t1 h1 t2 h2 => by
      have sm1 := same_upd (S4.fh.free htb) (.tup [v1, v2])
      have sm2 := same_upd (S6.fh.free h1) (.tup [.str "prim", .str (pstr pr)])
      exact call (S6.newF h1 _) ((G5.trans G6).new h1 _) (sm2 _ _ upd_same) (by show 2 ≤ 10; decide) (f := .prim pr) True.intro (.prim upd_same) (.cons (((hc1.same G4'.ff).same sm1).same sm2) (.cons ((hc2.same sm1).same sm2) .nil)) h2
    have five : e = 0 ∨ e = 1 ∨ e = 2 ∨ e = 3 ∨ e = 4 := by omega
    rcases five with rfl | rfl | rfl | rfl | rfl
    · exact ⟨l, _, 0, _, rfl, rfl, SqL.of el, rfl, sz2, fun t1 h1 => ⟨_, rfl, sz3, fin .add t1 h1⟩⟩
    · exact ⟨l, _, 1, _, rfl, rfl, SqL.of el, rfl, sz2, fun t1 h1 => ⟨_, rfl, sz3, fin .sub t1 h1⟩⟩
    · exact ⟨l, _, 2, _, rfl, rfl, SqL.of el, rfl, sz2, fun t1 h1 => ⟨_, rfl, sz3, fin .mul t1 h1⟩⟩
    · exact ⟨l, _, 3, _, rfl, rfl, SqL.of el, rfl, sz2, fun t1 h1 => ⟨_, rfl, sz3, fin .lt t1 h1⟩⟩
    · exact ⟨l, _, 4, _, rfl, rfl, SqL.of el, rfl, sz2, fun t1 h1 => ⟨_, rfl, sz3, fin .eq t1 h1⟩⟩
  rintro σ' H' ⟨rfl, rfl⟩
  -- if
  refine ⟨fun σ' H' => σ' = [some (.ref p), some (.ref kn), some (.ref wd), some (.int r), some (.int d), some (.ref u), none, none, none, none] ∧ H2 = H', ?_, ?_⟩
  · refine ⟨_, rfl, _, _, rfl, rfl, _, rfl, ite2 (fun _ => ?_) (fun _ => ⟨rfl, rfl⟩)⟩
    refine ⟨3, rfl, by decide, by decide, fun y hy => ?_⟩
    have y0 : H y = none := G2.back hy
    have ny : y ∉ [p, q] := S2.neN hy
    refine lc_range (lo := 0) (n := 3) (fun i H' => ∃ (F' : Hp) (ws : List V) (ps : List MM.Core), Gr [p, q] F H F' H' ∧ Dst p q F' H' ∧ F' y = none ∧ H' y = some (.lst ws) ∧ PtsAt F' (fun n => n ∈ ks) ws ps ∧ ws.length = i) ⟨F, [], [], G2.loc hy _, S2.newL hy _, S2.fh.free hy, upd_same, .nil, rfl⟩ ?_ ?_
    · rintro i H' hi ⟨F', ws, ps, G', S', yf, ey, hp, lw⟩
      refine ⟨rfl, _, rfl, _, rfl, _, rfl, _, rfl, _, _, rfl, rfl, part_ S' G' (by omega) fun v c F3 H3 S3 G3 G3' hc => ?_⟩
      obtain ⟨ey3, yf3⟩ := G3'.own ey yf ny
      refine ⟨ws, ey3, small1000 (by omega), F3, ws ++ [v], ps ++ [c], G3.put yf3 (.inr y0) _, S3.putL ny yf3 _, yf3, upd_same, (hp.same G3'.ff).snoc hc, by rw [List.length_append, List.length_singleton, lw]⟩
    · rintro H' ⟨F', ws, ps, G', S', yf, ey, hp, lw⟩
      obtain ⟨w1, w2, w3, rfl⟩ : ∃ a b c, ws = [a, b, c] := by
        match ws, lw with
        | [a, b, c], _ => exact ⟨a, b, c, rfl⟩
      obtain ⟨p1, p2, p3, rfl⟩ : ∃ a b c, ps = [a, b, c] := by
        have := hp.len
        match ps, this with
        | [a, b, c], _ => exact ⟨a, b, c, rfl⟩
      refine ⟨_, rfl, y, _, 0, _, rfl, rfl, SqL.of ey, rfl, _, rfl, y, _, 1, _, rfl, rfl, SqL.of ey, rfl, _, rfl, y, _, 2, _, rfl, rfl, SqL.of ey, rfl, sz4, fun t ht => ?_⟩
      have sm := same_upd (S'.fh.free ht) (.tup [.str "if", w1, w2, w3])
      exact k _ (.ite p1 p2 p3) _ _ (S'.newF ht _) (G'.new ht _) (.ite upd_same ((hp.at_ 0 _ _ rfl rfl).same sm) ((hp.at_ 1 _ _ rfl rfl).same sm) ((hp.at_ 2 _ _ rfl rfl).same sm)) True.intro
  rintro σ' H' ⟨rfl, rfl⟩
  -- let
  refine ⟨fun σ' H' => σ' = [some (.ref p), some (.ref kn), some (.ref wd), some (.int r), some (.int d), some (.ref u), none, none, none, none] ∧ H2 = H', ?_, ?_⟩
  · refine ⟨_, rfl, _, _, rfl, rfl, _, rfl, ite2 (fun _ => ?_) (fun _ => ⟨rfl, rfl⟩)⟩
    exact ⟨_, rfl, _, rfl, _, rfl, _, rfl, p, q, kn, wd, r, ks, F, rfl, r0, r2, S2, kna, kl, wa, fun v c F3 H3 S3 G3 hc _ => k v c F3 H3 S3 (G2.trans G3) hc True.intro⟩
  rintro σ' H' ⟨rfl, rfl⟩
  -- a call
  refine ⟨fun σ' H' => σ' = [some (.ref p), some (.ref kn), some (.ref wd), some (.int r), some (.int d), some (.ref u), none, none, none, none] ∧ H2 = H', ?_, ?_⟩
  · refine ⟨_, rfl, _, _, rfl, rfl, _, rfl, ite2 (fun _ => ?_) (fun _ => ⟨rfl, rfl⟩)⟩
    refine ⟨_, rfl, p, q, 3, F, rfl, by decide, by decide, S2, fun d3 H7 d30 d31 S7 G7 => ?_⟩
    refine ⟨_, rfl, p, q, 6, F, rfl, by decide, by decide, S7, fun d4 H8 d40 d41 S8 G8 => ⟨sz2, fun l2 hl2 => ?_⟩⟩
    refine ⟨_, rfl, p, q, 2, F, rfl, by decide, by decide, S8.newL hl2 _, fun e2 H9 e20 e21 S9 G9 => ?_⟩
    have el2 : H9 l2 = some (.lst [.int d3, .int d4]) := G9.keep l2 _ (S8.neN hl2) upd_same
    obtain ⟨m, hm, hat2⟩ := pick2 (p := p) (q := q) (F := F) el2 e20 e21
    have G9a : Gr [p, q] F H F H9 := ((((G2.trans G7).trans G8).loc hl2 _).trans G9)
    refine ⟨l2, _, e2, _, rfl, rfl, SqL.of el2, hat2, ?_⟩
    refine ⟨_, rfl, _, rfl, _, rfl, _, rfl, _, _, rfl, rfl, _, rfl, p, q, kn, wd, r - 1, m, ks, F, rfl, by omega, by omega, by omega, by omega, S9, kna, by omega, wa, fun vf cf F3 H3 S3 G3' hcf hat => ?_⟩
    have G3 := G9a.trans G3'
    refine ⟨_, rfl, _, rfl, m, rfl, by omega, by omega, fun y hy => ?_⟩
    have y0 : H y = none := G3.back hy
    have ny : y ∉ [p, q] := S3.neN hy
    refine lc_range (lo := 0) (n := m.toNat) (fun i H' => ∃ (F' : Hp) (ws : List V) (ps : List MM.Core), Gr [p, q] F H F' H' ∧ Same F3 F' ∧ Dst p q F' H' ∧ F' y = none ∧ H' y = some (.lst ws) ∧ PtsAt F' (fun n => n ∈ ks) ws ps ∧ ws.length = i) ⟨F3, [], [], G3.loc hy _, Same.refl F3, S3.newL hy _, S3.fh.free hy, upd_same, .nil, rfl⟩ ?_ ?_
    · rintro i H' hi ⟨F', ws, ps, G', s3, S', yf, ey, hp, lw⟩
      refine ⟨rfl, _, rfl, _, rfl, _, rfl, _, rfl, _, _, rfl, rfl, part_ S' G' (by omega) fun v c F4 H4 S4 G4 G4' hc => ?_⟩
      obtain ⟨ey3, yf3⟩ := G4'.own ey yf ny
      refine ⟨ws, ey3, small1000 (by omega), F4, ws ++ [v], ps ++ [c], G4.put yf3 (.inr y0) _, s3.trans G4'.ff, S4.putL ny yf3 _, yf3, upd_same, (hp.same G4'.ff).snoc hc, by rw [List.length_append, List.length_singleton, lw]⟩
    · rintro H' ⟨F', ws, ps, G', s3, S', yf, ey, hp, lw⟩
      refine ⟨y, ws, rfl, .inl ⟨SqL.of ey, fun tb htb => ⟨sz3, fun t ht => ?_⟩⟩⟩
      have sm := same_upd (S'.fh.free htb) (.tup ws)
      exact call (S'.newF htb _) (G'.new htb _) upd_same (by omega) hat ((hcf.same s3).same sm) (hp.same sm) ht
  rintro σ' H' ⟨rfl, rfl⟩
  -- a pair and one of its sides
  refine ⟨fun σ' H' => σ' = [some (.ref p), some (.ref kn), some (.ref wd), some (.int r), some (.int d), some (.ref u), none, none, none, none] ∧ H2 = H', ?_, ?_⟩
  · refine ⟨_, rfl, rfl, _, rfl, ite2 (fun _ => ?_) (fun _ => ⟨rfl, rfl⟩)⟩
    refine ⟨_, rfl, _, rfl, _, rfl, _, rfl, _, _, rfl, rfl, part_ S2 G2 (by omega) fun v1 c1 F3 H3 S3 G3 _ hc1 => ?_⟩
    refine ⟨_, rfl, _, rfl, _, rfl, _, rfl, _, _, rfl, rfl, part_ S3 G3 (by omega) fun v2 c2 F4 H4 S4 G4 G4' hc2 => ⟨sz2, fun tb htb => ?_⟩⟩
    refine ⟨sz2, fun l hl => ?_⟩
    have S5 := (S4.newF htb (.tup [v1, v2])).newL hl (.lst [.str "first", .str "second"])
    have G5 := (G4.new htb (.tup [v1, v2])).loc hl (.lst [.str "first", .str "second"])
    refine ⟨_, rfl, p, q, 2, _, rfl, by decide, by decide, S5, fun e H6 e0 e1 S6 G6 => ?_⟩
    have el : H6 l = some (.lst [.str "first", .str "second"]) := G6.keep l _ ((S4.newF htb _).neN hl) upd_same
    have fin : ∀ (pr : MM.Pr) (t1 : Addr), H6 t1 = none → ∀ t2, upd H6 t1 (.tup [.str "prim", .str (pstr pr)]) t2 = none → ∀ t3, upd (upd H6 t1 (.tup [.str "prim", .str (pstr pr)])) t2 (.tup [.str "prim", .str "pair"]) t3 = none →
        ∀ t4, upd (upd (upd H6 t1 (.tup [.str "prim", .str (pstr pr)])) t2 (.tup [.str "prim", .str "pair"])) t3 (.tup [.str "call", .ref t2, .ref tb]) t4 = none →
        ∀ t5, upd (upd (upd (upd H6 t1 (.tup [.str "prim", .str (pstr pr)])) t2 (.tup [.str "prim", .str "pair"])) t3 (.tup [.str "call", .ref t2, .ref tb])) t4 (.tup [.ref t3]) t5 = none →
        Q (.ref t5) (upd (upd (upd (upd (upd H6 t1 (.tup [.str "prim", .str (pstr pr)])) t2 (.tup [.str "prim", .str "pair"])) t3 (.tup [.str "call", .ref t2, .ref tb])) t4 (.tup [.ref t3])) t5 (.tup [.str "call", .ref t1, .ref t4])) := fun pr t1 h1 t2 h2 t3 h3 t4 h4 t5 h5 => by
      have sm1 := same_upd (S4.fh.free htb) (.tup [v1, v2])
      have S7 := S6.newF h1 (.tup [.str "prim", .str (pstr pr)])
      have m1 := same_upd (S6.fh.free h1) (.tup [.str "prim", .str (pstr pr)])
      have S8 := S7.newF h2 (.tup [.str "prim", .str "pair"])
      have m2 := same_upd (S7.fh.free h2) (.tup [.str "prim", .str "pair"])
      have S9 := S8.newF h3 (.tup [.str "call", .ref t2, .ref tb])
      have m3 := same_upd (S8.fh.free h3) (.tup [.str "call", .ref t2, .ref tb])
      have S10 := S9.newF h4 (.tup [.ref t3])
      have m4 := same_upd (S9.fh.free h4) (.tup [.ref t3])
      have mm := m1.trans (m2.trans m3)
      have inner : CoreAt (upd (upd (upd (upd F4 tb (.tup [v1, v2])) t1 (.tup [.str "prim", .str (pstr pr)])) t2 (.tup [.str "prim", .str "pair"])) t3 (.tup [.str "call", .ref t2, .ref tb])) (fun n => n ∈ ks) (.ref t3) (.call (.prim .pair) [c1, c2]) :=
        .mkCall upd_same (mm _ _ upd_same) (by show 2 ≤ 10; decide) True.intro (.prim (p := .pair) (m3 _ _ upd_same)) (.cons (((hc1.same G4'.ff).same sm1).same mm) (.cons ((hc2.same sm1).same mm) .nil))
      exact call S10 (((((G5.trans G6).new h1 _).new h2 _).new h3 _).new h4 _) upd_same (by show 1 ≤ 10; decide) (f := .prim pr) True.intro (.prim (m4 _ _ (m3 _ _ (m2 _ _ upd_same)))) (.cons (inner.same m4) .nil) h5
    have two : e = 0 ∨ e = 1 := by omega
    rcases two with rfl | rfl
    · exact ⟨l, _, 0, _, rfl, rfl, SqL.of el, rfl, sz2, fun t1 h1 => ⟨sz2, fun t2 h2 => ⟨_, rfl, sz3, fun t3 h3 => ⟨sz1, fun t4 h4 => ⟨sz3, fin .first t1 h1 t2 h2 t3 h3 t4 h4⟩⟩⟩⟩⟩
    · exact ⟨l, _, 1, _, rfl, rfl, SqL.of el, rfl, sz2, fun t1 h1 => ⟨sz2, fun t2 h2 => ⟨_, rfl, sz3, fun t3 h3 => ⟨sz1, fun t4 h4 => ⟨sz3, fin .second t1 h1 t2 h2 t3 h3 t4 h4⟩⟩⟩⟩⟩
  rintro σ' H' ⟨rfl, rfl⟩
  exact ⟨_, rfl, _, rfl, _, rfl, _, rfl, p, q, kn, wd, r, ks, F, rfl, r0, r2, S2, kna, kl, wa, fun v c F3 H3 S3 G3 hc _ => k v c F3 H3 S3 (G2.trans G3) hc True.intro⟩
end
end AF
/-! ## B10 -/
namespace AF
open PySem L2
section
variable {P : Program} {w : World} {K : PySem.W.Frag} {mg : Str → Option Value} {base : Heap}
/-! ### all that is drawn -/
theorem draw (T : Txt K mg) (D_law_take : Df K mg "_law_take" s__law_take p__law_take) (G_law_take : FnOk P w K mg base CX0 2 D_law_take.f D_law_take.fd p__law_take spTake)
    (D_law_locals : Df K mg "_law_locals" s__law_locals p__law_locals) (D_law_numbers : Df K mg "_law_numbers" s__law_numbers p__law_numbers) (D_law_small : Df K mg "_law_small" s__law_small p__law_small)
    (D_law_part : Df K mg "_law_part" s__law_part p__law_part) (D_law_function : Df K mg "_law_function" s__law_function p__law_function) (D_law_let : Df K mg "_law_let" s__law_let p__law_let)
    (D_law_strange : Df K mg "_law_strange" s__law_strange p__law_strange) : ∀ n : Nat, FnOk P w K mg base CX0 (4 * n + 4) D_law_part.f D_law_part.fd p__law_part (spPart n) ∧ FnOk P w K mg base CX0 (4 * n + 4) D_law_function.f D_law_function.fd p__law_function (spFun n)
  | 0 => ⟨never fun _ _ _ _ => spPart_zero, never fun _ _ _ _ => spFun_zero⟩
  | n + 1 => by
    obtain ⟨gp, gf⟩ := draw T D_law_take G_law_take D_law_locals D_law_numbers D_law_small D_law_part D_law_function D_law_let D_law_strange n
    have gl := ok_locals (P := P) (w := w) (base := base) D_law_locals T
    have gn := ok_numbers (P := P) (w := w) (base := base) D_law_numbers T D_law_take G_law_take
    have gs := ok_small (P := P) (w := w) (base := base) D_law_small T D_law_take G_law_take
    have g1 := ok_function D_law_function T D_law_take G_law_take D_law_locals gl D_law_numbers gn D_law_part gp
    have g2 := ok_strange D_law_strange T D_law_take G_law_take D_law_small gs D_law_function gf
    have g3 := ok_let D_law_let T D_law_take G_law_take D_law_numbers gn D_law_part gp D_law_function gf
    exact ⟨ok_part D_law_part T D_law_take G_law_take D_law_locals gl D_law_small gs gp D_law_function gf D_law_let g3 D_law_strange g2, g1.mono (by omega)⟩
/-! ### _law_program -/
def spPartAny : Sp := fun vs H Q E => ∃ n, n ≤ 7 ∧ spPart n vs H Q E
theorem any_part {f : Addr} {fd : FuncData} {ps : List Str} (h : ∀ n, FnOk P w K mg base CX0 (4 * n + 4) f fd ps (spPart n)) : FnOk P w K mg base CX0 32 f fd ps spPartAny :=
  ⟨fun vs H Q E ⟨n, _, z⟩ => (h n).len vs H Q E z, fun A outer s H args us vs Q E hr he hb hv ⟨n, hn, z⟩ => (h n).run A outer s H args us vs Q E (hr.mono (by omega)) he hb hv z⟩
theorem val_mem : ∀ (zs : List (Str × Int)) {y : Str}, y ∈ zs.map (·.1) → ∃ i : Int, i ∈ zs.map (·.2) ∧ valV (zs.map fun p => ((Sum.inr p.1 : Key), V.int p.2)) (Sum.inr y) = some (.int i)
  | [], _, h => nomatch h
  | z :: r, y, h => by
    by_cases e : z.1 = y
    · exact ⟨z.2, List.mem_cons_self, by rw [List.map_cons]; exact valV_pos (p := ((Sum.inr z.1 : Key), V.int z.2)) (by rw [← e])⟩
    · obtain ⟨i, hm, hi⟩ := val_mem r ((List.mem_cons.mp h).resolve_left fun q => e q.symm)
      exact ⟨i, List.mem_cons_of_mem _ hm, by rw [List.map_cons, valV_neg (p := ((Sum.inr z.1 : Key), V.int z.2)) fun q => e (Sum.inr.inj q)]; exact hi⟩
theorem zip_snd : ∀ (l : List Str) (m : List Int) (x : Int), x ∈ (l.zip m).map (·.2) → x ∈ m
  | [], _, _, h => by simp at h
  | _ :: _, [], _, h => by simp at h
  | a :: l, b :: m, x, h => by
    rw [List.zip_cons_cons, List.map_cons] at h
    rcases List.mem_cons.mp h with z | z
    · exact List.mem_cons.mpr (.inl z)
    · exact List.mem_cons_of_mem _ (zip_snd l m x z)
def DefsAt (F : Hp) (dl : Addr) (ds : MM.Defs) : Prop := ∃ ts : List Addr, F dl = some (.lst (ts.map V.ref)) ∧ ts.length = ds.length ∧ ∀ (j : Nat) (t : Addr) (d : MM.G × MM.Core), ts[j]? = some t → ds[j]? = some d →
  ∃ v, F t = some (.tup [.str (mstr d.1.mo), .str (nstr d.1.na), v]) ∧ CoreAt F (fun _ => False) v d.2
theorem DefsAt.same {F F' : Hp} {a : Addr} {ds : MM.Defs} (s : Same F F') (h : DefsAt F a ds) : DefsAt F' a ds := by
  obtain ⟨ts, h1, h2, h3⟩ := h
  exact ⟨ts, s _ _ h1, h2, fun j t d e1 e2 => let ⟨v, q1, q2⟩ := h3 j t d e1 e2; ⟨v, s _ _ q1, q2.same s⟩⟩
def spProgram : Sp := fun vs H Q _ => ∃ (p q : Addr) (F : Hp), vs = [.ref p] ∧ Dst p q F H ∧
  ∀ (t dl : Addr) (v : V) (ds : MM.Defs) (c : MM.Core) (F' H' : Hp), Same F' H' → DefsAt F' dl ds → ds.length ≤ 4 → CoreAt F' (fun _ => False) v c → F' t = some (.tup [.ref dl, v]) → Q (.ref t) H'
theorem wkvs_put : ∀ (is : List Int) (x : Int) (y : Str), is.length < 4 → gnames[is.length]? = some y → putK (wkvs is) (Sum.inr y) (V.int x) = wkvs (is ++ [x]) := by
  intro is x y hl hy
  have e : valV (wkvs is) (Sum.inr y) = none := by
    cases q : valV (wkvs is) (Sum.inr y) with
    | none => rfl
    | some v =>
      have m := valV_in q
      rw [wkeys is (by omega)] at m
      obtain ⟨z, hz, ez⟩ := List.mem_map.mp m
      have := Sum.inr.inj ez
      subst this
      have no : ∀ k, k < 4 → ∀ y, gnames[k]? = some y → y ∉ gnames.take k := by
        intro k hk y hy
        have four : k = 0 ∨ k = 1 ∨ k = 2 ∨ k = 3 := by omega
        rcases four with rfl | rfl | rfl | rfl
        · cases (Option.some.inj hy); decide +kernel
        · cases (Option.some.inj hy); decide +kernel
        · cases (Option.some.inj hy); decide +kernel
        · cases (Option.some.inj hy); decide +kernel
      exact absurd hz (no _ hl _ hy)
  rw [putK_new _ e]
  match is, hl with
  | [], _ => cases (Option.some.inj hy); rfl
  | [a], _ => cases (Option.some.inj hy); rfl
  | [a, b], _ => cases (Option.some.inj hy); rfl
  | [a, b, c], _ => cases (Option.some.inj hy); rfl
theorem kn_nil {F : Hp} {a : Addr} (h : F a = some (.lst [])) : KnAt F a [] := ⟨[], h, rfl, fun i t z => by simp at z⟩
theorem ok_program (D : Df K mg "_law_program" s__law_program p__law_program) (T : Txt K mg) (D_law_take : Df K mg "_law_take" s__law_take p__law_take) (G_law_take : FnOk P w K mg base CX0 2 D_law_take.f D_law_take.fd p__law_take spTake)
    (D_law_part : Df K mg "_law_part" s__law_part p__law_part) (G_law_part : FnOk P w K mg base CX0 32 D_law_part.f D_law_part.fd p__law_part spPartAny)
    (D_law_function : Df K mg "_law_function" s__law_function p__law_function) (G_law_function : FnOk P w K mg base CX0 28 D_law_function.f D_law_function.fd p__law_function (spFun 6)) : FnOk P w K mg base CX0 33 D.f D.fd p__law_program spProgram := by
  refine D.F.ok sc__law_program (fun vs H Q E h => ?_) (fun cdv A outer s H vs Q E hr h => ?_)
  · obtain ⟨p, q, F, rfl, _⟩ := h
    rfl
  obtain ⟨p, q, F, rfl, S, k⟩ := h
  have nd := sc__law_program.nd
  have hu := hu_of hr
  refine ⟨_, (pss_cons (ps_set (i := 1) nd rfl (Or.inl rfl) pe_dnewK)
    (pss_cons (ps_set (i := 2) nd rfl (Or.inl rfl) (pe_slice sl_list (pe_lst (pa_cons pe_str (pa_cons pe_str (pa_cons pe_str (pa_cons pe_str pa_nil))))) po_none (po_some (pe_call G_law_take (hr.mono (by omega)) rfl D_law_take.m D_law_take.F.kp D_law_take.b .nil pass0 (pa_cons (pv 0) (pa_cons pe_int pa_nil))))))
    (C8.pss_cut (ps_for PassesOwn.never rfl (pi_list (pv 2)) (pg_name (i := 3) nd rfl (Or.inl rfl))
    (pss_one (ps_dput hu (pv 1) (pv 3) (pe_op op_sub (pe_call G_law_take (hr.mono (by omega)) rfl D_law_take.m D_law_take.F.kp D_law_take.b .nil pass0 (pa_cons (pv 0) (pa_cons pe_int pa_nil))) pe_int) rfl)))
    (pss_cons (ps_set (i := 4) nd rfl (Or.inl rfl) (pe_lst pa_nil))
    (C8.pss_cut (ps_for PassesOwn.never rfl (pi_list (pv 2)) (pg_name (i := 3) nd rfl (Or.inl rfl))
    (pss_cons (ps_asg (pe_split (pv 3) pe_str) (pg_unl rfl (pgs_cons (pg_name (i := 5) nd rfl (Or.inl rfl)) (pgs_cons (pg_name (i := 6) nd rfl (Or.inl rfl)) pgs_nil))))
    (pss_one (ps_if (pt_cmpR op_lt (pe_dget hu (pv 1) (pv 3) (fun _ _ => rfl)) pe_int (nomark _)) (pss_one (ps_expr (pe_bm PySem.F.plainAttrs_list PySem.F.slot_list_append PySem.F.type_list_append mt_append (pv 4) (pa_cons (pe_tup (pa_cons (pv 5) (pa_cons (pv 6) (pa_cons (pe_call G_law_part (hr.mono (by omega)) rfl D_law_part.m D_law_part.F.kp D_law_part.b .nil pass0 (pa_cons (pv 0) (pa_cons (pe_lst pa_nil) (pa_cons (pv 1) (pa_cons pe_int pa_nil))))) pa_nil)))) pa_nil)))) (pss_one (ps_expr (pe_bm PySem.F.plainAttrs_list PySem.F.slot_list_append PySem.F.type_list_append mt_append (pv 4) (pa_cons (pe_tup (pa_cons (pv 5) (pa_cons (pv 6) (pa_cons (pe_call G_law_function (hr.mono (by omega)) rfl D_law_function.m D_law_function.F.kp D_law_function.b .nil pass0 (pa_cons (pv 0) (pa_cons (pe_lst pa_nil) (pa_cons (pv 1) (pa_cons pe_int (pa_cons (pe_dget hu (pv 1) (pv 3) (fun _ _ => rfl)) pa_nil)))))) pa_nil)))) pa_nil))))))))
    (pss_one (ps_ret (pe_tup (pa_cons (pv 4) (pa_cons (pe_call G_law_part (hr.mono (by omega)) rfl D_law_part.m D_law_part.F.kp D_law_part.b .nil pass0 (pa_cons (pv 0) (pa_cons (pe_lst pa_nil) (pa_cons (pv 1) (pa_cons pe_int pa_nil))))) pa_nil)))))))))), ?_⟩
  intro wd hwd
  have S1 := S.newL hwd (.dK [])
  have G1 : Gr [p, q] F H F (upd H wd (.dK [])) := (Gr.refl S.fh).loc hwd _
  refine ⟨sz4, fun l0 hl0 => ?_⟩
  have S2 := S1.newL hl0 (.lst (gnames.map V.str))
  have G2 := G1.loc hl0 (.lst (gnames.map V.str))
  refine ⟨_, rfl, p, q, 5, F, rfl, by decide, by decide, S2, fun d H3 d0 d1 S3 G3' => ?_⟩
  have G3 := G2.trans G3'
  have el0 : H3 l0 = some (.lst (gnames.map V.str)) := G3'.keep l0 _ (S1.neN hl0) upd_same
  have nwl : wd ≠ l0 := (upd_none hl0).2.symm
  have wf : F wd = none := S.fh.free hwd
  have nw : wd ∉ [p, q] := S.neN hwd
  have ew3 : H3 wd = some (.dK []) := G3'.keep wd _ nw (by rw [upd_ne nwl, upd_same])
  refine ⟨d, rfl, l0, _, rfl, SqL.of el0, fun nl hnl => ?_⟩
  have ecut : cutV (gnames.map V.str) none (some d) = (gnames.take d.toNat).map V.str := by
    obtain ⟨j, rfl⟩ := Int.eq_ofNat_of_zero_le d0
    have five : j = 0 ∨ j = 1 ∨ j = 2 ∨ j = 3 ∨ j = 4 := by omega
    rcases five with rfl | rfl | rfl | rfl | rfl <;> rfl
  rw [ecut]
  generalize hk : d.toNat = kk
  have hk4 : kk ≤ 4 := by omega
  have lk : (gnames.take kk).length = kk := by
    rw [List.length_take]
    show min kk 4 = kk
    omega
  have S4 := S3.newL hnl (.lst ((gnames.take kk).map V.str))
  have G4 := G3.loc hnl (.lst ((gnames.take kk).map V.str))
  have nlf : F nl = none := S3.fh.free hnl
  have nn : nl ∉ [p, q] := S3.neN hnl
  have nnw : wd ≠ nl := ne_of_none ew3 hnl
  refine ⟨fun σ' H' => ∃ (v : Option V) (is : List Int), σ' = [some (.ref p), some (.ref wd), some (.ref nl), v, none, none, none] ∧ Gr [p, q] F H F H' ∧ Dst p q F H' ∧ H' wd = some (.dK (wkvs is)) ∧ is.length = kk ∧ H' nl = some (.lst ((gnames.take kk).map V.str)) ∧ ∀ x ∈ is, -1 ≤ x ∧ x ≤ 4, ?_, ?_⟩
  · refine ⟨_, rfl, nl, rfl, ⟨_, SqL.of upd_same⟩, for_list (K := K) (a := nl) (xs := (gnames.take kk).map V.str) (fun i σ' H' => ∃ (v : Option V) (is : List Int), σ' = [some (.ref p), some (.ref wd), some (.ref nl), v, none, none, none] ∧ Gr [p, q] F H F H' ∧ Dst p q F H' ∧ H' wd = some (.dK (wkvs is)) ∧ is.length = i ∧ H' nl = some (.lst ((gnames.take kk).map V.str)) ∧ ∀ x ∈ is, -1 ≤ x ∧ x ≤ 4)
      ⟨none, [], rfl, G4, S4, by rw [upd_ne nnw]; exact ew3, rfl, upd_same, fun _ z => nomatch z⟩ (fun i σ H' _ ⟨_, _, _, _, _, _, _, z, _⟩ => SqL.of z) ?_ ?_⟩
    · rintro i z σ' H' hz ⟨v, is, rfl, G', S', ew, li, en, bd⟩
      obtain ⟨y, hy, rfl⟩ : ∃ y, (gnames.take kk)[i]? = some y ∧ V.str y = z := by
        rw [List.getElem?_map] at hz
        exact Option.map_eq_some_iff.mp hz
      have hi : i < kk := by
        have := (List.getElem?_eq_some_iff.mp hy).1
        omega
      rw [List.getElem?_take_of_lt hi] at hy
      refine ⟨_, rfl, p, q, 6, F, rfl, by decide, by decide, S', fun e H5 e0 e1 S5 G5 => ⟨_, _, rfl, rfl, ?_⟩⟩
      have ew5 : H5 wd = some (.dK (wkvs is)) := G5.keep wd _ nw ew
      have en5 : H5 nl = some (.lst ((gnames.take kk).map V.str)) := G5.keep nl _ nn en
      refine ⟨_, rfl, _, rfl, wd, _, rfl, DPut.k (k := Sum.inr y) ew5 ?_, ?_⟩
      · unfold wkvs
        rw [List.length_map, List.length_zip]
        exact small1000 (by omega)
      · rw [wkvs_put is (e - 1) y (by omega) (by rw [li]; exact hy)]
        refine ⟨_, is ++ [e - 1], rfl, (G'.trans G5).put wf (.inr hwd) _, S5.putL nw wf _, upd_same, by rw [List.length_append, List.length_singleton, li], by rw [upd_ne nnw.symm]; exact en5, fun x hx => ?_⟩
        rcases List.mem_append.mp hx with z | z
        · exact bd x z
        · rw [List.mem_singleton.mp z]; omega
    · rintro σ' H' ⟨v, is, h1, h2, h3, h4, h5, h6⟩
      rw [List.length_map, lk] at h5
      exact ⟨v, is, h1, h2, h3, h4, h5, h6⟩
  rintro σ' H5 ⟨v, is, rfl, G5a, S5a, ew, li, en, bd⟩
  -- the world changes no more
  have S5 := S5a.frz ew nw
  have G5 := G5a.freeze ew wf hwd
  have wat : WorldAt (upd F wd (.dK (wkvs is))) wd := ⟨is, by omega, upd_same⟩
  have nlf5 : upd F wd (.dK (wkvs is)) nl = none := by rw [upd_ne nnw.symm]; exact nlf
  refine ⟨sz0, fun dl hdl => ?_⟩
  have ndl : dl ∉ [p, q] := S5.neN hdl
  have dl0 : H dl = none := G5.back hdl
  have nldl : nl ≠ dl := ne_of_none en hdl
  generalize hW : (fun (i : Nat) (σ' : L2.St) (H' : Hp) => ∃ (v3 v5 v6 : Option V) (F' : Hp) (ts : List Addr) (ds : MM.Defs), σ' = [some (.ref p), some (.ref wd), some (.ref nl), v3, some (.ref dl), v5, v6] ∧ Gr [p, q] F H F' H' ∧ Dst p q F' H' ∧ F' wd = some (.dK (wkvs is)) ∧ H' nl = some (.lst ((gnames.take kk).map V.str)) ∧ F' nl = none ∧
      H' dl = some (.lst (ts.map V.ref)) ∧ F' dl = none ∧ ts.length = i ∧ ds.length = i ∧ ∀ (j : Nat) (t : Addr) (d : MM.G × MM.Core), ts[j]? = some t → ds[j]? = some d → ∃ v, F' t = some (.tup [.str (mstr d.1.mo), .str (nstr d.1.na), v]) ∧ CoreAt F' (fun _ => False) v d.2) = W
  refine ⟨W kk, ⟨_, rfl, nl, rfl, ⟨_, SqL.of (by rw [upd_ne nldl]; exact en)⟩, for_list (K := K) (a := nl) (xs := (gnames.take kk).map V.str) W ?_ (fun i σ H' _ z => ?_) ?_ ?_⟩, ?_⟩
  · rw [← hW]
    exact ⟨_, _, _, _, [], [], rfl, G5.loc hdl _, S5.newL hdl _, upd_same, by rw [upd_ne nldl]; exact en, nlf5, upd_same, S5.fh.free hdl, rfl, rfl, fun j t d z => by simp at z⟩
  · rw [← hW] at z
    obtain ⟨_, _, _, _, _, _, _, _, _, _, z, _⟩ := z
    exact SqL.of z
  · rintro i z σ' H' hz hWi
    rw [← hW] at hWi
    obtain ⟨v3, v5, v6, F', ts, ds, rfl, G', S', ew', en', nf', ed', df', lt, ld, ht⟩ := hWi
    obtain ⟨y, hy, rfl⟩ : ∃ y, (gnames.take kk)[i]? = some y ∧ V.str y = z := by
      rw [List.getElem?_map] at hz
      exact Option.map_eq_some_iff.mp hz
    have hi : i < 4 := by
      have := (List.getElem?_eq_some_iff.mp hy).1
      omega
    have hyk : y ∈ gnames.take kk := List.mem_of_getElem? hy
    have hym : y ∈ gnames := List.mem_of_mem_take hyk
    obtain ⟨g, hg⟩ := names_cut y hym
    refine ⟨_, rfl, ⟨_, rfl⟩, _, _, rfl, rfl, by decide, names_len y hym, fun t1 ht1 => ?_⟩
    rw [hg]
    refine ⟨t1, _, rfl, SqL.of upd_same, rfl, _, _, rfl, _, _, rfl, rfl, ?_⟩
    have S6 := S'.newL ht1 (.lst [.str (mstr g.mo), .str (nstr g.na)])
    have G6 := G'.loc ht1 (.lst [.str (mstr g.mo), .str (nstr g.na)])
    have ed6 : upd H' t1 (.lst [.str (mstr g.mo), .str (nstr g.na)]) dl = some (.lst (ts.map V.ref)) := by rw [upd_ne (ne_of_none ed' ht1)]; exact ed'
    have en6 : upd H' t1 (.lst [.str (mstr g.mo), .str (nstr g.na)]) nl = some (.lst ((gnames.take kk).map V.str)) := by rw [upd_ne (ne_of_none en' ht1)]; exact en'
    obtain ⟨x, hx, hv⟩ := val_mem (gnames.zip is) (y := y) (by rw [zip_fst, li]; exact hyk)
    have bx := bd x (zip_snd _ _ _ hx)
    have dg : ∀ {H3 : Hp}, H3 wd = some (.dK (wkvs is)) → DGet H3 wd (V.str y) (some (.int x)) := fun {H3} e => by
      have q := DGet.k (k := Sum.inr y) e
      rw [show valV (wkvs is) (Sum.inr y) = some (.int x) from hv] at q
      exact q
    -- the tuple appended
    have fin : ∀ (vv : V) (cc : MM.Core) (F3 H3 : Hp) (t : Addr) (v5 v6 : Option V), Dst p q F3 H3 → Gr [p, q] F' (upd H' t1 (.lst [.str (mstr g.mo), .str (nstr g.na)])) F3 H3 → CoreAt F3 (fun _ => False) vv cc → H3 t = none →
        H3 dl = some (.lst (ts.map V.ref)) ∧ dl ≠ t ∧ ∀ (w6 w5 w3 : V), W (i + 1) [some (.ref p), some (.ref wd), some (.ref nl), some w3, some (.ref dl), some w5, some w6] (upd (upd H3 t (.tup [.str (mstr g.mo), .str (nstr g.na), vv])) dl (.lst (ts.map V.ref ++ [V.ref t]))) := fun vv cc F3 H3 t v5 v6 S3 G3 hc ht3 => by
      obtain ⟨ed3, df3⟩ := G3.own ed6 df' ndl
      obtain ⟨en3, nf3⟩ := G3.own en6 nf' nn
      have n1 := ne_of_none ed3 ht3
      have n2 := ne_of_none en3 ht3
      refine ⟨ed3, n1, fun w6 w5 w3 => ?_⟩
      have sm := same_upd (S3.fh.free ht3) (.tup [.str (mstr g.mo), .str (nstr g.na), vv])
      have df4 : upd F3 t (.tup [.str (mstr g.mo), .str (nstr g.na), vv]) dl = none := by rw [upd_ne n1]; exact df3
      rw [← hW]
      refine ⟨_, _, _, upd F3 t (.tup [.str (mstr g.mo), .str (nstr g.na), vv]), ts ++ [t], ds ++ [(g, cc)], rfl, ((G6.trans G3).new ht3 _).put df4 (.inr dl0) _, (S3.newF ht3 _).putL ndl df4 _, sm _ _ (G3.mem ew'), ?_, ?_, ?_, df4, ?_, ?_, fun j t' d e1 e2 => ?_⟩
      · rw [upd_ne nldl, upd_ne n2]; exact en3
      · rw [upd_ne n2]; exact nf3
      · rw [upd_same, List.map_append] <;> rfl
      · rw [List.length_append, List.length_singleton, lt]
      · rw [List.length_append, List.length_singleton, ld]
      · rcases snoc_at e1 with ⟨j1, e1⟩ | ⟨j1, rfl⟩
        · rcases snoc_at e2 with ⟨_, e2⟩ | ⟨j2, _⟩
          · obtain ⟨v', q1, q2⟩ := ht j t' d e1 e2
            exact ⟨v', sm _ _ (G3.mem q1), (q2.same G3.ff).same sm⟩
          · omega
        · rcases snoc_at e2 with ⟨j2, _⟩ | ⟨_, rfl⟩
          · omega
          · exact ⟨vv, upd_same, hc.same sm⟩
    refine ⟨_, rfl, _, rfl, wd, _, rfl, dg (G6.up ew'), _, _, rfl, rfl, _, rfl, ite2 (fun _ => ?_) (fun hx0 => ?_)⟩
    · refine ⟨_, rfl, .inl ⟨rfl, _, SqL.of ed6⟩, _, rfl, _, rfl, _, rfl, sz0, fun kn hkn => ?_⟩
      have n1 := ne_of_none ed6 hkn
      have S7 := S6.newF hkn (.lst [])
      refine ⟨_, rfl, 4, by decide, p, q, kn, wd, 3, [], _, rfl, by decide, by decide, S7, kn_nil upd_same, by decide, ⟨is, by omega, by rw [upd_ne (ne_of_none (S6.fh _ _ ew') hkn)]; exact ew'⟩, fun vv cc F3 H3 S3 G3 hc _ => ⟨sz3, fun t ht3 => ?_⟩⟩
      obtain ⟨e3, n3, fw⟩ := fin vv cc F3 H3 t none none S3 (((Gr.refl S6.fh).new hkn (.lst [])).trans G3) (hc.mono fun n hn => (nomatch hn)) ht3
      exact ⟨dl, _, _, rfl, rfl, by rw [upd_ne n3]; exact e3, by rw [List.length_map]; exact small1000 (by omega), fw _ _ _⟩
    · have hx0' : ¬ (x < 0) := of_decide_eq_false (Bool.eq_false_iff.mpr hx0)
      refine ⟨_, rfl, .inl ⟨rfl, _, SqL.of ed6⟩, _, rfl, _, rfl, _, rfl, sz0, fun kn hkn => ?_⟩
      have S7 := S6.newF hkn (.lst [])
      have ew7 : upd F' kn (.lst []) wd = some (.dK (wkvs is)) := by rw [upd_ne (ne_of_none (S6.fh _ _ ew') hkn)]; exact ew'
      refine ⟨_, rfl, _, rfl, _, rfl, wd, _, rfl, dg (S7.fh _ _ ew7), p, q, kn, wd, 5, x, [], _, rfl, by decide, by decide, by omega, by omega, S7, kn_nil upd_same, by decide, ⟨is, by omega, ew7⟩, fun vv cc F3 H3 S3 G3 hc _ => ⟨sz3, fun t ht3 => ?_⟩⟩
      obtain ⟨e3, n3, fw⟩ := fin vv cc F3 H3 t none none S3 (((Gr.refl S6.fh).new hkn (.lst [])).trans G3) (hc.mono fun n hn => (nomatch hn)) ht3
      exact ⟨dl, _, _, rfl, rfl, by rw [upd_ne n3]; exact e3, by rw [List.length_map]; exact small1000 (by omega), fw _ _ _⟩
  · intro σ' H' z
    rw [List.length_map, lk] at z
    exact z
  rintro σ' H' hWn
  rw [← hW] at hWn
  obtain ⟨v3, v5, v6, F', ts, ds, rfl, G', S', ew', en', nf', ed', df', lt, ld, ht⟩ := hWn
  refine ⟨_, rfl, _, rfl, sz0, fun kn hkn => ?_⟩
  have n1 := ne_of_none ed' hkn
  have S7 := S'.newF hkn (.lst [])
  have G7 := G'.new hkn (.lst [])
  refine ⟨_, rfl, 7, by decide, p, q, kn, wd, 6, [], _, rfl, by decide, by decide, S7, kn_nil upd_same, by decide, ⟨is, by omega, by rw [upd_ne (ne_of_none (S'.fh _ _ ew') hkn)]; exact ew'⟩, fun vv cc F3 H3 S3 G3 hc _ => ⟨sz2, fun t ht3 => ?_⟩⟩
  obtain ⟨ed3, df3⟩ := G3.own (o := .lst (ts.map V.ref)) (by rw [upd_ne n1]; exact ed') (by rw [upd_ne n1]; exact df') ndl
  have n2 := ne_of_none ed3 ht3
  have S8 := (S3.newF ht3 (.tup [.ref dl, vv])).frz (a := dl) (o := .lst (ts.map V.ref)) (by rw [upd_ne n2]; exact ed3) ndl
  have sm : Same F3 (upd (upd F3 t (.tup [.ref dl, vv])) dl (.lst (ts.map V.ref))) := (same_upd (S3.fh.free ht3) _).trans (same_upd (by rw [upd_ne n2]; exact df3) _)
  have s0 : Same F' F3 := (same_upd (S'.fh.free hkn) _).trans G3.ff
  refine k t dl vv ds cc _ _ S8.fh ⟨ts, upd_same, by omega, fun j t' d e1 e2 => ?_⟩ (by omega) ((hc.same sm).mono fun n hn => (nomatch hn)) (by rw [upd_ne n2.symm, upd_same])
  obtain ⟨v', q1, q2⟩ := ht j t' d e1 e2
  exact ⟨v', sm _ _ (s0 _ _ q1), (q2.same s0).same sm⟩
end
end AF
/-! ## E1 -/
namespace AF.Eq0
open PySem PySem.Spec PyProof.Rows PySem.SeqAt L2
/-! ### a tuple, an instance, a number == a number -/
theorem int_inst (b : Int) (u : Tok) (x C dx : Addr) : Meets (Builtin.«int.__eq__» ⟨[.int b u, .ref x], []⟩) (fun _ R s => s.heap.get? x = some (PySem.W.instObj C dx) ∧ R (.ok (.ret .notImplemented)) s) := .of_wp fun prog w A R s h => by
  obtain ⟨hp, g, d, tk, os⟩ := s; obtain ⟨hl, h⟩ := h; wp_walk using wpAny_load hl
  exact ⟨_, rfl, h⟩
section
variable {M : Model} {prog : Program} {w : World} {A : Around} {E : Value → Shared → Prop} {s : Shared} {K : PySem.W.Frag} {x C dx : Addr} {od : Option Obj} {b : Int} {u : Tok}
theorem same_ {R : Bool → Shared → Prop} (h : R false s) : wpAny M A (isSame (.ref x) (.int b u)) R E s := wpAny_of_eq (rfl : isSame (.ref x) (.int b u) = pure false) h
theorem entry_ {Q : Fin → Shared → Prop} (hq : Q (.done (.ret .notImplemented)) s) : wpAny M A (Builtin.«object.__eq__» ⟨[.ref x, .int b u], []⟩) Q E s := by
  unfold Builtin.«object.__eq__»; repeat (first | with_reducible refine same_ ?_ | wp_step)
  exact hq
theorem call_ {Q : Value → Shared → Prop} (X : K.In s.heap) (I : PySem.W.InstAt s.heap x (PySem.W.instObj C dx) C od) (hm : PySem.W.mroIn K C (.type "object") = some true) (hq : Q .notImplemented s) : wpAny (model prog w) A (call (.builtin "object.__eq__") [.ref x, .int b u]) Q E s :=
  wpAny_call (codeAny_call_builtin F.cmp_object.eq.plain F.cmpEntry_eq (PySem.W.check_slot F.cmpKind_eq F.cmpSplit_eq (I.type.andThen (PySem.W.looks_mroIn X hm)) (F.cmpArgs_eq _ _) (entry_ hq)))
theorem sub_ : PySem.W.subIn K (.type "int") (.ref C) = some false := by
  have e : fastBuiltinMro "int" = some [.type "int", .type "object"] := by decide +kernel
  show (fastBuiltinMro "int").map (fun l => l.contains (.ref C)) = some false
  rw [e]; first | rfl | simp
theorem rc_ (hu : A.units < cLine) (X : K.In s.heap) (I : PySem.W.InstAt s.heap x (PySem.W.instObj C dx) C od) (hx : s.heap.get? x = some (PySem.W.instObj C dx)) (hm : PySem.W.mroIn K C (.type "object") = some true) (hs : PySem.W.findIn K (.ref C) "__eq__" = some (some (.builtin "object.__eq__"))) :
    RcAt A s (.ref x) (.int b u) false := fun prog w E Q h => by
  have one : wpAny (model prog w) A (tryCompare (.ref x) "__eq__" (.int b u)) (fun r s' => r = none ∧ s' = s) E s := by
    unfold tryCompare
    exact wpAny_bind (HN.ifBound_objEq X I hs (call_ X I hm (wpAny_pure ⟨rfl, rfl⟩)))
  have two : wpAny (model prog w) A (tryCompare (.int b u) "__eq__" (.ref x)) (fun r s' => r = none ∧ s' = s) E s :=
    wpAny_tryCompare_declines (typeIs_int s b u) F.slot_int_eq_refl (call_meets F.slot_int_eq_refl (typeIs_int s b u) F.entry_int_eq (F.args_int_eq_2 _ _) (int_inst b u x C dx) ⟨hx, ⟨rfl, rfl, rfl⟩⟩)
  simp only [richCompare, cmpInfo_Eq, oneThing_ref]
  refine wpAny_holding (wpAny_bind (wpAny_cRoomFor hu (wpAny_bind (I.type.here (wpAny_bind (wpAny_typeOf (typeIs_int s b u) ?_))))))
  split
  · refine wpAny_bind ((PySem.W.looks_subIn X sub_).here ?_)
    simp only [Bool.false_eq_true, if_false, Bool.not_false, if_true]
    refine wpAny_bind (m := tryCompare (.ref x) _ (.int b u)) (wpAny_mono one (fun r s1 ⟨z1, z2⟩ => ?_) fun _ _ e => e)
    subst z1 z2
    refine wpAny_bind (m := tryCompare (.int b u) _ (.ref x)) (wpAny_mono two (fun r s2 ⟨z1, z2⟩ => ?_) fun _ _ e => e)
    subst z1 z2
    exact wpAny_bind (wpAny_rule (wpAny_bind (same_ (wpAny_pure h))))
  · rename_i q
    exact absurd (by simp) q
end
end AF.Eq0
namespace AF
open PySem L2
/-- x == 0 for a number, a tuple, an instance -/
def rEqZ (K : PySem.W.Frag) : R2 := fun x y H Q => ∃ j, y = .int j ∧ ((∃ i, x = .int i ∧ Q (.bl (decide (i = j))) H) ∨ (∃ a xs, x = .ref a ∧ H a = some (.tup xs) ∧ Q (.bl false) H) ∨ (∃ a C dx fs, x = .ref a ∧ H a = some (.ins C dx fs) ∧ ClsF K C ∧ Q (.bl false) H))
theorem op_eqZ {X : Cx} (hu : X.A.units < cLine) : OpR X (compareOp .Eq) (rEqZ X.K) := by
  intro pins s σ H x y v u Q I rx ry h
  obtain ⟨j, rfl, h⟩ := h
  obtain ⟨t, rfl⟩ := ry
  rcases h with ⟨i, rfl, q⟩ | ⟨a, xs, rfl, ha, q⟩ | ⟨a, C, dx, fs, rfl, ha, c, q⟩
  · obtain ⟨t', rfl⟩ := rx
    exact PyProof.Rows.eq_int ⟨.bl _, H, I, by rw [Bool.beq_eq_decide_eq]; rfl, q⟩
  · obtain rfl : v = Value.ref a := rx
    obtain ⟨its, r1, p1, _⟩ := I.tuple (SqT.of ha)
    exact SeqAt.RcAt.tuple_int j t p1 hu X.prog X.w _ _ ⟨.bl false, H, I, rfl, q⟩
  · obtain rfl : v = Value.ref a := rx
    obtain ⟨mA, O, _⟩ := ins_get I.hok ha
    obtain ⟨od, J, _⟩ := O.look
    have hx : s.heap.get? a = some (PySem.W.instObj C dx) := (I.hok a _ ha).2.2.2.1
    exact Eq0.rc_ hu I.kIn J hx c.cm c.ce X.prog X.w _ _ ⟨.bl false, H, I, rfl, q⟩
/-- two lists of the same objects -/
def rNeSame : R2 := fun x y H Q => ∃ (a b : Addr) (xs : List Addr), x = .ref a ∧ y = .ref b ∧ H a = some (.lst (xs.map V.ref)) ∧ H b = some (.lst (xs.map V.ref)) ∧ Q (.bl false) H
theorem op_neSame {X : Cx} (hu : X.A.units < cLine) : OpR X (compareOp .NotEq) rNeSame := by
  intro pins s σ H x y v u Q I rx ry h
  obtain ⟨a, b, xs, rfl, rfl, ha, hb, q⟩ := h
  obtain rfl : v = Value.ref a := rx
  obtain rfl : u = Value.ref b := ry
  obtain ⟨us, r1, p1, _⟩ := I.list (SqL.of ha)
  obtain ⟨ws, r2, p2, _⟩ := I.list (SqL.of hb)
  rw [refs_at r1] at p1
  rw [refs_at r2] at p2
  refine SeqAt.RcNeAt.lists (e := fun _ => true) p1.isList p2.isList rfl hu (fun j h1 h2 => SeqAt.EqAt.same _) X.prog X.w _ _ ?_
  rw [show ((List.range (xs.map Value.ref).toArray.size).all fun _ => true) = true from List.all_eq_true.mpr fun _ _ => rfl]
  exact ⟨.bl false, H, I, rfl, q⟩
end AF
/-! ## E2 -/
namespace AF
open PySem L2
/-- t == (text,) for a tuple that begins with a text -/
def rEqS : R2 := fun x y H Q => ∃ (a b : Addr) (u v : Str) (r : List V), x = .ref a ∧ y = .ref b ∧ H a = some (.tup (.str u :: r)) ∧ H b = some (.tup [.str v]) ∧ ((u = v ∧ r = [] ∧ Q (.bl true) H) ∨ (¬ u = v ∧ Q (.bl false) H))
theorem op_eqS {X : Cx} (hu : X.A.units < cLine) : OpR X (compareOp .Eq) rEqS := by
  intro pins s σ H x y v' u' Q I rx ry h
  obtain ⟨a, b, u, v, r, rfl, rfl, ha, hb, h⟩ := h
  obtain rfl : v' = Value.ref a := rx
  obtain rfl : u' = Value.ref b := ry
  obtain ⟨is, r1, p1, _⟩ := I.tuple (SqT.of ha)
  obtain ⟨js, r2, p2, _⟩ := I.tuple (SqT.of hb)
  cases r1 with
  | cons q1 q2 =>
    cases r2 with
    | cons q3 q4 =>
      cases q4
      obtain ⟨t1, rfl⟩ := q1
      obtain ⟨t2, rfl⟩ := q3
      refine SeqAt.RcAt.tuples (e := fun _ => (u == v)) p1 p2 hu (fun j h1 h2 => ?_) X.prog X.w _ _ ?_
      · have e0 : j = 0 := by simp at h2; exact h2
        subst e0
        exact SeqAt.EqAt.str_str u t1 v t2
      · rcases h with ⟨rfl, rfl, q⟩ | ⟨n, q⟩
        · cases q2
          refine ⟨.bl true, H, I, ?_, q⟩
          show _ = _
          simp
        · refine ⟨.bl false, H, I, ?_, q⟩
          show _ = _
          have : (u == v) = false := beq_eq_false_iff_ne.mpr n
          simp [this, List.range_succ]
end AF
/-! ## R6 -/
namespace AF
open PySem L2
/-! ### the law's evaluator: its world, its outcomes -/
def estr : MM.Er → Str
  | .early => "early"
  | .kind => "kind"
  | .count => "count"
  | .size => "size"
def wl (L : Nat) (tb : Addr) (dp : Int) : List (Key × V) := [(Sum.inr "left", .int L), (Sum.inr "table", .ref tb), (Sum.inr "deepest", .int dp)]
theorem wl_left (L : Nat) (tb : Addr) (dp : Int) : valV (wl L tb dp) (Sum.inr "left") = some (.int L) := valV_pos rfl
theorem key_ne {a b : Str} (h : ¬ a = b) : ¬ (Sum.inr a : Key) = Sum.inr b := fun q => h (Sum.inr.inj q)
theorem wl_table (L : Nat) (tb : Addr) (dp : Int) : valV (wl L tb dp) (Sum.inr "table") = some (.ref tb) := by
  unfold wl
  rw [valV_neg (key_ne (by decide +kernel)), valV_pos rfl]
theorem wl_deepest (L : Nat) (tb : Addr) (dp : Int) : valV (wl L tb dp) (Sum.inr "deepest") = some (.int dp) := by
  unfold wl
  rw [valV_neg (key_ne (by decide +kernel)), valV_neg (key_ne (by decide +kernel)), valV_pos rfl]
theorem wl_putL (L : Nat) (tb : Addr) (dp : Int) (M : Nat) : putK (wl L tb dp) (Sum.inr "left") (.int M) = wl M tb dp := by
  unfold putK
  rw [valV_any, wl_left, Option.isSome_some, if_pos rfl]
  unfold wl
  rw [List.map_cons, if_pos rfl, List.map_cons, if_neg (key_ne (by decide +kernel)), List.map_cons, if_neg (key_ne (by decide +kernel))] <;> rfl
theorem wl_putD (L : Nat) (tb : Addr) (dp : Int) (e : Int) : putK (wl L tb dp) (Sum.inr "deepest") (.int e) = wl L tb e := by
  unfold putK
  rw [valV_any, wl_deepest, Option.isSome_some, if_pos rfl]
  unfold wl
  rw [List.map_cons, if_neg (key_ne (by decide +kernel)), List.map_cons, if_neg (key_ne (by decide +kernel)), List.map_cons, if_pos rfl] <;> rfl
theorem wl_len (L : Nat) (tb : Addr) (dp : Int) : (wl L tb dp).length < sizeLine := by show 3 < sizeLine; decide
/-- the key of a definition in the law's table -/
def gkey (g : MM.G) : Str := mstr g.mo ++ "." ++ nstr g.na
def TabL (F : Hp) (kvs : List (Key × V)) (gs : MM.Gs) : Prop := ∀ g : MM.G, (valV kvs (Sum.inr (gkey g))).isSome = (gs g).isSome ∧ ∀ u x, valV kvs (Sum.inr (gkey g)) = some u → gs g = some x → RepL F u x
theorem TabL.same {F F' : Hp} {kvs : List (Key × V)} {gs : MM.Gs} (s : Same F F') (h : TabL F kvs gs) : TabL F' kvs gs := fun g => ⟨(h g).1, fun u x e1 e2 => ((h g).2 u x e1 e2).same s⟩
/-- the state of the evaluator -/
structure Ws (wd tb : Addr) (L : Nat) (gs : MM.Gs) (F H : Hp) : Prop where
  fh : Same F H
  wf : F wd = none
  hw : ∃ dp, H wd = some (.dK (wl L tb dp))
  ne : tb ≠ wd
  ht : ∃ kvs, H tb = some (.dK kvs) ∧ TabL F kvs gs
/-- behind a step -/
theorem Ws.step {wd tb : Addr} {L L' : Nat} {gs : MM.Gs} {F H F' H' : Hp} (S : Ws wd tb L gs F H) (G : Gr [wd] F H F' H') (h : ∃ dp, H' wd = some (.dK (wl L' tb dp))) : Ws wd tb L' gs F' H' := by
  obtain ⟨dp, hw⟩ := S.hw
  obtain ⟨kvs, h1, h2⟩ := S.ht
  exact ⟨G.fh, G.fresh wd (some_ne hw) S.wf, h, S.ne, kvs, G.keep tb _ (fun z => S.ne (List.mem_singleton.mp z)) h1, h2.same G.ff⟩
/-- a new object, frozen or not -/
theorem Ws.newF {wd tb : Addr} {L : Nat} {gs : MM.Gs} {F H : Hp} (S : Ws wd tb L gs F H) {a : Addr} (h : H a = none) (o : HO) : Ws wd tb L gs (upd F a o) (upd H a o) := by
  obtain ⟨dp, hw⟩ := S.hw
  exact S.step ((Gr.refl S.fh).new h o) ⟨dp, by rw [upd_ne (ne_of_none hw h)]; exact hw⟩
theorem Ws.newL {wd tb : Addr} {L : Nat} {gs : MM.Gs} {F H : Hp} (S : Ws wd tb L gs F H) {a : Addr} (h : H a = none) (o : HO) : Ws wd tb L gs F (upd H a o) := by
  obtain ⟨dp, hw⟩ := S.hw
  exact S.step ((Gr.refl S.fh).loc h o) ⟨dp, by rw [upd_ne (ne_of_none hw h)]; exact hw⟩
theorem Ws.neN {wd tb : Addr} {L : Nat} {gs : MM.Gs} {F H : Hp} (S : Ws wd tb L gs F H) {a : Addr} (h : H a = none) : a ∉ [wd] := fun m => by
  obtain ⟨dp, hw⟩ := S.hw
  rw [List.mem_singleton.mp m, hw] at h; cases h
theorem Ws.neF {wd tb : Addr} {L : Nat} {gs : MM.Gs} {F H : Hp} (S : Ws wd tb L gs F H) {a : Addr} {o : HO} (h : F a = some o) : a ≠ wd := fun e => by rw [e, S.wf] at h; cases h
/-- an object of one's own written -/
theorem Ws.putL {wd tb : Addr} {L : Nat} {gs : MM.Gs} {F H : Hp} (S : Ws wd tb L gs F H) {a : Addr} (h : F a = none) (hw : a ≠ wd) (ht : a ≠ tb) (o : HO) : Ws wd tb L gs F (upd H a o) := by
  obtain ⟨dp, e⟩ := S.hw
  obtain ⟨kvs, h1, h2⟩ := S.ht
  exact ⟨fun b u z => by rw [upd_ne (ne_of_none z h)]; exact S.fh b u z, S.wf, ⟨dp, by rw [upd_ne hw.symm]; exact e⟩, S.ne, kvs, by rw [upd_ne ht.symm]; exact h1, h2⟩
theorem Ws.frz {wd tb : Addr} {L : Nat} {gs : MM.Gs} {F H : Hp} (S : Ws wd tb L gs F H) {a : Addr} {o : HO} (h : H a = some o) (hf : F a = none) (hw : a ≠ wd) : Ws wd tb L gs (upd F a o) H := by
  obtain ⟨kvs, h1, h2⟩ := S.ht
  refine ⟨fun b u z => ?_, by rw [upd_ne hw.symm]; exact S.wf, S.hw, S.ne, kvs, h1, h2.same (same_upd hf o)⟩
  by_cases e : b = a
  · subst e; rw [upd_same] at z; cases z; exact h
  · rw [upd_ne e] at z; exact S.fh b u z
inductive OutL (F : Hp) : V → MM.Out → Prop where
  | val {a : Addr} {u : V} {x : MM.Val} : F a = some (.tup [.str "value", u]) → RepL F u x → OutL F (.ref a) (.val x)
  | err {a : Addr} {w : MM.Er} : F a = some (.tup [.str "error", .str (estr w)]) → OutL F (.ref a) (.err w)
  | steps {a : Addr} : F a = some (.tup [.str "steps"]) → OutL F (.ref a) .steps
theorem OutL.same {F F' : Hp} (s : Same F F') {v : V} {o : MM.Out} (h : OutL F v o) : OutL F' v o := by
  cases h with
  | val h r => exact .val (s _ _ h) (r.same s)
  | err h => exact .err (s _ _ h)
  | steps h => exact .steps (s _ _ h)
structure RepsL (F : Hp) (us : List V) (xs : List MM.Val) : Prop where
  len : us.length = xs.length
  at_ : ∀ (i : Nat) (u : V) (x : MM.Val), us[i]? = some u → xs[i]? = some x → RepL F u x
theorem RepsL.nil {F : Hp} : RepsL F [] [] := ⟨rfl, fun _ _ _ h => by simp at h⟩
theorem RepsL.same {F F' : Hp} (s : Same F F') {us : List V} {xs : List MM.Val} (h : RepsL F us xs) : RepsL F' us xs := ⟨h.len, fun i u x e1 e2 => (h.at_ i u x e1 e2).same s⟩
theorem RepsL.snoc {F : Hp} {us : List V} {xs : List MM.Val} {u : V} {x : MM.Val} (r : RepsL F us xs) (h : RepL F u x) : RepsL F (us ++ [u]) (xs ++ [x]) := by
  refine ⟨by rw [List.length_append, List.length_append, r.len] <;> rfl, fun i v y e1 e2 => ?_⟩
  rcases snoc_at e1 with ⟨j1, e1⟩ | ⟨j1, rfl⟩
  · rcases snoc_at e2 with ⟨_, e2⟩ | ⟨j2, _⟩
    · exact r.at_ i v y e1 e2
    · have := r.len; omega
  · rcases snoc_at e2 with ⟨j2, _⟩ | ⟨_, rfl⟩
    · have := r.len; omega
    · exact h
theorem RepsL.tail {F : Hp} {u : V} {us : List V} {x : MM.Val} {xs : List MM.Val} (r : RepsL F (u :: us) (x :: xs)) : RepL F u x ∧ RepsL F us xs :=
  ⟨r.at_ 0 _ _ rfl rfl, by have := r.len; simpa using this, fun i v y e1 e2 => r.at_ (i + 1) v y (by simpa using e1) (by simpa using e2)⟩
/-! ### the promises of the evaluator's defs -/
/-- of _law_run: ok tells for which part and steps it is promised -/
def spRunP (ok : MM.Core → Nat → Prop) : Sp := fun vs H Q _ => ∃ (vc : V) (e wd tb : Addr) (dep : Int) (last : Bool) (c : MM.Core) (env : MM.Env) (L : Nat) (gs : MM.Gs) (F : Hp), vs = [vc, .ref e, .ref wd, .int dep, .bl last] ∧ ok c L ∧ Ws wd tb L gs F H ∧ EnvL F e env ∧
  CoreAt F (fun n => env.dom n = true) vc c ∧ ∀ v F' H', Gr [wd] F H F' H' → Ws wd tb (MM.ev gs c env L).2 gs F' H' → OutL F' v (MM.ev gs c env L).1 → Q v H'
def AllL (F : Hp) (t : Addr) : List MM.Val ⊕ MM.Out → Prop
  | .inl xs => ∃ vl us, F t = some (.tup [.non, .ref vl]) ∧ F vl = some (.lst us) ∧ RepsL F us xs
  | .inr o => ∃ v vl, F t = some (.tup [v, .ref vl]) ∧ OutL F v o
/-- of _law_all -/
def spAllP (tupl : Bool) (ok : MM.Core → Nat → Prop) : Sp := fun vs H Q _ => ∃ (pa e wd tb : Addr) (dep : Int) (L : Nat) (gs : MM.Gs) (env : MM.Env) (ws : List V) (cs : List MM.Core) (F : Hp), vs = [.ref pa, .ref e, .ref wd, .int dep] ∧ (∀ c r, cs = c :: r → ok c L) ∧ (∀ c L', L' < L → ok c L') ∧
  Ws wd tb L gs F H ∧ EnvL F e env ∧ PtsAt F (fun n => env.dom n = true) ws cs ∧ ws.length ≤ 20 ∧ (match tupl with | true => F pa = some (.tup ws) | false => H pa = some (.lst ws)) ∧
  ∀ t F' H', Gr [wd] F H F' H' → Ws wd tb (MM.all (MM.ev gs) env cs L).2 gs F' H' → AllL F' t (MM.all (MM.ev gs) env cs L).1 → Q (.ref t) H'
/-- of _law_call -/
def spCallP (ok : Nat → Prop) : Sp := fun vs H Q _ => ∃ (a b e wd tb : Addr) (dep : Int) (last : Bool) (u : V) (ws : List V) (f : MM.Core) (as : List MM.Core) (env : MM.Env) (L : Nat) (gs : MM.Gs) (F : Hp), vs = [.ref a, .ref e, .ref wd, .int dep, .bl last] ∧ ok L ∧ Ws wd tb L gs F H ∧ EnvL F e env ∧
  F a = some (.tup [.str "call", u, .ref b]) ∧ F b = some (.tup ws) ∧ ws.length ≤ 10 ∧ f.atom ∧ CoreAt F (fun n => env.dom n = true) u f ∧ PtsAt F (fun n => env.dom n = true) ws as ∧
  ∀ v F' H', Gr [wd] F H F' H' → Ws wd tb (MM.callr (MM.ev gs) env f as L).2 gs F' H' → OutL F' v (MM.callr (MM.ev gs) env f as L).1 → Q v H'
end AF
/-! ## Z1 -/
/-! zip(t, xs) of a tuple and a list, in a walk and in dict(zip(t, xs)) -/
namespace AF.Zm
open PySem PySem.Spec PySem.Calls PyProof.Rows L2
abbrev tupObj (a b : Value) : Obj := { cls := .type "tuple", data := .seq #[a, b] }
/-- the five objects of a new zip -/
abbrev g1 (g : Heap) (t : Addr) : Heap := g.push { cls := .type "tuple_iterator", data := .fields #[.ref t, .int 0 0] }
abbrev g2 (g : Heap) (t l : Addr) : Heap := (g1 g t).push { cls := .type "list_iterator", data := .fields #[.ref l, .int 0 0] }
abbrev g3 (g : Heap) (t l : Addr) : Heap := (g2 g t l).push (tupObj (.ref g.objs.size) (.ref (g1 g t).objs.size))
abbrev g4 (g : Heap) (t l : Addr) : Heap := (g3 g t l).push (tupObj .none .none)
abbrev g5 (g : Heap) (t l : Addr) : Heap := (g4 g t l).push { cls := .type "zip", data := .fields #[.none, .bool false, .bool false, .ref (g2 g t l).objs.size, .ref (g3 g t l).objs.size] }
theorem zip_made (t l : Addr) (xs ys : Array Value) :
    Meets (Builtin.«zip.__new__» ⟨[.type "zip", .ref t, .ref l], []⟩) (fun _ R s => s.heap.IsTuple t xs ∧ s.heap.IsList l ys ∧ R (.ok (.ret (.ref (g4 s.heap t l).objs.size))) { s with heap := g5 s.heap t l }) :=
  .of_wp fun prog w A R s k => by
    obtain ⟨g, gg, dd, tk, os⟩ := s
    obtain ⟨k1, k2, k3⟩ := k
    have isub := sub_zip
    have a1 : Heap.IsTuple (Shared.heap ⟨g, gg, dd, tk, os⟩) t xs := k1
    have a2 : Heap.IsList (Shared.heap ⟨g1 g t, gg, dd, tk, os⟩) l ys := Heap.IsList.push k2 _
    wp_walk using wpAny_pyIter_tuple a1, wpAny_pyIter_list a2
    exact ⟨_, rfl, k3⟩
section
variable {prog : Program} {w : World} {A : Around} {E : Value → Shared → Prop} {s : Shared}
theorem zip_called {t l : Addr} {xs ys : Array Value} {Q : Value → Shared → Prop} (k1 : s.heap.IsTuple t xs) (k2 : s.heap.IsList l ys)
    (k : ∀ g, IsZip g (s.heap.objs.size + 4) (s.heap.objs.size + 2) (s.heap.objs.size + 3) .none ∧ IsTupOf2 g (s.heap.objs.size + 2) (.ref s.heap.objs.size) (.ref (s.heap.objs.size + 1)) ∧ IsTupOf2 g (s.heap.objs.size + 3) .none .none ∧
      g.IsTupleIter s.heap.objs.size t 0 ∧ g.IsListIter (s.heap.objs.size + 1) l 0 ∧ (∀ c o, s.heap.get? c = some o → g.get? c = some o) → Q (.ref (s.heap.objs.size + 4)) { s with heap := g }) :
    wpAny (model prog w) A (call (.type "zip") [.ref t, .ref l]) Q E s := by
  refine callType_new F.called_zip (by decide) (F.typeCall_zip_2 _ _) (F.newCall_zip_2 _ _) (fun obj => F.args_object_init_3 obj _ _) F.entry_zip_new (zip_made t l xs ys) ⟨k1, k2, ?_⟩
  have n1 : (g1 s.heap t).objs.size = s.heap.objs.size + 1 := Heap.size_push ..
  have n2 : (g2 s.heap t l).objs.size = s.heap.objs.size + 2 := (Heap.size_push ..).trans (by rw [n1])
  have n3 : (g3 s.heap t l).objs.size = s.heap.objs.size + 3 := (Heap.size_push ..).trans (by rw [n2])
  have n4 : (g4 s.heap t l).objs.size = s.heap.objs.size + 4 := (Heap.size_push ..).trans (by rw [n3])
  have up : ∀ {g : Heap} {c : Addr} {o o' : Obj}, g.get? c = some o → (g.push o').get? c = some o := fun e => Heap.get?_push_of_some _ e
  have c1 : (g1 s.heap t).get? s.heap.objs.size = some _ := Heap.get?_push_size _ rfl
  have c2 : (g2 s.heap t l).get? (g1 s.heap t).objs.size = some _ := Heap.get?_push_size _ rfl
  have c3 : (g3 s.heap t l).get? (g2 s.heap t l).objs.size = some _ := Heap.get?_push_size _ rfl
  have c4 : (g4 s.heap t l).get? (g3 s.heap t l).objs.size = some _ := Heap.get?_push_size _ rfl
  have c5 : (g5 s.heap t l).get? (g4 s.heap t l).objs.size = some _ := Heap.get?_push_size _ rfl
  show _ ∧ _
  rw [n2, n3, n4] at c5
  rw [n3] at c4
  rw [n1, n2] at c3
  rw [n1] at c2
  rw [n4]
  exact ⟨⟨_, c5, rfl⟩, k _ ⟨c5, up (up c3), up c4, ⟨_, up (up (up (up c1))), rfl, rfl⟩, ⟨_, up (up (up c2)), rfl, rfl⟩, fun c o e => up (up (up (up (up e))))⟩⟩
end
theorem sep {z TI TO i1 i2 t l : Addr} (D : ZipApart z TI TO i1 i2 t l) : ZipSep2 z TI TO i1 i2 [i1, t] [i2, l] where
  TIz := D.TIz
  TOz := D.TOz
  TITO := D.TITO
  TIi1 := D.TIi1
  TIi2 := D.TIi2
  mem1 := by simp
  mem2 := by simp
  zf1 := by simp [D.i1z.symm, D.l1z.symm]
  zf2 := by simp [D.i2z.symm, D.l2z.symm]
  Tf1 := by simp [D.TOi1, D.l1TO.symm]
  Tf2 := by simp [D.TOi2, D.l2TO.symm]
  sep1_2 := by simp [D.i12, D.l2i1.symm]
  sep2_1 := by simp [D.i12.symm, D.l1i2.symm]
/-- the tuple at a and the list at b as they stand at each turn, their items in new pairs -/
def Itm (K : PySem.W.Frag) (a b : Addr) : It :=
  ⟨fun i H => ∃ (xs ys : List V) (x y : V), SqT K H a xs ∧ SqL K H b ys ∧ xs[i]? = some x ∧ ys[i]? = some y,
    fun i H v H' => ∃ T x y, v = .ref T ∧ H T = none ∧ H' = upd H T (.tup [x, y]) ∧ (∀ xs, SqT K H a xs → xs[i]? = some x) ∧ ∀ ys, SqL K H b ys → ys[i]? = some y,
    fun i H => ∃ xs ys : List V, SqT K H a xs ∧ SqL K H b ys ∧ xs.length = i ∧ ys.length = i⟩
theorem turn {P : Program} {w : World} {K : PySem.W.Frag} {elts : List Expr} {kk : Nat} {tpos : Pos} {a b z TI TO i1 i2 : Addr} (D : ZipApart z TI TO i1 i2 a b) :
    Turn P w K (.Tuple elts kk tpos) (Itm K a b) [z, TI, TO, i1, i2] z (fun i g => IsZip g z TI TO .none ∧ IsTupOf2 g TI (.ref i1) (.ref i2) ∧ (∃ x y, IsTupOf2 g TO x y) ∧ g.IsTupleIter i1 a i ∧ g.IsListIter i2 b i) where
  mem := by simp
  obj := fun i g st c hc => by
    obtain ⟨e1, e2, ⟨x, y, e3⟩, ⟨o1, e4, _, d1⟩, ⟨o2, e5, _, d2⟩⟩ := st
    simp only [List.mem_cons, List.not_mem_nil, or_false] at hc
    rcases hc with rfl | rfl | rfl | rfl | rfl
    · exact ⟨_, e1, fun v q => nomatch q⟩
    · exact ⟨_, e2, fun v q => nomatch q⟩
    · exact ⟨_, e3, fun v q => nomatch q⟩
    · exact ⟨o1, e4, fun v q => by rw [d1] at q; cases q⟩
    · exact ⟨o2, e5, fun v q => by rw [d2] at q; cases q⟩
  keep := fun i g g' ⟨e1, e2, ⟨x, y, e3⟩, e4, e5⟩ k => ⟨k z (by simp) _ e1, k TI (by simp) _ e2, ⟨x, y, k TO (by simp) _ e3⟩, e4.at fun o q => k i1 (by simp) o q, e5.at fun o q => k i2 (by simp) o q⟩
  item := by
    intro X hP hw hK hc i pins s σ H E I hf st hg
    subst hP hw hK
    obtain ⟨e1, e2, ⟨x0, y0, e3⟩, e4, e5⟩ := st
    obtain ⟨xs, ys, x, y, qx, qy, hx, hy⟩ := hg
    obtain ⟨us, rv, p1, _⟩ := I.tuple qx
    obtain ⟨vs, rw_, p2, _⟩ := I.list qy
    obtain ⟨u, hu, ru⟩ := rv.get hx
    obtain ⟨v, hv, rv2⟩ := rw_.get hy
    have lt : ∀ {c o}, s.heap.get? c = some o → c < s.heap.objs.size := fun e => Heap.lt_size e
    have hh : X.A.in1.handled = none := I.ok.hd hc
    refine wpAny_pyNext_zipD2_item (sep D) (Draws.tuple hh i1 a D.l1i1 us.toArray) (Draws.list hh i2 b D.l2i2 vs.toArray) e1 e2 e3 ⟨e4, p1⟩ ⟨e5, p2.isList⟩ (by simpa using (List.getElem?_eq_some_iff.mp hu).1) (by simpa using (List.getElem?_eq_some_iff.mp hv).1)
      fun u' v' g' tk y1 y2 z' TO' j1 j2 hT _ hk => ?_
    obtain rfl : u = u' := by simpa [hu] using y1
    obtain rfl : v = v' := by simpa [hv] using y2
    refine ⟨_, rfl, wpAny_letOwnedTupleGo_zip (s := { s with heap := g', toks := tk }) z' fun g'' z'' sb => ?_⟩
    have hT2 : g''.get? s.heap.objs.size = some (tupObj u v) := (sb.2 _ (Nat.ne_of_gt (lt e1))).trans hT
    have new : ObjOk X.prog X.w (upd H s.heap.objs.size (.tup [x, y])) g'' s.heap.objs.size (.tup [x, y]) := ⟨(by show 2 ≤ sizeLine; decide), [u, v], .cons ru (.cons rv2 .nil), ⟨_, hT2, rfl, _, rfl⟩⟩
    have I1 : Inv X pins σ (upd H s.heap.objs.size (.tup [x, y])) { s with heap := g'', toks := tk } :=
      I.turnedNew (t' := tk) (ch := [z, TI, TO, i1, i2]) (fun c o hb q => (sb.2 c (fun q' => hb (by simp [q']))).trans (hk c o (fun q' => hb (by simp [q'])) (fun q' => hb (by simp [q'])) (fun q' => hb (by simp [q'])) (fun q' => hb (by simp [q'])) q)) hf (Nat.le_refl _) new
    refine ⟨.ref s.heap.objs.size, _, I1, rfl, ⟨_, x, y, rfl, I.hok.fresh (Nat.le_refl _), rfl, fun l hl => by rw [I.tuple_inj hl qx]; exact hx, fun l hl => by rw [I.list_inj hl qy]; exact hy⟩, ⟨z'', (sb.2 _ D.TIz).trans (hk _ _ D.TIz D.TITO D.TIi1 D.TIi2 e2), ⟨u, v, (sb.2 _ D.TOz).trans TO'⟩, j1.1.at fun o q => (sb.2 _ D.i1z).trans q, j2.1.at fun o q => (sb.2 _ D.i2z).trans q⟩, fun c hcm => ?_⟩
    have hlt : c < s.heap.objs.size := by
      have q := hcm
      simp only [List.mem_cons, List.not_mem_nil, or_false] at q
      rcases q with rfl | rfl | rfl | rfl | rfl
      · exact lt e1
      · exact lt e2
      · exact lt e3
      · obtain ⟨_, e, _⟩ := e4; exact lt e
      · obtain ⟨_, e, _⟩ := e5; exact lt e
    rw [upd_ne (Nat.ne_of_lt hlt)]
    exact (hf c hcm).1
  done := by
    intro X hP hw hK hc i pins s σ H E I hf st hg
    subst hP hw hK
    obtain ⟨e1, e2, ⟨x0, y0, e3⟩, e4, e5⟩ := st
    obtain ⟨xs, ys, qx, qy, l1, l2⟩ := hg
    obtain ⟨us, rv, p1, _⟩ := I.tuple qx
    obtain ⟨vs, rw_, p2, _⟩ := I.list qy
    have m1 := rv.length
    have m2 := rw_.length
    have hh : X.A.in1.handled = none := I.ok.hd hc
    exact wpAny_pyNext_zipD2_end (sep D) (Draws.tuple hh i1 a D.l1i1 us.toArray) (Draws.list hh i2 b D.l2i2 vs.toArray) e1 e2 e3 ⟨e4, p1⟩ ⟨e5, p2.isList⟩ (by simp; omega) (by simp; omega) (.inl (by simp; omega)) fun g' tk hk =>
      ⟨rfl, I.turnedL (t' := tk) (ch := [z, TI, TO, i1, i2]) (fun c o hb q => hk c o (fun q' => hb (by simp [q'])) (fun q' => hb (by simp [q'])) (fun q' => hb (by simp [q'])) (fun q' => hb (by simp [q'])) q) hf⟩
  self := fun A i s Q E st h => wpAny_pyIter_zip st.1 h
def iZm (K : PySem.W.Frag) (ta : TA) : TI := fun σ H R => ta σ H fun vs H1 => ∃ a b xs ys, vs = [.ref a, .ref b] ∧ SqT K H1 a xs ∧ SqL K H1 b ys ∧ R (Itm K a b) H1
theorem pi_zm {X : Cx} {e e2 : Expr} {ta : TA} {p pos tpos : Pos} {elts : List Expr} {kk : Nat} (hg : Gl X "zip") (hm : X.mg "zip" = none) (ha : PA X [e, e2] ta)
    (hs : starEach [e, e2] X.env = (false, eval e X.env) :: starEach [e2] X.env := by rfl) (hpl : (backTo pos (starEach [e2] X.env)).any (·.1) = false := by rfl) :
    PI X (.Tuple elts kk tpos) (.Call (.Name "zip" p) [e, e2] [] pos) (iZm X.K ta) := by
  refine ⟨fun pins s σ H R I h => Call_ (ld_blt I hg hm PyProof.Rows.boot_zip (PyProof.Rows.callWith_type1 (thn (ha.run pos pins s σ H _ I h) fun us s1 ⟨vs, H1, I1, r1, q1⟩ => ?_) hs hpl))⟩
  obtain ⟨a, b, xs, ys, rfl, qx, qy, q⟩ := q1
  obtain ⟨u, v, rfl, ru, rv⟩ := vals2 r1
  cases ru
  cases rv
  obtain ⟨us, r2, p1, _⟩ := I1.tuple qx
  obtain ⟨vs, r3, p2, _⟩ := I1.list qy
  obtain ⟨o1, ho1, _⟩ := id p1
  refine zip_called p1 p2.isList fun g ⟨c1, c2, c3, c4, c5, hk⟩ => wpAny_pyIter_zip c1 ?_
  have I2 : Inv X pins σ H1 { s1 with heap := g } := I1.kept (t' := s1.toks) hk
  refine ⟨s1.heap.objs.size + 4, [s1.heap.objs.size + 4, s1.heap.objs.size + 2, s1.heap.objs.size + 3, s1.heap.objs.size, s1.heap.objs.size + 1], _, _, H1, rfl, I2, turn (PySem.W.ktu_apart s1.heap.objs.size a b (Heap.lt_size ho1) p2.lt), ⟨c1, c2, ⟨_, _, c3⟩, c4, c5⟩, fun c hcm => ?_, q⟩
  have hle : s1.heap.objs.size ≤ c := by
    simp only [List.mem_cons, List.not_mem_nil, or_false] at hcm
    rcases hcm with q | q | q | q | q <;> (rw [q]; first | exact Nat.le_refl _ | exact Nat.le_add_right _ _)
  exact I1.fpOk hle (I1.hok.fresh hle)
end AF.Zm
/-! ## Z2 -/
/-! dict(zip(t, xs)) of a tuple and a list: the pairs stay while the dict is filled, so the zip makes a new one each turn -/
namespace AF.Zm
open PySem PySem.Spec PySem.Calls PyProof.Rows L2
section
variable {prog : Program} {w : World} {A : Around} {E : Value → Shared → Prop} {s : Shared} {q0 q1 q2 i1 i2 T : Addr} {fp1 fp2 : List Addr} {n1 n2 i : Nat} {P1 P2 : Nat → Value → Prop} {St1 St2 : Nat → Heap → Prop} {f : Bool} {oT : Obj}
theorem held_step {Q : Value → Shared → Prop} (S : ZipSep2 q0 q1 q2 i1 i2 fp1 fp2) (D1 : Draws prog w A i1 fp1 n1 P1 St1) (D2 : Draws prog w A i2 fp2 n2 P2 St2)
    (e1 : IsZipHeld s.heap q0 q1 q2 T f) (eT : s.heap.get? T = some oT) (e2 : IsTupOf2 s.heap q1 (.ref i1) (.ref i2)) (t1 : St1 i s.heap) (t2 : St2 i s.heap) (b1 : i < n1) (b2 : i < n2)
    (k : ∀ x1 x2 g tk, P1 i x1 → P2 i x2 → IsZipHeld g q0 q1 q2 T true → St1 (i + 1) g → St2 (i + 1) g → IsTupOf2 g s.heap.objs.size x1 x2 →
      (∀ c o, c ≠ q0 → c ≠ i1 → c ≠ i2 → s.heap.get? c = some o → g.get? c = some o) → Q (.ref s.heap.objs.size) { s with heap := g, toks := tk }) :
    wpAny (model prog w) A (Builtin.«zip.__next__» ⟨[.ref q0], []⟩) (fun fin s' => ∃ v, fin = .done (.ret v) ∧ Q v s') E s := by
  obtain ⟨g0, gg, dd, tk0, os⟩ := s
  show wpAny _ _ (field (.ref q0) 2 >>= _) _ _ _
  refine wpAny_bind (wpAny_field e1 rfl (x := .bool false) rfl ?_)
  show wpAny _ _ (field (.ref q0) 3 >>= _) _ _ _
  refine wpAny_bind (wpAny_field e1 rfl (x := .ref q1) rfl ?_)
  refine wpAny_bind (wpAny_seqItems e2 rfl (wpAny_bind (wpAny_tupleHeld_zip e1 eT fun g1 z1 s1 => ?_)))
  replace s1 : Heap.SameBut q0 g0 g1 := s1
  simp only [if_false, Bool.false_eq_true]
  refine wpAny_bind ?_
  rw [← Array.forIn_toList]
  simp only [List.forIn_nil, List.forIn_cons]
  refine wpAny_bind (wpAny_bind (wpAny_holding ?_))
  show wpAny _ _ (Builtin.SmallTypes.nextOf (.ref i1) >>= _) _ _ ⟨g1, gg, dd, tk0, os⟩
  refine wpAny_bind (D1.item i _ _ _ b1 (D1.over t1 s1 S.zf1) fun x1 g2 tk1 y1 u1 s2 => wpAny_pure (wpAny_pure ?_))
  replace s2 : Heap.SameBut i1 g1 g2 := s2
  refine wpAny_bind (wpAny_bind (wpAny_holding ?_))
  show wpAny _ _ (Builtin.SmallTypes.nextOf (.ref i2) >>= _) _ _ ⟨g2, gg, dd, tk1, os⟩
  refine wpAny_bind (D2.item i _ _ _ b2 (D2.over (D2.over t2 s1 S.zf2) s2 S.sep1_2) fun x2 g3 tk2 y2 u2 s3 => wpAny_pure (wpAny_pure (wpAny_pure ?_)))
  replace s3 : Heap.SameBut i2 g2 g3 := s3
  show wpAny _ _ (newTuple [x1, x2] >>= _) _ _ ⟨g3, gg, dd, tk2, os⟩
  refine wpAny_bind (wpAny_newTuple (wpAny_pure ⟨_, rfl, ?_⟩))
  have sz : g3.objs.size = g0.objs.size := by rw [s3.1, s2.1, s1.1]
  have z3 : IsZipHeld g3 q0 q1 q2 T true := s3.extBut _ _ S.zi2 (s2.extBut _ _ S.zi1 z1)
  have up : ∀ c o, g3.get? c = some o → (g3.push (tupObj x1 x2)).get? c = some o := fun c o e => Heap.get?_push_of_some _ e
  have new : (g3.push (tupObj x1 x2)).get? g3.objs.size = some (tupObj x1 x2) := Heap.get?_push_size _ rfl
  show Q (.ref g3.objs.size) ⟨g3.push (tupObj x1 x2), gg, dd, tk2, os⟩
  rw [sz] at new ⊢
  exact k x1 x2 _ tk2 y1 y2 (up _ _ z3) (D1.frame _ _ _ (D1.over u1 s3 S.sep2_1) fun b _ o e => up b o e) (D2.frame _ _ _ u2 fun b _ o e => up b o e) new
    fun c o c1 c2 c3 e => up c o (s3.extBut _ _ c3 (s2.extBut _ _ c2 (s1.extBut _ _ c1 e)))
theorem held_stop {Q : Fin → Shared → Prop} (S : ZipSep2 q0 q1 q2 i1 i2 fp1 fp2) (D1 : Draws prog w A i1 fp1 i P1 St1)
    (e1 : IsZipHeld s.heap q0 q1 q2 T f) (eT : s.heap.get? T = some oT) (e2 : IsTupOf2 s.heap q1 (.ref i1) (.ref i2)) (t1 : St1 i s.heap)
    (k : ∀ g e, (∀ c o, c ≠ q0 → c ≠ i1 → c ≠ i2 → s.heap.get? c = some o → g.get? c = some o) → (∃ o, g.get? e = some o ∧ o.cls = .type "StopIteration") → E (.ref e) { s with heap := g }) :
    wpAny (model prog w) A (Builtin.«zip.__next__» ⟨[.ref q0], []⟩) Q E s := by
  obtain ⟨g0, gg, dd, tk0, os⟩ := s
  show wpAny _ _ (field (.ref q0) 2 >>= _) _ _ _
  refine wpAny_bind (wpAny_field e1 rfl (x := .bool false) rfl ?_)
  show wpAny _ _ (field (.ref q0) 3 >>= _) _ _ _
  refine wpAny_bind (wpAny_field e1 rfl (x := .ref q1) rfl ?_)
  refine wpAny_bind (wpAny_seqItems e2 rfl (wpAny_bind (wpAny_tupleHeld_zip e1 eT fun g1 z1 s1 => ?_)))
  replace s1 : Heap.SameBut q0 g0 g1 := s1
  simp only [if_false, Bool.false_eq_true]
  refine wpAny_bind ?_
  rw [← Array.forIn_toList]
  simp only [List.forIn_nil, List.forIn_cons]
  refine wpAny_bind (wpAny_bind (wpAny_holding ?_))
  show wpAny _ _ (Builtin.SmallTypes.nextOf (.ref i1) >>= _) _ _ ⟨g1, gg, dd, tk0, os⟩
  exact wpAny_bind (D1.done ⟨g1, gg, dd, tk0, os⟩ _ _ (D1.over t1 s1 S.zf1) fun g2 e s2 he => k g2 e (fun c o c1 c2 _ x => s2 _ _ c2 (s1.extBut _ _ c1 x)) he)
theorem next_held {Q : Option Value → Shared → Prop} (S : ZipSep2 q0 q1 q2 i1 i2 fp1 fp2) (D1 : Draws prog w A.in1 i1 fp1 n1 P1 St1) (D2 : Draws prog w A.in1 i2 fp2 n2 P2 St2)
    (e1 : IsZipHeld s.heap q0 q1 q2 T f) (eT : s.heap.get? T = some oT) (e2 : IsTupOf2 s.heap q1 (.ref i1) (.ref i2)) (t1 : St1 i s.heap) (t2 : St2 i s.heap) (b1 : i < n1) (b2 : i < n2)
    (k : ∀ x1 x2 g tk, P1 i x1 → P2 i x2 → IsZipHeld g q0 q1 q2 T true → St1 (i + 1) g → St2 (i + 1) g → IsTupOf2 g s.heap.objs.size x1 x2 →
      (∀ c o, c ≠ q0 → c ≠ i1 → c ≠ i2 → s.heap.get? c = some o → g.get? c = some o) → Q (some (.ref s.heap.objs.size)) { s with heap := g, toks := tk }) :
    wpAny (model prog w) A (pyNext (.ref q0)) Q E s := by
  have ty : s.TypeIs (.ref q0) "zip" := ⟨_, e1, rfl⟩
  unfold pyNext
  exact wpAny_bind (wpAny_attempt (wpAny_callSpecial?_slot (name := Str.ofString "__next__") ty F.slot_zip_next (wpAny_call_entry F.slot_zip_next ty F.entry_zip_next
    (held_step S D1 D2 e1 eT e2 t1 t2 b1 b2 fun x1 x2 g tk y1 y2 a1 a2 a3 a4 a5 => wpAny_pure (k x1 x2 g tk y1 y2 a1 a2 a3 a4 a5)) (F.args_zip_next_1 _))))
theorem stop_held {Q : Option Value → Shared → Prop} (S : ZipSep2 q0 q1 q2 i1 i2 fp1 fp2) (D1 : Draws prog w A.in1 i1 fp1 i P1 St1)
    (e1 : IsZipHeld s.heap q0 q1 q2 T f) (eT : s.heap.get? T = some oT) (e2 : IsTupOf2 s.heap q1 (.ref i1) (.ref i2)) (t1 : St1 i s.heap)
    (k : ∀ g, (∀ c o, c ≠ q0 → c ≠ i1 → c ≠ i2 → s.heap.get? c = some o → g.get? c = some o) → Q none { s with heap := g }) : wpAny (model prog w) A (pyNext (.ref q0)) Q E s := by
  have ty : s.TypeIs (.ref q0) "zip" := ⟨_, e1, rfl⟩
  unfold pyNext
  refine wpAny_bind (wpAny_attempt (wpAny_callSpecial?_slot (name := Str.ofString "__next__") ty F.slot_zip_next (wpAny_call_entry F.slot_zip_next ty F.entry_zip_next
    (held_stop S D1 e1 eT e2 t1 fun g e hk ⟨o, ho, hc⟩ => wpAny_bind (wpAny_isInstance (T := "StopIteration") (b := true) ⟨o, ho, hc⟩ isSubtype_stop (wpAny_pure (k g hk)))) (F.args_zip_next_1 _))))
end
/-- a zip of a tuple and a list of one length, as the argument of dict() -/
theorem arg {prog : Program} {w : World} {z TI TO i1 i2 t l : Addr} (D : ZipApart z TI TO i1 i2 t l) (xs ys : Array Value) (hl : xs.size = ys.size) :
    PairArg prog w "zip" z [z, TI, TO, i1, i2, t, l] [z, TO, i1, i2] xs.size (fun i a b => xs[i]? = some a ∧ ys[i]? = some b)
      (fun g => IsZip g z TI TO .none ∧ IsTupOf2 g TI (.ref i1) (.ref i2) ∧ (∃ a b, IsTupOf2 g TO a b) ∧ (g.IsTupleIter i1 t 0 ∧ g.IsTuple t xs) ∧ g.IsListIter i2 l 0 ∧ g.IsList l ys) where
  type := fun s ok => ⟨_, ok.1, rfl⟩
  notDict := by decide
  keep := fun g g' ⟨e1, e2, ⟨a, b, e3⟩, ⟨j1, p1⟩, j2, p2⟩ k => ⟨k _ _ e1, k _ _ e2, ⟨a, b, k _ _ e3⟩, ⟨j1.at fun o e => k _ o e, p1.at fun o e => k _ o e⟩, j2.at fun o e => k _ o e, p2.at fun o e => k _ o e⟩
  there := fun g ⟨e1, e2, ⟨a, c, e3⟩, ⟨⟨o1, j1, _⟩, ⟨o2, p1, _⟩⟩, ⟨o3, j2, _⟩, ⟨o4, p2, _⟩⟩ b hb => by
    simp only [List.mem_cons, List.not_mem_nil, or_false] at hb
    rcases hb with rfl | rfl | rfl | rfl | rfl | rfl | rfl
    · exact ⟨_, e1⟩
    · exact ⟨_, e2⟩
    · exact ⟨_, e3⟩
    · exact ⟨_, j1⟩
    · exact ⟨_, j2⟩
    · exact ⟨_, p1⟩
    · exact ⟨_, p2⟩
  sub := fun b hb => by
    simp only [List.mem_cons, List.not_mem_nil, or_false] at hb ⊢
    rcases hb with q | q | q | q <;> simp [q]
  noKeys := fun A s Q E hA ok k => getAttrOr_miss_zip ok.1 rfl rfl rfl zip_no_keys (by decide +kernel) hA k
  iter := fun A s d Q E hA ok hd hdf k => by
    obtain ⟨e1, e2, ⟨a, b, e3⟩, t1, t2⟩ := ok
    simp only [List.mem_cons, List.not_mem_nil, or_false, not_or] at hdf
    obtain ⟨dz, dTI, dTO, di1, di2, dt, dl⟩ := hdf
    have hA1 : A.in1.handled = none := hA
    have D1 := Draws.tuple (prog := prog) (w := w) hA1 i1 t D.l1i1 xs
    have D2 := Draws.list (prog := prog) (w := w) hA1 i2 l D.l2i2 ys
    refine wpAny_pyIter_zip e1 (k z [z, TO, i1, i2] (fun i g => IsTupOf2 g TI (.ref i1) (.ref i2) ∧ (g.IsTupleIter i1 t i ∧ g.IsTuple t xs) ∧ (g.IsListIter i2 l i ∧ g.IsList l ys) ∧
      ((IsZip g z TI TO .none ∧ ∃ a b, IsTupOf2 g TO a b) ∨ ∃ T f oT, IsZipHeld g z TI TO T f ∧ g.get? T = some oT ∧ T ≠ z ∧ T ≠ i1 ∧ T ≠ i2 ∧ T ≠ d)) s.heap s.toks ?_ ⟨e2, t1, t2, .inl ⟨e1, a, b, e3⟩⟩ (fun _ _ e => e) fun b hb => .inl hb)
    refine ⟨by simp [dz, dTO, di1, di2], fun i g g' ⟨f2, ⟨j1, p1⟩, ⟨j2, p2⟩, fz⟩ hk => ?_, fun i s1 Q1 E1 hi ⟨f2, u1, u2, fz⟩ hds kk => ?_, fun s1 Q1 E1 ⟨f2, u1, u2, fz⟩ kk => ?_⟩
    · refine ⟨hk _ _ (Ne.symm dTI) f2, ⟨j1.at fun o e => hk _ o (Ne.symm di1) e, p1.at fun o e => hk _ o (Ne.symm dt) e⟩, ⟨j2.at fun o e => hk _ o (Ne.symm di2) e, p2.at fun o e => hk _ o (Ne.symm dl) e⟩, ?_⟩
      rcases fz with ⟨h1, a, b, h3⟩ | ⟨T, f, oT, h1, hT, r1, r2, r3, r4⟩
      · exact .inl ⟨hk _ _ (Ne.symm dz) h1, a, b, hk _ _ (Ne.symm dTO) h3⟩
      · exact .inr ⟨T, f, oT, hk _ _ (Ne.symm dz) h1, hk _ _ r4 hT, r1, r2, r3, r4⟩
    · have lt : ∀ {c o}, s1.heap.get? c = some o → s1.heap.objs.size ≠ c := fun e => Nat.ne_of_gt (Heap.lt_size e)
      have m1 : s1.heap.objs.size ≠ i1 := let ⟨_, e, _⟩ := u1.1; lt e
      have m2 : s1.heap.objs.size ≠ i2 := let ⟨_, e, _⟩ := u2.1; lt e
      have sub4 : ∀ c, c ∉ [z, TO, i1, i2] → c ≠ z ∧ c ≠ TO ∧ c ≠ i1 ∧ c ≠ i2 := fun c hc => by simpa using hc
      rcases fz with ⟨h1, a, b, h3⟩ | ⟨T, f, oT, h1, hT, r1, r2, r3, r4⟩
      · refine wpAny_pyNext_zipD2_item (sep D) D1 D2 h1 f2 h3 u1 u2 hi (by omega) fun x1 x2 g tk y1 y2 c1 c2 v1 v2 c5 c6 hk => ?_
        exact kk s1.heap.objs.size x1 x2 g tk ⟨y1, y2⟩ (.inl ⟨_, c5, rfl, _, rfl⟩) ⟨hk _ _ D.TIz D.TITO D.TIi1 D.TIi2 f2, v1, v2, .inr ⟨s1.heap.objs.size, false, _, c1, c5, lt h1, m1, m2, Nat.ne_of_gt hds⟩⟩ fun c o hc e => let ⟨q1, q2, q3, q4⟩ := sub4 c hc; hk c o q1 q2 q3 q4 e
      · refine next_held (sep D) D1 D2 h1 hT f2 u1 u2 hi (by omega) fun x1 x2 g tk y1 y2 c1 v1 v2 c5 hk => ?_
        exact kk s1.heap.objs.size x1 x2 g tk ⟨y1, y2⟩ (.inl ⟨_, c5, rfl, _, rfl⟩) ⟨hk _ _ D.TIz D.TIi1 D.TIi2 f2, v1, v2, .inr ⟨T, true, oT, c1, hk _ _ r1 r2 r3 hT, r1, r2, r3, r4⟩⟩ fun c o hc e => let ⟨q1, _, q3, q4⟩ := sub4 c hc; hk c o q1 q3 q4 e
    · have sub4 : ∀ c, c ∉ [z, TO, i1, i2] → c ≠ z ∧ c ≠ TO ∧ c ≠ i1 ∧ c ≠ i2 := fun c hc => by simpa using hc
      rcases fz with ⟨h1, a, b, h3⟩ | ⟨T, f, oT, h1, hT, r1, r2, r3, r4⟩
      · exact wpAny_pyNext_zipD2_end (sep D) D1 D2 h1 f2 h3 u1 u2 (Nat.le_refl _) (by omega) (.inl rfl) fun g tk hk => kk g tk fun c o hc e => let ⟨q1, q2, q3, q4⟩ := sub4 c hc; hk c o q1 q2 q3 q4 e
      · exact stop_held (sep D) D1 h1 hT f2 u1 fun g hk => kk g s1.toks fun c o hc e => let ⟨q1, _, q3, q4⟩ := sub4 c hc; hk c o q1 q3 q4 e
end AF.Zm
/-! ## Z3 -/
namespace AF.Zm
open PySem PySem.Spec PySem.Calls PyProof.Rows L2
def tDz (K : PySem.W.Frag) (ta : TA) : TE := fun σ H Q => ta σ H fun vs H1 => ∃ (a b : Addr) (ns : List Int) (us : List V), vs = [.ref a, .ref b] ∧ SqT K H1 a (ns.map V.int) ∧ SqL K H1 b us ∧ ns.length = us.length ∧
  ∀ p, H1 p = none → Q (.ref p) (upd H1 p (.dK (mergeK [] ((ns.map (Sum.inl : Int → Key)).zip us))))
theorem kv_zip : ∀ {ks : List Key} {us : List V} {vs : List Value}, Vals us vs → KV (ks.zip us) (ks.zip vs)
  | [], _, _, _ => .nil
  | _ :: _, _, _, .nil => .nil
  | k :: ks, _, _, .cons r t => .cons ⟨rfl, r⟩ (kv_zip t)
theorem pe_dz {X : Cx} {e e2 : Expr} {ta : TA} {p p2 pos pos2 : Pos} (hg : Gl X "dict") (hm : X.mg "dict" = none) (hg2 : Gl X "zip") (hm2 : X.mg "zip" = none) (ha : PA X [e, e2] ta) (hc : X.calm = true := by rfl)
    (hs : starEach [e, e2] X.env = (false, eval e X.env) :: starEach [e2] X.env := by rfl) (hpl : (backTo pos2 (starEach [e2] X.env)).any (·.1) = false := by rfl)
    (ho : starEach [.Call (.Name "zip" p2) [e, e2] [] pos2] X.env = (false, eval (.Call (.Name "zip" p2) [e, e2] [] pos2) X.env) :: starEach [] X.env := by rfl) :
    PE X (.Call (.Name "dict" p) [.Call (.Name "zip" p2) [e, e2] [] pos2] [] pos) (tDz X.K ta) := by
  have bd : bootBuiltins "dict" = some (.type "dict") := by decide +kernel
  refine ⟨fun pins s σ H Q I h => Call_ (ld_blt I hg hm bd (PyProof.Rows.callWith_type1 (PyProof.Rows.args_cons ?_ ho) ho rfl))⟩
  refine Call_ (ld_blt I hg2 hm2 PyProof.Rows.boot_zip (PyProof.Rows.callWith_type1 (thn (ha.run pos2 pins s σ H _ I h) fun us s1 ⟨vs, H1, I1, r1, q1⟩ => ?_) hs hpl))
  obtain ⟨a, b, ns, ws, rfl, qx, qy, hl, q⟩ := q1
  obtain ⟨u, v, rfl, ru, rv⟩ := vals2 r1
  cases ru
  cases rv
  obtain ⟨us, r2, p1, _⟩ := I1.tuple qx
  obtain ⟨vs, r3, p2, hz⟩ := I1.list qy
  have m1 : ns.length = us.length := by rw [← r2.length, List.length_map]
  have m2 := r3.length
  obtain ⟨o1, ho1, _⟩ := id p1
  refine zip_called p1 p2.isList fun g ⟨c1, c2, c3, c4, c5, hk⟩ => PyProof.Rows.args_nil ?_
  have gs : s1.heap.objs.size ≤ g.objs.size := Nat.le_of_lt (Nat.lt_of_le_of_lt (Nat.le_add_right _ 4) (Heap.lt_size c1))
  have P := arg (prog := X.prog) (w := X.w) (PySem.W.ktu_apart s1.heap.objs.size a b (Heap.lt_size ho1) p2.lt) us.toArray vs.toArray (by simp; omega)
  refine PySem.call_dict_pairs (s := { s1 with heap := g }) (knd := mixKind X.prog X.w) (kvs := (ns.map (Sum.inl : Int → Key)).zip vs) P (I1.ok.hd hc) ⟨c1, c2, ⟨_, _, c3⟩, ⟨c4, Heap.IsTuple.at p1 fun o e => hk _ o e⟩, c5, p2.isList.at fun o e => hk _ o e⟩ ⟨?_, fun i key x ⟨k1, k2⟩ => ?_⟩ ?_ fun h' tk hd' kk => ?_
  · simp; omega
  · have k1 : us[i]? = some key := by simpa using k1
    have k2 : vs[i]? = some x := by simpa using k2
    have hi : i < ns.length := by have := (List.getElem?_eq_some_iff.mp k1).1; omega
    have en : (ns.map V.int)[i]? = some (V.int ns[i]) := by rw [List.getElem?_map, List.getElem?_eq_getElem hi] <;> rfl
    obtain ⟨u', hu', ru'⟩ := r2.get en
    obtain rfl : u' = key := Option.some.inj (hu'.symm.trans k1)
    refine ⟨Sum.inl ns[i], ?_, kV_is (k := Sum.inl ns[i]) ru'⟩
    rw [List.getElem?_zip_eq_some]
    exact ⟨by rw [List.getElem?_map, List.getElem?_eq_getElem hi] <;> rfl, k2⟩
  · simp; omega
  · have hle : s1.heap.objs.size ≤ (({ s1 with heap := g } : Shared).heap.objs.size) := gs
    have hsm : (g.objs.size == sysModules) = false := beq_eq_false_iff_ne.mpr (Nat.ne_of_gt (Nat.lt_of_lt_of_le I1.big gs))
    have rel : KV ((ns.map (Sum.inl : Int → Key)).zip ws) ((ns.map (Sum.inl : Int → Key)).zip vs) := kv_zip r3
    have hlen : (mergeK [] ((ns.map (Sum.inl : Int → Key)).zip ws)).length ≤ sizeLine := by
      have e1 := length_mergeK ((ns.map (Sum.inl : Int → Key)).zip ws) []
      rw [List.length_nil, Nat.zero_add, List.length_zip, List.length_map] at e1
      have e2 : ws.length ≤ sizeLine := by simpa using hz
      omega
    refine ⟨.ref g.objs.size, upd H1 g.objs.size (.dK (mergeK [] ((ns.map (Sum.inl : Int → Key)).zip ws))), I1.laid (t' := tk) (fun c o e => kk c o (fun hm => ?_) (hk c o e)) hle ⟨hlen, hsm, merged [] ((ns.map (Sum.inl : Int → Key)).zip vs), rel.merge .nil, hd'⟩, rfl, q _ (I1.hok.fresh hle)⟩
    have lt := Heap.lt_size e
    simp only [List.mem_cons, List.not_mem_nil, or_false] at hm
    rcases hm with z | z | z | z <;> (rw [z] at lt; first | exact absurd lt (Nat.lt_irrefl _) | exact absurd lt (Nat.not_lt.mpr (Nat.le_add_right _ _)))
end AF.Zm
/-! ## Z4 -/
namespace AF.Zm
open PySem PySem.Spec PySem.Calls PyProof.Rows L2
theorem swD {kx vx : Expr} {gs : List Comprehension} {scope : Scope} {pos py : Pos} {y : Str} {l : Nat} {env : Env} (hk : env.scope.kind = .function) (hy : env.scope.names.lookup y = some .local) (hl : (py.line == pos.line) = true)
    (ha : (scope.names.any fun (n, k) => n == y && (k == .local || k == .cell)) = false) : swapsWith (.DictComp kx vx gs scope pos) (some (.Name y py)) l env = pure true := by
  have k1 : env.kindOf y = some .local := hy
  have k2 : env.blockKind = .function := by
    unfold Env.blockKind
    rw [hk]; rfl
  unfold swapsWith
  simp only [k2, k1, ha, Expr.pos, hl]
  rfl
/-- name = {..} of a comprehension, the name a local -/
theorem ps_setDc {X : Cx} {i : Nat} {y : Str} {py : Pos} {kx vx tg iter : Expr} {ifs : List Expr} {scope : Scope} {own : List (Str × Nat)} {pos spos : Pos} {wi : TI} {g : TG} {tt : TT} {tk tv : TE} (hc : X.calm = true) (hN : X.N.Nodup) (hy : X.N[i]? = some y) (hyl : X.env.scope.names.lookup y = some .local)
    (hsw : swapsWith (.DictComp kx vx [⟨tg, iter, ifs, 0⟩] scope pos) (some (.Name y py)) spos.line X.env = pure true) (hi : PI X tg iter wi) (ok : BlkOk X.N X.env.scope scope own)
    (hg : ∀ (s : Shared) (H : Hp) (C : Addr) (cl : List (Str × Addr)) (fp : List Addr), PG (X.blk s H scope (compEnvC scope cl C X.env) fp) tg g)
    (ht : ∀ (s : Shared) (H : Hp) (C : Addr) (cl : List (Str × Addr)) (fp : List Addr), PTs (X.blk s H scope (compEnvC scope cl C X.env) fp) ifs tt)
    (hk : ∀ (s : Shared) (H : Hp) (C : Addr) (cl : List (Str × Addr)) (fp : List Addr), PE (X.blk s H scope (compEnvC scope cl C X.env) fp) kx tk)
    (he : ∀ (s : Shared) (H : Hp) (C : Addr) (cl : List (Str × Addr)) (fp : List Addr), PE (X.blk s H scope (compEnvC scope cl C X.env) fp) vx tv) (hs : ∀ x, foldedSetIterable iter X.env x = pure x := by intro _; rfl) :
    PS X (.Assign [.Name y py] (.DictComp kx vx [⟨tg, iter, ifs, 0⟩] scope pos) spos) (tAsg (tDc wi g tt tk tv (own.map (·.2))) (gName i)) := by
  refine ⟨fun pins s σ H D I h => ?_⟩
  have h : tDc wi g tt tk tv (own.map (·.2)) σ H (fun x H1 => gName i x σ H1 D.nx) := h
  rw [exec_Assign_Name_used _ _ _ _ hsw]
  refine wpAny_bind (wpAny_standAt (wpAny_bind ?_))
  show wpAny _ X.A (do let _ ← comprehension (.DictComp kx vx [⟨tg, iter, ifs, 0⟩] scope pos) scope X.env (firstIterPos [⟨tg, iter, ifs, 0⟩] pos) newDict false (eval iter X.env) (some (assign (.Name y py) X.env))) _ _ s
  refine wpAny_bind (thn (dc_core (Qf := fun _ s' => SP X pins D .next s') hc hN I hi ok hg ht hk he hs h fun L C s' m H' I' q hn f => ?_) fun _ s' hq => wpAny_pure (wpAny_pure hq))
  obtain ⟨f0, f1, f2, f3, f4, f5⟩ := f
  refine wpAny_assign_Name (store_ok2 (v := V.ref L) I' hN hy (.inl hyl) rfl (fun s2 I2 ⟨a, sb, ha⟩ => ?_) (.inr hyl))
  have hCa : C ≠ a := ha.elim (fun z => by rw [z]; exact f1) fun z e => f4 y a z e.symm
  exact ⟨m, hn.sameBut sb hCa, fun h3 sb3 => ⟨_, H', I2.turned (t' := s2.toks) (fun b o hb e => (sb3.2 b hb).trans e) f0 f1 f3 f4 f5, q⟩⟩
end AF.Zm
namespace AF.Zm
open PySem PySem.Spec PySem.Calls PyProof.Rows L2
/-- a dict comprehension over a zip of a tuple and a list of one length -/
theorem dc_zm {K : PySem.W.Frag} {a b : Addr} {xs ys : List V} {g : TG} {tt : TT} {tk tv : TE} {vs : List Nat} {σ : L2.St} {H1 : Hp} {D : Addr} {Qd : Hp → Prop} (hl : xs.length = ys.length) (Pv : Nat → Hp → Prop) (h0 : Pv 0 (upd H1 D (.dK []))) (hq : ∀ i H, Pv i H → SqT K H a xs ∧ SqL K H b ys)
    (hs : ∀ i x y T H, xs[i]? = some x → ys[i]? = some y → Pv i H → H T = none → g (.ref T) (wipe σ vs) (upd H T (.tup [x, y])) fun σ2 H2 => wipe σ2 vs = wipe σ vs ∧ tt σ2 H2 fun c H3 =>
      if c = true then tk σ2 H3 fun y H4 => tv σ2 H4 fun z H5 => ∃ kvs k, y = kV k ∧ H5 D = some (.dK kvs) ∧ kvs.length < sizeLine ∧ Pv (i + 1) (upd H5 D (.dK (putK kvs k z))) else Pv (i + 1) H3) (hd : ∀ H, Pv xs.length H → Qd H) :
    ∃ W : Nat → Nat → Hp → Prop, (∃ m, W 0 m (upd H1 D (.dK []))) ∧ ∀ i m H, W i m H →
      ((Itm K a b).stop i H ∧ Qd H) ∨ ((Itm K a b).go i H ∧ ∃ Nx : Hp → Prop, (∀ H', Nx H' → ∃ m', m' < m ∧ W (i + 1) m' H') ∧ ∀ x H', (Itm K a b).yld i H x H' → g x (wipe σ vs) H' fun σ2 H2 => wipe σ2 vs = wipe σ vs ∧ tt σ2 H2 fun c H3 =>
        if c = true then tk σ2 H3 fun y H4 => tv σ2 H4 fun z H5 => ∃ kvs k, y = kV k ∧ H5 D = some (.dK kvs) ∧ kvs.length < sizeLine ∧ Nx (upd H5 D (.dK (putK kvs k z))) else Nx H3) := by
  refine ⟨fun i m H => m = xs.length - i ∧ i ≤ xs.length ∧ Pv i H, ⟨xs.length, rfl, Nat.zero_le _, h0⟩, ?_⟩
  rintro i m H ⟨rfl, hi, p⟩
  obtain ⟨qx, qy⟩ := hq i H p
  rcases Nat.lt_or_ge i xs.length with lt | ge
  · have ex : xs[i]? = some xs[i] := List.getElem?_eq_getElem lt
    have ey : ys[i]? = some (ys[i]'(by omega)) := List.getElem?_eq_getElem (by omega)
    refine .inr ⟨⟨xs, ys, _, _, qx, qy, ex, ey⟩, Pv (i + 1), fun H' p' => ⟨xs.length - (i + 1), by omega, rfl, lt, p'⟩, ?_⟩
    rintro _ _ ⟨T, x', y', rfl, hT, rfl, f1, f2⟩
    exact hs i x' y' T H (f1 xs qx) (f2 ys qy) p hT
  · obtain rfl : i = xs.length := by omega
    exact .inl ⟨⟨xs, ys, qx, qy, rfl, hl.symm⟩, hd H p⟩
end AF.Zm
/-! ## Z5 -/
/-! a def's promise counted by single frames: a level of L2.FnOk takes three frames of the stack, too many for a recursion of 300 -/
namespace AF
open PySem PySem.Spec PySem.Calls PyProof.Rows L2
structure Rm (k : Nat) (A : Around) : Prop where
  hd : A.handled = none
  dp : A.depth + k + 5 < recursionLimit
  un : A.units + 5 * k + 200 < cLine
theorem Rm.mono {j k : Nat} {A : Around} (r : Rm k A) (h : j ≤ k) : Rm j A := by
  have h1 := r.dp
  have h2 := r.un
  exact ⟨r.hd, by omega, by omega⟩
theorem Rm.deeper {k : Nat} {A : Around} (r : Rm (k + 1) A) (env : Env) : Rm k (A.deeper env) := by
  have h1 := r.dp
  have h2 := r.un
  exact ⟨r.hd, by show A.depth + 1 + k + 5 < _; omega, by show A.units + 3 + 5 * k + 200 < _; omega⟩
theorem Rm.units0 {k : Nat} {A : Around} (r : Rm k A) : A.units < cLine := by have := r.un; omega
theorem Rm.hu {k : Nat} {A : Around} (r : Rm k A) : A.units + 1 < cLine := by have := r.un; omega
theorem Rm.room {k j : Nat} {A : Around} (r : Rm k A) (h : 4 * j ≤ k) : Room j A := by
  have h1 := r.dp
  have h2 := r.un
  exact ⟨r.hd, by omega, by omega⟩
theorem Rm.of {k j : Nat} {A : Around} (r : Room j A) (h : k ≤ 3 * j) : Rm k A := by
  have h1 := r.dp
  have h2 := r.un
  exact ⟨r.hd, by omega, by omega⟩
structure FnR (P : Program) (w : World) (K : PySem.W.Frag) (mg : Str → Option Value) (base : Heap) (k : Nat) (f : Addr) (fd : FuncData) (ps : List Str) (sp : Sp) : Prop where
  len : ∀ us G Q E, sp us G Q E → us.length = ps.length
  run : ∀ (A : Around) (outer : List Env) (s : Shared) (G : Hp) (args : Args) (xs : List Value) (us : List V) (Q : VK) (E : XK), Rm k A → Env0 P w K mg base A outer s G → BindsTo s fd args (ps.zip xs) → Vals us xs → sp us G Q E → codeAny (model P w) A (.call (.ref f) args) (CR CX0 outer P w G s Q E) s
section
variable {P : Program} {w : World} {K : PySem.W.Frag} {mg : Str → Option Value} {base : Heap} {f : Addr} {fd : FuncData} {ps : List Str} {sp : Sp}
theorem FnR.mono {j k : Nat} (F : FnR P w K mg base j f fd ps sp) (h : j ≤ k) : FnR P w K mg base k f fd ps sp := ⟨F.len, fun A outer s G args xs us Q E hr => F.run A outer s G args xs us Q E (hr.mono h)⟩
theorem FnR.of {j k : Nat} (F : FnOk P w K mg base CX0 j f fd ps sp) (h : 4 * j ≤ k) : FnR P w K mg base k f fd ps sp := ⟨F.len, fun A outer s G args xs us Q E hr => F.run A outer s G args xs us Q E (hr.room h)⟩
theorem FnR.ok {j k : Nat} (F : FnR P w K mg base j f fd ps sp) (h : j ≤ 3 * k) : FnOk P w K mg base CX0 k f fd ps sp := ⟨F.len, fun A outer s G args xs us Q E hr => F.run A outer s G args xs us Q E (Rm.of hr h)⟩
theorem FnR.no {k : Nat} (h : ∀ us G Q E, ¬ sp us G Q E) : FnR P w K mg base k f fd ps sp := ⟨fun us G Q E z => (h us G Q E z).elim, fun A outer s G args xs us Q E _ _ _ _ z => (h us G Q E z).elim⟩
end
/-- a def by its body -/
theorem okR {P : Program} {w : World} {K : PySem.W.Frag} {mg : Str → Option Value} {base : Heap} {x qual : Str} {st : Stmt} {f : Addr} {fd : FuncData} {N ps : List Str} {k : Nat} {sp : Sp} (F : Fun K x qual st f fd) (S : FnScope N ps (defScope st)) (len : ∀ us G Q E, sp us G Q E → us.length = ps.length)
    (body : ∀ (cd : Value) (A : Around) (outer : List Env) (s : Shared) (G : Hp) (us : List V) (Q : VK) (E : XK), Rm k (A.deeper (envOfC qual (defScope st) s.heap.objs.size f cd)) → sp us G Q E →
      ∃ t, PSs (cxOf CX0 P w K mg base N qual (defScope st) f cd A outer s G E).nox (defBody st) t ∧ t { nx := fun _ G' => Q .non G', rt := Q } (start N us) G) : FnR P w K mg base (k + 1) f fd ps sp := by
  obtain ⟨oc, od, kV, doc, pm, an, cd, ct, osl, rfl, lk, hcd⟩ := F.ex
  refine ⟨len, fun A outer s G args xs us Q E hr e0 hb r hsp => ?_⟩
  have inK : K.In s.heap := e0.mod.kin.keeps fun b o e => (e0.bs b o e).1
  have lims : s.heap.NoLimit := e0.mod.nolimit.keeps fun b o e => (e0.bs b o e).1
  have deep_ : A.depth < recursionLimit := by have := hr.dp; omega
  have kinds : ∀ y ∈ ps.zip xs, (defScope st).names.lookup y.1 = some .local ∨ ((defScope st).names.lookup y.1 = some .cell ∧ ((cellsFrom (s.heap.objs.size + 1) (defScope st).names []).lookup y.1).isSome = true) := fun ⟨n, v⟩ hy =>
    (S.par n (List.of_mem_zip hy).1).imp id fun q => ⟨q, PySem.W.cellsFrom_some _ _ _ (.inl q)⟩
  refine codeAny_call_function deep_ (inK _ _ lk) rfl S.co S.gen rfl (PySem.W.codeRec_of inK hcd) (hb _ _ _ _ (wpAny_newFunctionEnv_cells S.kind kinds fun env he s1 into => ?_))
  subst he
  obtain ⟨t, ht, go⟩ := body cd A outer s G us Q E (hr.deeper _) hsp
  have I1 : Inv (cxOf CX0 P w K mg base N qual (defScope st) f cd A outer s G E) [] (start N us) G s1 := inv_start S hr.hd e0 (len _ _ _ _ hsp) r into
  refine ⟨lims.keeps into.toInCall.keep, codeAny_func (wpAny_mono (ht.nox.run [] s1 (start N us) G _ I1 go) (fun fl s' hs => ?_) fun e s' hs => hs)⟩
  match fl, hs with
  | .ret u, ⟨v, σ', G', J, rv, q⟩ => exact ⟨v, G', J.os, J.bare, J.base, J.hok, rv, q⟩
  | .next, ⟨σ', G', J, q⟩ => exact ⟨V.non, G', J.os, J.bare, J.base, J.hok, (rfl : (Value.none : Value) = Value.none), q⟩
  | .brk, ⟨_, _, _, q⟩ => exact q.elim
  | .cont, ⟨_, _, _, q⟩ => exact q.elim
theorem pe_callR {X : Cx} {x : Str} {p pos : Pos} {e : Expr} {es : List Expr} {t : TA} {k : Nat} {f : Addr} {fd : FuncData} {ps : List Str} {sp : Sp} {ds : List Value} {dvs : List V} {E : XK} (F : FnR X.prog X.w X.K X.mg X.base k f fd ps sp) (hr : Rm k X.A) (hg : Gl X x) (hm : X.mg x = some (.ref f)) (kp : PySem.W.keepIn X.K (.ref f) = true)
    (hb : Binds X.K fd ps ds) (hd : Vals dvs ds) (hx : Passes CX0 X E) (ha : PA X (e :: es) t) (hdb : (x == ("__debug__" : Str)) = false := by decide) (he : starEach (e :: es) X.env = (false, eval e X.env) :: starEach es X.env := by rfl) (hpl : (backTo pos (starEach es X.env)).any (·.1) = false := by rfl) :
    PE X (.Call (.Name x p) (e :: es) [] pos) (tCall sp dvs E t) := by
  refine ⟨fun pins s σ G Q I h => wpAny_Call_Name_kw (ld_glob I hg hm (PySem.W.callWith_K (h₀ := X.base) I.ok.mod.kin kp (thn (ha.run pos pins s σ G _ I h) fun xs s1 ⟨us, G1, I1, r, q⟩ => ⟨I1.kIn, ?_⟩) he hpl) hdb)⟩
  have r2 : Vals (us ++ dvs) (xs ++ ds) := r.append hd
  have ll : (xs ++ ds).length = ps.length := r2.length.symm.trans (F.len _ _ _ _ q)
  refine wpAny_call (codeAny_mono (F.run X.A X.stack s1 G1 ⟨xs, []⟩ (xs ++ ds) (us ++ dvs) Q E hr I1.env0 (hb s1 xs I1.kIn ll) r2 q) fun z s' hq => ?_)
  match z, hq with
  | .error e, hq => exact hx pins σ G1 s1 e s' I1 hq
  | .ok (.ret u), hq => exact I1.after hq
  | .ok .next, hq => exact hq.elim
  | .ok .brk, hq => exact hq.elim
  | .ok .cont, hq => exact hq.elim
end AF
/-! ## C1 -/
namespace AF
open PySem L2
section
variable {P : Program} {w : World} {K : PySem.W.Frag} {mg : Str → Option Value} {base : Heap}
/-! ### _law_prim -/
theorem cnt {n : Nat} {x : V} {a : Nat} (h : x = .int a) : (!decide (V.int n = x)) = !decide (n = a) := by
  subst h
  by_cases e : n = a
  · subst e; simp
  · have : ¬ (V.int n = V.int a) := fun q => e (Int.ofNat.inj (V.int.inj q))
    rw [decide_eq_false this, decide_eq_false e]
theorem ar_law (p : MM.Pr) : V.int ((if (if true = true then !inV (V.str (pstr p)) [V.str "first", V.str "second"] else inV (V.str (pstr p)) [V.str "first", V.str "second"]) = true then (1 : Int) else 0) + 1) = V.int (p.ar : Nat) := by
  cases p <;> decide +kernel
theorem one_of {α : Type} {l : List α} (h : l.length = 1) : ∃ a, l = [a] := by
  match l, h with
  | [a], _ => exact ⟨a, rfl⟩
theorem two_of {α : Type} {l : List α} (h : l.length = 2) : ∃ a b, l = [a, b] := by
  match l, h with
  | [a, b], _ => exact ⟨a, b, rfl⟩
/-- what a value of the law's is for isinstance -/
theorem RepL.ty {F H : Hp} {u : V} {x : MM.Val} (h : RepL F u x) (s : Same F H) : (∃ i, x = .int i ∧ u = .int i ∧ -MM.big ≤ i ∧ i ≤ MM.big) ∨ ((∀ i, x ≠ .int i) ∧ ∃ a xs, u = .ref a ∧ H a = some (.tup xs) ∧ F a = some (.tup xs)) := by
  cases h with
  | int h1 h2 => exact .inl ⟨_, rfl, rfl, h1, h2⟩
  | prim h => exact .inr ⟨fun i z => (nomatch z), _, _, rfl, s _ _ h, h⟩
  | pair h _ _ => exact .inr ⟨fun i z => (nomatch z), _, _, rfl, s _ _ h, h⟩
  | fn h _ _ _ _ _ _ _ => exact .inr ⟨fun i z => (nomatch z), _, _, rfl, s _ _ h, h⟩
theorem kit_tt {K : PySem.W.Frag} : PySem.W.kitOne K (.type "tuple") (.type "tuple") = some true := kit_ty (by decide +kernel)
theorem kit_it {K : PySem.W.Frag} : PySem.W.kitOne K (.type "int") (.type "tuple") = some false := kit_ty (by decide +kernel)
theorem kit_ti {K : PySem.W.Frag} : PySem.W.kitOne K (.type "tuple") (.type "int") = some false := kit_ty (by decide +kernel)
theorem kit_ii {K : PySem.W.Frag} : PySem.W.kitOne K (.type "int") (.type "int") = some true := kit_ty (by decide +kernel)
theorem arith_kind {p : MM.Pr} (h : p ≠ .pair ∧ p ≠ .first ∧ p ≠ .second) (x y : MM.Val) (n : (∀ i, x ≠ .int i) ∨ ∀ i, y ≠ .int i) : MM.prim p [x, y] = .err .kind := by
  obtain ⟨h1, h2, h3⟩ := h
  cases p with
  | pair => exact absurd rfl h1
  | first => exact absurd rfl h2
  | second => exact absurd rfl h3
  | _ =>
    cases x with
    | int i =>
      cases y with
      | int j =>
        rcases n with n | n
        · exact absurd rfl (n i)
        · exact absurd rfl (n j)
      | _ => rfl
    | _ => rfl
theorem b2_bound (b : Bool) : -MM.big ≤ MM.b2 b ∧ MM.b2 b ≤ MM.big := by cases b <;> decide
theorem dec_int (i j : Int) : decide (V.int i = V.int j) = decide (i = j) := by
  by_cases e : i = j
  · subst e; simp
  · rw [decide_eq_false e, decide_eq_false fun q => e (V.int.inj q)]
def sel (a b c : V) : MM.Pr → V
  | .add => a
  | .sub => b
  | _ => c
/-- the three sums of the law's table -/
theorem three_get {p : MM.Pr} (a b c : V) (h : p = .add ∨ p = .sub ∨ p = .mul) : valV (mergeK [] [((Sum.inr "+" : Key), a), (Sum.inr "-", b), (Sum.inr "*", c)]) (Sum.inr (pstr p)) = some (sel a b c p) := by
  show valV (putK (putK (putK [] (Sum.inr "+" : Key) a) (Sum.inr "-" : Key) b) (Sum.inr "*" : Key) c) _ = _
  rw [valV_put, valV_put, valV_put]
  rcases h with rfl | rfl | rfl
  · rw [if_neg (key_ne (by decide +kernel)), if_neg (key_ne (by decide +kernel))]; exact if_pos rfl
  · rw [if_neg (key_ne (by decide +kernel))]; exact if_pos rfl
  · exact if_pos rfl
theorem below {i : Int} (h1 : -MM.big ≤ i) (h2 : i ≤ MM.big) : i.natAbs < 2 ^ 200 := by
  have e : (1000000000000000000000000000000000000000000000000000000000000 : Nat) < 2 ^ 200 := by decide
  unfold MM.big at h1 h2
  omega
theorem big_pow : (10 : Int) ^ (60 : Int).toNat = MM.big := by decide
def spPrimL : Sp := fun vs H Q _ => ∃ (p : MM.Pr) (vl : Addr) (us : List V) (xs : List MM.Val) (F : Hp), vs = [.str (pstr p), .ref vl] ∧ Same F H ∧ H vl = some (.lst us) ∧ us.length ≤ 1000 ∧ RepsL F us xs ∧
  ∀ v F' H', Gr [] F H F' H' → OutL F' v (MM.prim p xs).out → Q v H'
theorem ok_primL (D : Df K mg "_law_prim" s__law_prim p__law_prim) (T : Txt K mg) : FnOk P w K mg base CX0 1 D.f D.fd p__law_prim spPrimL := by
  refine D.F.ok sc__law_prim (fun vs H Q E h => ?_) (fun cdv A outer s H vs Q E hr h => ?_)
  · obtain ⟨p, vl, us, xs, F, rfl, _⟩ := h
    rfl
  obtain ⟨p, vl, us, xs, F, rfl, fh, hvl, lu, rp, k⟩ := h
  have nd := sc__law_prim.nd
  have hu := hu_of hr
  refine ⟨_, (pss_cons (ps_if (pt_cmpR op_ne (pe_callB call_len_seq (by rfl) T.len PySem.boot_len (pa_cons (pv 1) pa_nil)) (pe_op op_add (pe_callTy call_int1 (by rfl) T.int (by decide +kernel) (pa_cons (pe_cmpR op_notIn_seq (pv 0) (pe_lst (pa_cons pe_str (pa_cons pe_str pa_nil))) rfl) pa_nil)) pe_int) (nomark _)) (pss_one (ps_ret (pe_tup (pa_cons pe_str (pa_cons pe_str pa_nil))))) pss_nil)
    (pss_cons (ps_if (pt_cmpR op_eq (pv 0) pe_str (nomark _)) (pss_one (ps_ret (pe_tup (pa_cons pe_str (pa_cons (pe_tup (pa_cons pe_str (pa_cons (pe_ix ix_list (pv 1) pe_int (fun _ _ => rfl)) (pa_cons (pe_ix ix_list (pv 1) pe_int (fun _ _ => rfl)) pa_nil)))) pa_nil))))) pss_nil)
    (pss_cons (ps_if (PW.pt (pw_or (pt_cmpR op_eq (pv 0) pe_str (nomark _)) (pw_or1 (pt_cmpR op_eq (pv 0) pe_str (nomark _))))) (pss_cons (ps_if (PW.pt (pw_or (pt_not (pt_val (pe_callB call_isi (by rfl) T.isinstance (by decide +kernel) (pa_cons (pe_ix ix_list (pv 1) pe_int (fun _ _ => rfl)) (pa_cons (pe_bltn (v := .ty "tuple") (u := .type "tuple") (by rfl) T.tuple (by decide +kernel) rfl) pa_nil))))) (pw_or1 (pt_cmpR op_ne (pe_ix ix_tup (pe_ix ix_list (pv 1) pe_int (fun _ _ => rfl)) pe_int (fun _ _ => rfl)) pe_str (nomark _))))) (pss_one (ps_ret (pe_tup (pa_cons pe_str (pa_cons pe_str pa_nil))))) pss_nil)
    (pss_one (ps_ret (pe_tup (pa_cons pe_str (pa_cons (pe_ix ix_tup (pe_ix ix_list (pv 1) pe_int (fun _ _ => rfl)) (pe_op op_add pe_int (pe_callTy call_int1 (by rfl) T.int (by decide +kernel) (pa_cons (pe_cmpR op_eq (pv 0) pe_str (nomark _)) pa_nil))) (fun _ _ => rfl)) pa_nil)))))) pss_nil)
    (pss_cons (ps_if (PW.pt (pw_or (pt_not (pt_val (pe_callB call_isi (by rfl) T.isinstance (by decide +kernel) (pa_cons (pe_ix ix_list (pv 1) pe_int (fun _ _ => rfl)) (pa_cons (pe_bltn (v := .ty "int") (u := .type "int") (by rfl) T.int (by decide +kernel) rfl) pa_nil))))) (pw_or1 (pt_not (pt_val (pe_callB call_isi (by rfl) T.isinstance (by decide +kernel) (pa_cons (pe_ix ix_list (pv 1) pe_int (fun _ _ => rfl)) (pa_cons (pe_bltn (v := .ty "int") (u := .type "int") (by rfl) T.int (by decide +kernel) rfl) pa_nil)))))))) (pss_one (ps_ret (pe_tup (pa_cons pe_str (pa_cons pe_str pa_nil))))) pss_nil)
    (pss_cons (ps_asg (pv 1) (pg_unl rfl (pgs_cons (pg_name (i := 2) nd rfl (Or.inl rfl)) (pgs_cons (pg_name (i := 3) nd rfl (Or.inl rfl)) pgs_nil))))
    (pss_cons (ps_if (pt_cmpR op_eq (pv 0) pe_str (nomark _)) (pss_one (ps_ret (pe_tup (pa_cons pe_str (pa_cons (pe_callTy call_int1 (by rfl) T.int (by decide +kernel) (pa_cons (pe_cmpR op_lt (pv 2) (pv 3) (nomark _)) pa_nil)) pa_nil))))) pss_nil)
    (pss_cons (ps_if (pt_cmpR op_eq (pv 0) pe_str (nomark _)) (pss_one (ps_ret (pe_tup (pa_cons pe_str (pa_cons (pe_callTy call_int1 (by rfl) T.int (by decide +kernel) (pa_cons (pe_cmpR op_eq (pv 2) (pv 3) (nomark _)) pa_nil)) pa_nil))))) pss_nil)
    (pss_cons (ps_set (i := 4) nd rfl (Or.inl rfl) (pe_dget hu (pe_disp (pps_cons pe_str (pe_op op_add (pv 2) (pv 3)) (pps_cons pe_str (pe_op op_sub (pv 2) (pv 3)) (pps_cons pe_str (pe_op op_mulW (pv 2) (pv 3)) pps_nil))) (by rfl) (by rfl) (fun z => by cases z) (by decide)) (pv 0) (fun _ _ => rfl)))
    (pss_cons (ps_if (PW.pt (pw_or (pt_cmpR op_gt (pv 4) (pe_op op_pow pe_int pe_int) (nomark _)) (pw_or1 (pt_cmpR op_lt (pv 4) (pe_op op_sub pe_int (pe_op op_pow pe_int pe_int)) (nomark _))))) (pss_one (ps_ret (pe_tup (pa_cons pe_str (pa_cons pe_str pa_nil))))) pss_nil)
    (pss_one (ps_ret (pe_tup (pa_cons pe_str (pa_cons (pv 4) pa_nil)))))))))))))), ?_⟩
  refine ⟨_, rfl, vl, _, rfl, .inl (SqL.of hvl), _, rfl, sz2, fun l hl => ⟨l, _, rfl, .inl (SqL.of upd_same), rfl, rfl, .inr ⟨_, rfl, _, _, rfl, rfl, rfl, _, rfl, ?_⟩⟩⟩
  have G1 : Gr [] F H F (upd H l (.lst [.str "first", .str "second"])) := (Gr.refl fh).loc hl _
  have ev : upd H l (.lst [.str "first", .str "second"]) vl = some (.lst us) := by rw [upd_ne (ne_of_none hvl hl)]; exact hvl
  generalize upd H l (.lst [.str "first", .str "second"]) = H1 at G1 ev
  -- the outcomes
  have err : ∀ e : MM.Er, MM.prim p xs = .err e → ∀ t, H1 t = none → Q (.ref t) (upd H1 t (.tup [.str "error", .str (estr e)])) := fun e h t ht => by
    refine k _ _ _ (G1.new ht _) ?_
    rw [h]; exact .err upd_same
  refine ite2 (fun c => ⟨sz2, fun t ht => err .count (MM.prim_count p xs fun z => ?_) t ht⟩) (fun c => ?_)
  · have c2 := (cnt (n := us.length) (ar_law p)).symm.trans c
    rw [rp.len, z] at c2
    simp at c2
  have hl2 : us.length = p.ar := by
    have c2 : (!decide (us.length = p.ar)) = false := (cnt (n := us.length) (ar_law p)).symm.trans (Bool.eq_false_iff.mpr c)
    simpa using c2
  have hl3 : xs.length = p.ar := by rw [← rp.len]; exact hl2
  -- pair
  refine ⟨_, rfl, rfl, _, rfl, ite2 (fun c1 => ?_) (fun c1 => ?_)⟩
  · have hp : p = .pair := by
      revert c1
      cases p <;> first | (intro _; rfl) | (intro c; exact absurd c (by decide +kernel))
    subst hp
    obtain ⟨x, y, rfl⟩ := two_of hl3
    obtain ⟨u, v, rfl⟩ := two_of hl2
    obtain ⟨r1, r2⟩ := rp.tail
    obtain ⟨r2, _⟩ := r2.tail
    refine ⟨_, rfl, vl, _, 0, _, rfl, rfl, SqL.of ev, rfl, _, rfl, vl, _, 1, _, rfl, rfl, SqL.of ev, rfl, sz3, fun t1 h1 => ⟨sz2, fun t2 h2 => ?_⟩⟩
    have sm := (same_upd (G1.fh.free h1) (.tup [.str "pair", u, v])).trans (same_upd ((G1.new h1 (.tup [.str "pair", u, v])).fh.free h2) (.tup [.str "value", .ref t1]))
    exact k _ _ _ ((G1.new h1 _).new h2 _) (.val upd_same (.pair (by rw [upd_ne (upd_none h2).2.symm, upd_same]) (r1.same sm) (r2.same sm)))
  -- first, second
  refine ⟨_, rfl, rfl, _, rfl, ?_⟩
  by_cases hp : p = .first ∨ p = .second
  · have h1 : p.ar = 1 := by rcases hp with rfl | rfl <;> rfl
    obtain ⟨x, rfl⟩ := one_of (hl3.trans h1)
    obtain ⟨u, rfl⟩ := one_of (hl2.trans h1)
    have r := rp.tail.1
    refine ite2 (fun _ => iteT ?_) (fun c2 => ⟨_, rfl, rfl, _, rfl, ite2 (fun _ => ?_) (fun c3 => ?_)⟩)
    rotate_left 2
    · rcases hp with rfl | rfl
      · exact absurd (by decide +kernel) c2
      · exact absurd (by decide +kernel) c3
    all_goals
      have kind : (∀ a b, x ≠ .pair a b) → MM.prim p [x] = .err .kind := fun n => by
        rcases hp with rfl | rfl <;> (cases x <;> first | rfl | exact absurd rfl (n _ _))
      cases r with
      | int _ _ => exact ⟨_, rfl, vl, _, 0, _, rfl, rfl, SqL.of ev, rfl, _, _, _, _, _, rfl, .ty _, .base (.int _), kit_it, _, rfl, iteT (iteT ⟨sz2, fun t ht => err .kind (kind fun _ _ z => (nomatch z)) t ht⟩)⟩
      | prim h =>
        refine ⟨_, rfl, vl, _, 0, _, rfl, rfl, SqL.of ev, rfl, _, _, _, _, _, rfl, .ty _, .base (.tup (G1.up h)), kit_tt, _, rfl, iteF ?_⟩
        exact ⟨_, rfl, vl, _, 0, _, rfl, rfl, SqL.of ev, rfl, _, _, 0, _, rfl, rfl, SqT.of (G1.up h), rfl, rfl, _, rfl, iteT ⟨sz2, fun t ht => err .kind (kind fun _ _ z => (nomatch z)) t ht⟩⟩
      | fn h _ _ _ _ _ _ _ =>
        refine ⟨_, rfl, vl, _, 0, _, rfl, rfl, SqL.of ev, rfl, _, _, _, _, _, rfl, .ty _, .base (.tup (G1.up h)), kit_tt, _, rfl, iteF ?_⟩
        exact ⟨_, rfl, vl, _, 0, _, rfl, rfl, SqL.of ev, rfl, _, _, 0, _, rfl, rfl, SqT.of (G1.up h), rfl, rfl, _, rfl, iteT ⟨sz2, fun t ht => err .kind (kind fun _ _ z => (nomatch z)) t ht⟩⟩
      | pair h ra rb =>
        refine ⟨_, rfl, vl, _, 0, _, rfl, rfl, SqL.of ev, rfl, _, _, _, _, _, rfl, .ty _, .base (.tup (G1.up h)), kit_tt, _, rfl, iteF ?_⟩
        refine ⟨_, rfl, vl, _, 0, _, rfl, rfl, SqL.of ev, rfl, _, _, 0, _, rfl, rfl, SqT.of (G1.up h), rfl, rfl, _, rfl, iteF ?_⟩
        rcases hp with rfl | rfl
        · refine ⟨_, rfl, vl, _, 0, _, rfl, rfl, SqL.of ev, rfl, _, rfl, rfl, .inr ⟨_, rfl, _, _, rfl, rfl, _, _, 1, _, rfl, rfl, SqT.of (G1.up h), rfl, sz2, fun t ht => ?_⟩⟩
          exact k _ _ _ (G1.new ht _) (.val upd_same (ra.same (same_upd (G1.fh.free ht) _)))
        · refine ⟨_, rfl, vl, _, 0, _, rfl, rfl, SqL.of ev, rfl, _, rfl, rfl, .inr ⟨_, rfl, _, _, rfl, rfl, _, _, 2, _, rfl, rfl, SqT.of (G1.up h), rfl, sz2, fun t ht => ?_⟩⟩
          exact k _ _ _ (G1.new ht _) (.val upd_same (rb.same (same_upd (G1.fh.free ht) _)))
  -- reckoning
  have hp0 : p ≠ .pair ∧ p ≠ .first ∧ p ≠ .second := ⟨fun z => c1 (by rw [z]; decide +kernel), fun z => hp (.inl z), fun z => hp (.inr z)⟩
  have h2 : p.ar = 2 := by
    obtain ⟨h1, h2, h3⟩ := hp0
    cases p <;> first | rfl | exact absurd rfl h1 | exact absurd rfl h2 | exact absurd rfl h3
  obtain ⟨x, y, rfl⟩ := two_of (hl3.trans h2)
  obtain ⟨u, v, rfl⟩ := two_of (hl2.trans h2)
  obtain ⟨rx, ry⟩ := rp.tail
  have ry := ry.tail.1
  refine ite2 (fun c2 => ?_) (fun _ => ⟨_, rfl, rfl, _, rfl, ite2 (fun c3 => ?_) (fun _ => ?_)⟩)
  · exfalso
    obtain ⟨h1, h2, h3⟩ := hp0
    revert c2
    cases p <;> first | exact absurd rfl h1 | exact absurd rfl h2 | exact absurd rfl h3 | decide +kernel
  · exfalso
    obtain ⟨h1, h2, h3⟩ := hp0
    revert c3
    cases p <;> first | exact absurd rfl h1 | exact absurd rfl h2 | exact absurd rfl h3 | decide +kernel
  rcases rx.ty G1.fh with ⟨i, rfl, rfl, i1, i2⟩ | ⟨nx, a, as, rfl, ha, _⟩
  · rcases ry.ty G1.fh with ⟨j, rfl, rfl, j1, j2⟩ | ⟨ny, b, bs, rfl, hb, _⟩
    · refine ⟨_, rfl, vl, _, 0, _, rfl, rfl, SqL.of ev, rfl, _, _, _, _, _, rfl, .ty _, .base (.int _), kit_ii, _, rfl, iteF ?_⟩
      refine ⟨_, rfl, vl, _, 1, _, rfl, rfl, SqL.of ev, rfl, _, _, _, _, _, rfl, .ty _, .base (.int _), kit_ii, _, rfl, iteF ?_⟩
      refine ⟨_, rfl, vl, _, rfl, SqL.of ev, rfl, _, _, rfl, _, _, rfl, rfl, ?_⟩
      refine ⟨_, rfl, rfl, _, rfl, ite2 (fun c4 => ?_) (fun c4 => ⟨_, rfl, rfl, _, rfl, ite2 (fun c5 => ?_) (fun c5 => ?_)⟩)⟩
      · have e : p = .lt := by
          obtain ⟨h1, h2, h3⟩ := hp0
          revert c4
          cases p <;> first | (intro _; rfl) | (intro c; exact absurd c (by decide +kernel))
        subst e
        refine ⟨_, rfl, _, rfl, _, _, rfl, rfl, .inr ⟨_, rfl, sz2, fun t ht => ?_⟩⟩
        exact k _ _ _ (G1.new ht _) (.val upd_same (.int (b2_bound _).1 (b2_bound _).2))
      · have e : p = .eq := by
          obtain ⟨h1, h2, h3⟩ := hp0
          revert c5
          cases p <;> first | (intro _; rfl) | (intro c; exact absurd c (by decide +kernel))
        subst e
        refine ⟨_, rfl, _, rfl, rfl, .inr ⟨_, rfl, sz2, fun t ht => ?_⟩⟩
        rw [dec_int]
        exact k _ _ _ (G1.new ht _) (.val upd_same (.int (b2_bound _).1 (b2_bound _).2))
      · have e : p = .add ∨ p = .sub ∨ p = .mul := by
          obtain ⟨h1, h2, h3⟩ := hp0
          revert c4 c5
          cases p <;> first
            | (intro _ _; exact .inl rfl)
            | (intro _ _; exact .inr (.inl rfl))
            | (intro _ _; exact .inr (.inr rfl))
            | exact absurd rfl h1
            | exact absurd rfl h2
            | exact absurd rfl h3
            | (intro c _; exact absurd (by decide +kernel) c)
            | (intro _ c; exact absurd (by decide +kernel) c)
        intro d hd
        refine ⟨_, rfl, _, rfl, _, _, rfl, rfl, _, rfl, _, rfl, _, _, rfl, rfl, _, rfl, _, rfl, _, _, rfl, rfl, wide_mul (below i1 i2) (below j1 j2) (by decide) (by decide) (by decide), upd_same, [((Sum.inr "+" : Key), V.int (i + j)), (Sum.inr "-", V.int (i - j)), (Sum.inr "*", V.int (i * j))], rfl, (by show 3 ≤ 15; decide), ?_⟩
        have G2 := (G1.loc hd (.dK [])).put (p := d) (G1.fh.free hd) (.inr (G1.back hd)) (.dK (mergeK [] [((Sum.inr "+" : Key), V.int (i + j)), (Sum.inr "-", V.int (i - j)), (Sum.inr "*", V.int (i * j))]))
        have dg := DGet.k (H := upd (upd H1 d (.dK [])) d (.dK (mergeK [] [((Sum.inr "+" : Key), V.int (i + j)), (Sum.inr "-", V.int (i - j)), (Sum.inr "*", V.int (i * j))]))) (k := Sum.inr (pstr p)) upd_same
        rw [three_get _ _ _ e] at dg
        have out : ∃ n : Int, sel (V.int (i + j)) (V.int (i - j)) (V.int (i * j)) p = V.int n ∧ MM.prim p [.int i, .int j] = MM.sized n := by
          rcases e with rfl | rfl | rfl
          · exact ⟨_, rfl, rfl⟩
          · exact ⟨_, rfl, rfl⟩
          · exact ⟨_, rfl, rfl⟩
        obtain ⟨n, e1, e2⟩ := out
        rw [e1] at dg
        rw [e2] at k
        refine ⟨_, rfl, d, _, rfl, dg, ?_⟩
        have fin : ∀ e : MM.Er, MM.sized n = .err e → ∀ t, upd (upd H1 d (.dK [])) d (.dK (mergeK [] [((Sum.inr "+" : Key), V.int (i + j)), (Sum.inr "-", V.int (i - j)), (Sum.inr "*", V.int (i * j))])) t = none → Q (.ref t) (upd (upd (upd H1 d (.dK [])) d (.dK (mergeK [] [((Sum.inr "+" : Key), V.int (i + j)), (Sum.inr "-", V.int (i - j)), (Sum.inr "*", V.int (i * j))]))) t (.tup [.str "error", .str (estr e)])) := fun e h t ht => by
          refine k _ _ _ (G2.new ht _) ?_
          rw [h]; exact .err upd_same
        refine ⟨_, rfl, _, _, rfl, rfl, ⟨by decide, by decide, by decide⟩, _, _, rfl, rfl, _, rfl, ite2 (fun c6 => iteT ⟨sz2, fun t ht => fin .size ?_ t ht⟩) (fun c6 => ?_)⟩
        · have c7 : (10 : Int) ^ (60 : Int).toNat < n := of_decide_eq_true c6
          rw [big_pow] at c7
          unfold MM.sized
          rw [if_pos (.inl c7)]
        refine ⟨_, rfl, _, _, rfl, rfl, ⟨by decide, by decide, by decide⟩, _, _, rfl, rfl, _, _, rfl, rfl, _, rfl, ite2 (fun c8 => ⟨sz2, fun t ht => fin .size ?_ t ht⟩) (fun c8 => ⟨_, rfl, sz2, fun t ht => ?_⟩)⟩
        · have c9 : n < 0 - (10 : Int) ^ (60 : Int).toNat := of_decide_eq_true c8
          rw [big_pow] at c9
          unfold MM.sized
          rw [if_pos (.inr (by omega))]
        · have c7 : ¬ (10 : Int) ^ (60 : Int).toNat < n := of_decide_eq_false (Bool.eq_false_iff.mpr c6)
          have c9 : ¬ n < 0 - (10 : Int) ^ (60 : Int).toNat := of_decide_eq_false (Bool.eq_false_iff.mpr c8)
          rw [big_pow] at c7 c9
          refine k _ _ _ (G2.new ht _) ?_
          unfold MM.sized
          rw [if_neg (by omega)]
          exact .val upd_same (.int (by omega) (by omega))
    · exact ⟨_, rfl, vl, _, 0, _, rfl, rfl, SqL.of ev, rfl, _, _, _, _, _, rfl, .ty _, .base (.int _), kit_ii, _, rfl, iteF ⟨_, rfl, vl, _, 1, _, rfl, rfl, SqL.of ev, rfl, _, _, _, _, _, rfl, .ty _, .base (.tup hb), kit_ti, _, rfl, iteT ⟨sz2, fun t ht => err .kind (arith_kind hp0 _ _ (.inr ny)) t ht⟩⟩⟩
  · exact ⟨_, rfl, vl, _, 0, _, rfl, rfl, SqL.of ev, rfl, _, _, _, _, _, rfl, .ty _, .base (.tup ha), kit_ti, _, rfl, iteT (iteT ⟨sz2, fun t ht => err .kind (arith_kind hp0 _ _ (.inl nx)) t ht⟩)⟩
end
end AF
/-! ## C2 -/
namespace AF
open PySem L2
section
variable {P : Program} {w : World} {K : PySem.W.Frag} {mg : Str → Option Value} {base : Heap}
/-! ### _law_with -/
def spWith (K : PySem.W.Frag) : Sp := fun vs H Q _ => ∃ (e nb vl : Addr) (F : Hp) (env : MM.Env) (ns : List Int) (us : List V) (xs : List MM.Val), vs = [.ref e, .ref nb, .ref vl] ∧ Same F H ∧ EnvL F e env ∧ (SqL K H nb (ns.map V.int) ∨ SqT K H nb (ns.map V.int)) ∧ Num ns ∧
  H vl = some (.lst us) ∧ RepsL F us xs ∧ ns.length = xs.length ∧ ∀ d F' H', Gr [] F H F' H' → EnvL F' d (env.puts ns xs) → Q (.ref d) H'
theorem seq_upd {K : PySem.W.Frag} {H : Hp} {nb d : Addr} {xs : List V} {o u : HO} (hd : H d = some u) (h1 : ∀ ys, u ≠ .lst ys) (h2 : ∀ ys, u ≠ .tup ys) (h3 : ∀ ob z, u ≠ .frz ob z) (h : SqL K H nb xs ∨ SqT K H nb xs) : SqL K (upd H d o) nb xs ∨ SqT K (upd H d o) nb xs := by
  rcases h with ((h | ⟨ob, h⟩) | h) | ((h | ⟨ob, h⟩) | h)
  · have n : nb ≠ d := fun e => by rw [e, hd] at h; exact h1 _ (Option.some.inj h)
    exact .inl (.inl (.inl (by rw [upd_ne n]; exact h)))
  · have n : nb ≠ d := fun e => by rw [e, hd] at h; exact h3 _ _ (Option.some.inj h)
    exact .inl (.inl (.inr ⟨ob, by rw [upd_ne n]; exact h⟩))
  · exact .inl (.inr h)
  · have n : nb ≠ d := fun e => by rw [e, hd] at h; exact h2 _ (Option.some.inj h)
    exact .inr (.inl (.inl (by rw [upd_ne n]; exact h)))
  · have n : nb ≠ d := fun e => by rw [e, hd] at h; exact h3 _ _ (Option.some.inj h)
    exact .inr (.inl (.inr ⟨ob, by rw [upd_ne n]; exact h⟩))
  · exact .inr (.inr h)
theorem seq_new {K : PySem.W.Frag} {H : Hp} {nb d : Addr} {xs : List V} {o : HO} (hd : H d = none) (h : SqL K H nb xs ∨ SqT K H nb xs) : SqL K (upd H d o) nb xs ∨ SqT K (upd H d o) nb xs := by
  rcases h with ((h | ⟨ob, h⟩) | h) | ((h | ⟨ob, h⟩) | h)
  · exact .inl (.inl (.inl (by rw [upd_ne (ne_of_none h hd)]; exact h)))
  · exact .inl (.inl (.inr ⟨ob, by rw [upd_ne (ne_of_none h hd)]; exact h⟩))
  · exact .inl (.inr h)
  · exact .inr (.inl (.inl (by rw [upd_ne (ne_of_none h hd)]; exact h)))
  · exact .inr (.inl (.inr ⟨ob, by rw [upd_ne (ne_of_none h hd)]; exact h⟩))
  · exact .inr (.inr h)
theorem ok_with (D : Df K mg "_law_with" s__law_with p__law_with) (T : Txt K mg) : FnOk P w K mg base CX0 1 D.f D.fd p__law_with (spWith K) := by
  refine D.F.ok sc__law_with (fun vs H Q E h => ?_) (fun cdv A outer s H vs Q E hr h => ?_)
  · obtain ⟨e, nb, vl, F, env, ns, us, xs, rfl, _⟩ := h
    rfl
  obtain ⟨e, nb, vl, F, env, ns, us, xs, rfl, fh, he, hn, num, hv, rp, ll, k⟩ := h
  have nd := sc__law_with.nd
  have hu := hu_of hr
  obtain ⟨kv0, hk0, ok0, dm0, rp0⟩ := he.ex
  refine ⟨_, (pss_cons (ps_set (i := 3) nd rfl (Or.inl rfl) (pe_callTy call_dictD (by rfl) T.dict (by decide +kernel) (pa_cons (pv 0) pa_nil)))
    (pss_cons (ps_for PassesOwn.never rfl (pi_range1 rfl T.range (pa_cons (pe_callB call_len_seq (by rfl) T.len PySem.boot_len (pa_cons (pv 1) pa_nil)) pa_nil)) (pg_name (i := 4) nd rfl (Or.inl rfl))
    (pss_one (ps_dput hu (pv 3) (pe_ix ix_seq (pv 1) (pv 4) (fun _ _ => rfl)) (pe_ix ix_list (pv 2) (pv 4) (fun _ _ => rfl)) rfl)))
    (pss_one (ps_ret (pv 3))))), ?_⟩
  refine ⟨_, rfl, e, kv0, rfl, .inl (fh _ _ hk0), fun d hd => ?_⟩
  have df : F d = none := fh.free hd
  have lm : (ns.map V.int).length = ns.length := List.length_map _
  have nm := num.1
  refine ⟨_, rfl, nb, _, rfl, seq_new hd hn, (((ns.map V.int).length : Nat) : Int), rfl, by omega, by omega, for_range (n := ((ns.map V.int).length : Int).toNat) (fun i σ H' => ∃ (v : Option V) (kvs : List (Key × V)) (ei : MM.Env), σ = [some (.ref e), some (.ref nb), some (.ref vl), some (.ref d), v] ∧ Gr [] F H F H' ∧ H' d = some (.dK kvs) ∧ H' vl = some (.lst us) ∧
      (SqL K H' nb (ns.map V.int) ∨ SqT K H' nb (ns.map V.int)) ∧ KvOk kvs ∧ (∀ n, ei.dom n = (valV kvs (.inl n)).isSome) ∧ (∀ (n : Int) (u : V), valV kvs (.inl n) = some u → RepL F u (ei.at_ n)) ∧ ei.puts (ns.drop i) (xs.drop i) = env.puts ns xs)
    ⟨none, kv0, env, rfl, (Gr.refl fh).loc hd _, upd_same, by rw [upd_ne (ne_of_none hv hd)]; exact hv, seq_new hd hn, ok0, dm0, rp0, rfl⟩ ?_ ?_⟩
  · rintro i σ H' hi ⟨v, kvs, ei, rfl, G, ed, ev, en, ok, dm, rps, pu⟩
    have hi1 : i < ns.length := by omega
    have hi2 : i < us.length := by rw [rp.len]; omega
    have hi3 : i < xs.length := by omega
    have nb_ := num.2 _ (List.getElem_mem hi1)
    refine ⟨_, rfl, _, rfl, vl, _, _, us[i], rfl, rfl, SqL.of ev, at_of (j := i) (by omega) (List.getElem?_eq_getElem hi2), _, rfl, _, rfl, _, rfl, ?_⟩
    have ix : ∃ j : Int, j = 0 + (i : Int) ∧ atI (ns.map V.int) j = some (.int ns[i]) := ⟨_, rfl, at_of (j := i) (by omega) (by rw [List.getElem?_map, List.getElem?_eq_getElem hi1] <;> rfl)⟩
    obtain ⟨j, rfl, hj⟩ := ix
    have fin : ∃ a H4, (V.ref d) = .ref a ∧ DPut H' a (.int ns[i]) us[i] H4 ∧ ∃ (v : Option V) (kvs : List (Key × V)) (ei : MM.Env), ([some (.ref e), some (.ref nb), some (.ref vl), some (.ref d), some (.int (0 + (i : Int)))] : L2.St) = [some (.ref e), some (.ref nb), some (.ref vl), some (.ref d), v] ∧ Gr [] F H F H4 ∧ H4 d = some (.dK kvs) ∧ H4 vl = some (.lst us) ∧
      (SqL K H4 nb (ns.map V.int) ∨ SqT K H4 nb (ns.map V.int)) ∧ KvOk kvs ∧ (∀ n, ei.dom n = (valV kvs (.inl n)).isSome) ∧ (∀ (n : Int) (u : V), valV kvs (.inl n) = some u → RepL F u (ei.at_ n)) ∧ ei.puts (ns.drop (i + 1)) (xs.drop (i + 1)) = env.puts ns xs := by
      refine ⟨d, _, rfl, DPut.k (k := Sum.inl ns[i]) ed (small1000 (Nat.le_trans ok.len (by decide))), _, putK kvs (Sum.inl ns[i]) us[i], ei.put ns[i] xs[i], rfl, G.put df (.inr hd) _, upd_same, ?_, ?_, ok.put nb_.1 nb_.2 _, fun n => ?_, fun n u h => ?_, ?_⟩
      · rw [upd_ne (ne_of ev ed (by intro z; cases z))]; exact ev
      · exact seq_upd ed (fun _ z => by cases z) (fun _ z => by cases z) (fun _ _ z => by cases z) en
      · rw [valV_put]
        show (decide (n = ns[i]) || ei.dom n) = _
        by_cases q : n = ns[i]
        · rw [if_pos (by rw [q]), q]; simp
        · rw [if_neg (fun z => q (Sum.inl.inj z)), dm n, decide_eq_false q]; simp
      · rw [valV_put] at h
        show RepL F u (if n = ns[i] then xs[i] else ei.at_ n)
        by_cases q : n = ns[i]
        · rw [if_pos (by rw [q])] at h
          obtain rfl := Option.some.inj h
          rw [if_pos q]
          exact rp.at_ i _ _ (List.getElem?_eq_getElem hi2) (List.getElem?_eq_getElem hi3)
        · rw [if_neg (fun z => q (Sum.inl.inj z))] at h
          rw [if_neg q]
          exact rps n u h
      · rw [← pu, List.drop_eq_getElem_cons hi1, List.drop_eq_getElem_cons hi3] <;> rfl
    rcases en with en' | en'
    · exact .inl ⟨nb, _, _, _, rfl, rfl, en', hj, fin⟩
    · exact .inr (.inl ⟨nb, _, _, _, rfl, rfl, en', hj, fin⟩)
  · rintro σ H' ⟨v, kvs, ei, rfl, G, ed, ev, en, ok, dm, rps, pu⟩
    have e1 : ns.drop ((ns.map V.int).length : Int).toNat = [] := List.drop_eq_nil_of_le (by omega)
    have e2 : xs.drop ((ns.map V.int).length : Int).toNat = [] := List.drop_eq_nil_of_le (by omega)
    rw [e1, e2] at pu
    have pu : ei = env.puts ns xs := pu
    have G2 := G.freeze ed df hd
    refine ⟨_, rfl, k d _ _ G2 ⟨kvs, upd_same, ok, by rw [← pu]; exact dm, by rw [← pu]; exact fun n u h => (rps n u h).same (same_upd df _)⟩⟩
end
end AF
/-! ## C3 -/
namespace AF
open PySem L2
section
variable {P : Program} {w : World} {K : PySem.W.Frag} {mg : Str → Option Value} {base : Heap}
def joinA (xs : List MM.Val) : List MM.Val ⊕ MM.Out → List MM.Val ⊕ MM.Out
  | .inl ys => .inl (xs ++ ys)
  | .inr o => .inr o
theorem joinA_nil (r : List MM.Val ⊕ MM.Out) : joinA [] r = r := by cases r <;> rfl
theorem joinA_snoc {xs : List MM.Val} {x : MM.Val} {r : List MM.Val ⊕ MM.Out} : joinA xs (joinA [x] r) = joinA (xs ++ [x]) r := by
  cases r with
  | inl ys => show Sum.inl (xs ++ ([x] ++ ys)) = Sum.inl (xs ++ [x] ++ ys); rw [List.append_assoc]
  | inr o => rfl
theorem MM.all_stop {r : MM.Core → MM.Env → Nat → MM.Out × Nat} {e : MM.Env} {c : MM.Core} {cs : List MM.Core} {L : Nat} {o : MM.Out} (q : (r c e L).1 = o) (no : ∀ x, o ≠ .val x) : MM.all r e (c :: cs) L = (.inr o, (r c e L).2) := by
  unfold MM.all
  generalize r c e L = p at q ⊢
  obtain ⟨o', L1⟩ := p
  obtain rfl : o' = o := q
  cases o' with
  | val x => exact absurd rfl (no x)
  | err w => rfl
  | steps => rfl
theorem MM.all_step {r : MM.Core → MM.Env → Nat → MM.Out × Nat} {e : MM.Env} {c : MM.Core} {cs : List MM.Core} {L L1 L2 : Nat} {x : MM.Val} {s : List MM.Val ⊕ MM.Out} (h : r c e L = (.val x, L1)) (q : MM.all r e cs L1 = (s, L2)) : MM.all r e (c :: cs) L = (joinA [x] s, L2) := by
  unfold MM.all
  rw [h]
  simp only
  rw [q]
  cases s <;> rfl
/-! ### _law_all over a tuple -/
theorem ok_allT {k : Nat} {ok : MM.Core → Nat → Prop} (D : Df K mg "_law_all" s__law_all p__law_all) (T : Txt K mg) (D_law_run : Df K mg "_law_run" s__law_run p__law_run) {spR : Sp} (G_law_run : FnR P w K mg base k D_law_run.f D_law_run.fd p__law_run spR)
    (hR : ∀ vs H Q E, spRunP ok vs H Q E → spR vs H Q E) : FnR P w K mg base (k + 1) D.f D.fd p__law_all (spAllP true ok) := by
  refine okR D.F sc__law_all (fun vs H Q E h => ?_) (fun cdv A outer s H vs Q E hr h => ?_)
  · obtain ⟨pa, e, wd, tb, dep, L, gs, env, ws, cs, F, rfl, _⟩ := h
    rfl
  obtain ⟨pa, e, wd, tb, dep, L, gs, env, ws, cs, F, rfl, o1, o2, S, he, hp, hl, hpa, k⟩ := h
  have hpa : F pa = some (.tup ws) := hpa
  have nd := sc__law_all.nd
  refine ⟨_, (pss_cons (ps_set (i := 4) nd rfl (Or.inl rfl) (pe_lst pa_nil))
    (pss_cons (ps_for PassesOwn.never rfl (pi_tup (pv 0)) (pg_name (i := 5) nd rfl (Or.inl rfl))
    (pss_cons (ps_set (i := 6) nd rfl (Or.inl rfl) (pe_callR G_law_run (hr.mono (by omega)) rfl D_law_run.m D_law_run.F.kp D_law_run.b .nil pass0 (pa_cons (pv 5) (pa_cons (pv 1) (pa_cons (pv 2) (pa_cons (pv 3) (pa_cons pe_bl pa_nil)))))))
    (pss_cons (ps_if (pt_cmpR op_ne (pe_ix ix_tup (pv 6) pe_int (fun _ _ => rfl)) pe_str (nomark _)) (pss_one (ps_ret (pe_tup (pa_cons (pv 6) (pa_cons (pv 4) pa_nil))))) pss_nil)
    (pss_one (ps_expr (pe_bm PySem.F.plainAttrs_list PySem.F.slot_list_append PySem.F.type_list_append mt_append (pv 4) (pa_cons (pe_ix ix_tup (pv 6) pe_int (fun _ _ => rfl)) pa_nil)))))))
    (pss_one (ps_ret (pe_tup (pa_cons pe_non (pa_cons (pv 4) pa_nil))))))), ?_⟩
  refine ⟨sz0, fun vl hvl => ?_⟩
  have vf : F vl = none := S.fh.free hvl
  have nv : vl ∉ [wd] := S.neN hvl
  have nvw : vl ≠ wd := fun z => nv (List.mem_singleton.mpr z)
  obtain ⟨kvt, htb, _⟩ := S.ht
  have nvt : vl ≠ tb := fun z => by rw [z, htb] at hvl; cases hvl
  have rd : ∀ F' H', Gr [wd] F H F' H' → H' pa = some (.tup ws) := fun F' H' G => G.up (G.mem hpa)
  refine ⟨_, rfl, pa, rfl, ⟨_, SqT.of (rd _ _ ((Gr.refl S.fh).loc hvl _))⟩, for_tup (K := K) (a := pa) (xs := ws) (fun i σ' H' => ∃ (v5 v6 : Option V) (F' : Hp) (Li : Nat) (us : List V) (xs : List MM.Val), σ' = [some (.ref pa), some (.ref e), some (.ref wd), some (.int dep), some (.ref vl), v5, v6] ∧ Gr [wd] F H F' H' ∧ Ws wd tb Li gs F' H' ∧
      H' vl = some (.lst us) ∧ F' vl = none ∧ RepsL F' us xs ∧ us.length = i ∧ (i = 0 ∧ Li = L ∨ Li < L) ∧ ∀ r L2, MM.all (MM.ev gs) env (cs.drop i) Li = (r, L2) → MM.all (MM.ev gs) env cs L = (joinA xs r, L2))
    ⟨none, none, F, L, [], [], rfl, (Gr.refl S.fh).loc hvl _, S.newL hvl _, upd_same, vf, .nil, rfl, .inl ⟨rfl, rfl⟩, fun r L2 q => by rw [joinA_nil]; exact q⟩ (fun i σ' H' _ ⟨_, _, _, _, _, _, _, G, _⟩ => SqT.of (rd _ _ G)) ?_ ?_⟩
  · rintro i u σ' H' hu ⟨v5, v6, F', Li, us, xs, rfl, G, S', ev, vf', rp, li, hL, hall⟩
    have hi : i < ws.length := (List.getElem?_eq_some_iff.mp hu).1
    have hi2 : i < cs.length := by rw [← hp.len]; exact hi
    have hc := hp.at_ i u cs[i] hu (List.getElem?_eq_getElem hi2)
    have dr : cs.drop i = cs[i] :: cs.drop (i + 1) := List.drop_eq_getElem_cons hi2
    have okc : ok cs[i] Li := by
      rcases hL with ⟨rfl, rfl⟩ | h
      · exact o1 _ _ dr
      · exact o2 _ _ h
    refine ⟨_, rfl, _, rfl, _, rfl, _, rfl, hR _ _ _ _ ⟨u, e, wd, tb, dep, false, cs[i], env, Li, gs, F', rfl, okc, S', he.same G.ff, hc.same G.ff, fun v F1 H1 G1' S1 ho => ?_⟩⟩
    have G1 := G.trans G1'
    obtain ⟨ev1, vf1⟩ := G1'.own ev vf' nv
    have stop : ∀ o, (MM.ev gs cs[i] env Li).1 = o → (∀ x, o ≠ .val x) → OutL F1 v o → ∀ t, H1 t = none → Q (.ref t) (upd H1 t (.tup [v, .ref vl])) := fun o q no ho t ht => by
      have al : MM.all (MM.ev gs) env cs L = (.inr o, (MM.ev gs cs[i] env Li).2) := by
        refine hall (.inr o) _ ?_
        rw [dr]
        exact MM.all_stop q no
      refine k t _ _ (G1.new ht _) (by rw [al]; exact S1.newF ht _) ?_
      rw [al]
      exact ⟨v, vl, upd_same, ho.same (same_upd (S1.fh.free ht) _)⟩
    generalize hev : MM.ev gs cs[i] env Li = r at ho S1 stop
    obtain ⟨o, L1⟩ := r
    cases ho with
    | err h =>
      refine ⟨_, rfl, _, _, 0, _, rfl, rfl, SqT.of (S1.fh _ _ h), rfl, rfl, _, rfl, iteT ?_⟩
      exact ⟨_, rfl, _, rfl, sz2, fun t ht => stop _ rfl (fun x z => (nomatch z)) (.err h) t ht⟩
    | steps h =>
      refine ⟨_, rfl, _, _, 0, _, rfl, rfl, SqT.of (S1.fh _ _ h), rfl, rfl, _, rfl, iteT ?_⟩
      exact ⟨_, rfl, _, rfl, sz2, fun t ht => stop _ rfl (fun x z => (nomatch z)) (.steps h) t ht⟩
    | @val a u' x h r =>
      refine ⟨_, rfl, _, _, 0, _, rfl, rfl, SqT.of (S1.fh _ _ h), rfl, rfl, _, rfl, iteF ?_⟩
      refine ⟨_, rfl, .inl ⟨rfl, _, SqL.of ev1⟩, _, rfl, _, _, 1, _, rfl, rfl, SqT.of (S1.fh _ _ h), rfl, vl, _, _, rfl, rfl, ev1, small1000 (by omega), ?_⟩
      refine ⟨_, _, F1, L1, us ++ [u'], xs ++ [x], rfl, G1.put vf1 (.inr hvl) _, S1.putL vf1 nvw nvt _, upd_same, vf1, (rp.same G1'.ff).snoc r, by rw [List.length_append, List.length_singleton, li], .inr ?_, fun r L2 q => ?_⟩
      · have := MM.ev_lt gs hev (fun z => nomatch z)
        rcases hL with ⟨_, rfl⟩ | h <;> omega
      · rw [← joinA_snoc]
        refine hall _ L2 ?_
        rw [dr]
        exact MM.all_step hev q
  · rintro σ' H' ⟨v5, v6, F', Li, us, xs, rfl, G, S', ev, vf', rp, li, hL, hall⟩
    refine ⟨_, rfl, sz2, fun t ht => ?_⟩
    have ntv : vl ≠ t := ne_of_none ev ht
    have al : MM.all (MM.ev gs) env cs L = (.inl xs, Li) := by
      have e0 : cs.drop ws.length = [] := List.drop_eq_nil_of_le (by rw [← hp.len]; exact Nat.le_refl _)
      have q := hall (.inl []) Li (by rw [e0]; rfl)
      rw [q]
      show (Sum.inl (xs ++ []), Li) = _
      rw [List.append_nil]
    have S2 := (S'.newF ht (.tup [.non, .ref vl])).frz (a := vl) (o := .lst us) (by rw [upd_ne ntv]; exact ev) (by rw [upd_ne ntv]; exact vf') nvw
    have G2 := (G.new ht (.tup [.non, .ref vl])).freeze (p := vl) (o := .lst us) (by rw [upd_ne ntv]; exact ev) (by rw [upd_ne ntv]; exact vf') hvl
    have sm : Same F' (upd (upd F' t (.tup [.non, .ref vl])) vl (.lst us)) := (same_upd (S'.fh.free ht) _).trans (same_upd (by rw [upd_ne ntv]; exact vf') _)
    refine k t _ _ G2 (by rw [al]; exact S2) ?_
    rw [al]
    exact ⟨vl, us, by rw [upd_ne ntv.symm, upd_same], upd_same, rp.same sm⟩
/-! ### _law_all over a list -/
theorem ok_allL {k : Nat} {ok : MM.Core → Nat → Prop} (D : Df K mg "_law_all" s__law_all p__law_all) (T : Txt K mg) (D_law_run : Df K mg "_law_run" s__law_run p__law_run) {spR : Sp} (G_law_run : FnR P w K mg base k D_law_run.f D_law_run.fd p__law_run spR)
    (hR : ∀ vs H Q E, spRunP ok vs H Q E → spR vs H Q E) : FnR P w K mg base (k + 1) D.f D.fd p__law_all (spAllP false ok) := by
  refine okR D.F sc__law_all (fun vs H Q E h => ?_) (fun cdv A outer s H vs Q E hr h => ?_)
  · obtain ⟨pa, e, wd, tb, dep, L, gs, env, ws, cs, F, rfl, _⟩ := h
    rfl
  obtain ⟨pa, e, wd, tb, dep, L, gs, env, ws, cs, F, rfl, o1, o2, S, he, hp, hl, hpa, k⟩ := h
  have hpa : H pa = some (.lst ws) := hpa
  have nd := sc__law_all.nd
  refine ⟨_, (pss_cons (ps_set (i := 4) nd rfl (Or.inl rfl) (pe_lst pa_nil))
    (pss_cons (ps_for PassesOwn.never rfl (pi_list (pv 0)) (pg_name (i := 5) nd rfl (Or.inl rfl))
    (pss_cons (ps_set (i := 6) nd rfl (Or.inl rfl) (pe_callR G_law_run (hr.mono (by omega)) rfl D_law_run.m D_law_run.F.kp D_law_run.b .nil pass0 (pa_cons (pv 5) (pa_cons (pv 1) (pa_cons (pv 2) (pa_cons (pv 3) (pa_cons pe_bl pa_nil)))))))
    (pss_cons (ps_if (pt_cmpR op_ne (pe_ix ix_tup (pv 6) pe_int (fun _ _ => rfl)) pe_str (nomark _)) (pss_one (ps_ret (pe_tup (pa_cons (pv 6) (pa_cons (pv 4) pa_nil))))) pss_nil)
    (pss_one (ps_expr (pe_bm PySem.F.plainAttrs_list PySem.F.slot_list_append PySem.F.type_list_append mt_append (pv 4) (pa_cons (pe_ix ix_tup (pv 6) pe_int (fun _ _ => rfl)) pa_nil)))))))
    (pss_one (ps_ret (pe_tup (pa_cons pe_non (pa_cons (pv 4) pa_nil))))))), ?_⟩
  refine ⟨sz0, fun vl hvl => ?_⟩
  have vf : F vl = none := S.fh.free hvl
  have nv : vl ∉ [wd] := S.neN hvl
  have nvw : vl ≠ wd := fun z => nv (List.mem_singleton.mpr z)
  obtain ⟨kvt, htb, _⟩ := S.ht
  have nvt : vl ≠ tb := fun z => by rw [z, htb] at hvl; cases hvl
  have npw : pa ∉ [wd] := fun m => by
    obtain ⟨dp, hw⟩ := S.hw
    rw [List.mem_singleton.mp m, hw] at hpa; cases hpa
  have rd : ∀ F' H', Gr [wd] F H F' H' → H' pa = some (.lst ws) := fun F' H' G => G.keep pa _ npw hpa
  refine ⟨_, rfl, pa, rfl, ⟨_, SqL.of (rd _ _ ((Gr.refl S.fh).loc hvl _))⟩, for_list (K := K) (a := pa) (xs := ws) (fun i σ' H' => ∃ (v5 v6 : Option V) (F' : Hp) (Li : Nat) (us : List V) (xs : List MM.Val), σ' = [some (.ref pa), some (.ref e), some (.ref wd), some (.int dep), some (.ref vl), v5, v6] ∧ Gr [wd] F H F' H' ∧ Ws wd tb Li gs F' H' ∧
      H' vl = some (.lst us) ∧ F' vl = none ∧ RepsL F' us xs ∧ us.length = i ∧ (i = 0 ∧ Li = L ∨ Li < L) ∧ ∀ r L2, MM.all (MM.ev gs) env (cs.drop i) Li = (r, L2) → MM.all (MM.ev gs) env cs L = (joinA xs r, L2))
    ⟨none, none, F, L, [], [], rfl, (Gr.refl S.fh).loc hvl _, S.newL hvl _, upd_same, vf, .nil, rfl, .inl ⟨rfl, rfl⟩, fun r L2 q => by rw [joinA_nil]; exact q⟩ (fun i σ' H' _ ⟨_, _, _, _, _, _, _, G, _⟩ => SqL.of (rd _ _ G)) ?_ ?_⟩
  · rintro i u σ' H' hu ⟨v5, v6, F', Li, us, xs, rfl, G, S', ev, vf', rp, li, hL, hall⟩
    have hi : i < ws.length := (List.getElem?_eq_some_iff.mp hu).1
    have hi2 : i < cs.length := by rw [← hp.len]; exact hi
    have hc := hp.at_ i u cs[i] hu (List.getElem?_eq_getElem hi2)
    have dr : cs.drop i = cs[i] :: cs.drop (i + 1) := List.drop_eq_getElem_cons hi2
    have okc : ok cs[i] Li := by
      rcases hL with ⟨rfl, rfl⟩ | h
      · exact o1 _ _ dr
      · exact o2 _ _ h
    refine ⟨_, rfl, _, rfl, _, rfl, _, rfl, hR _ _ _ _ ⟨u, e, wd, tb, dep, false, cs[i], env, Li, gs, F', rfl, okc, S', he.same G.ff, hc.same G.ff, fun v F1 H1 G1' S1 ho => ?_⟩⟩
    have G1 := G.trans G1'
    obtain ⟨ev1, vf1⟩ := G1'.own ev vf' nv
    have stop : ∀ o, (MM.ev gs cs[i] env Li).1 = o → (∀ x, o ≠ .val x) → OutL F1 v o → ∀ t, H1 t = none → Q (.ref t) (upd H1 t (.tup [v, .ref vl])) := fun o q no ho t ht => by
      have al : MM.all (MM.ev gs) env cs L = (.inr o, (MM.ev gs cs[i] env Li).2) := by
        refine hall (.inr o) _ ?_
        rw [dr]
        exact MM.all_stop q no
      refine k t _ _ (G1.new ht _) (by rw [al]; exact S1.newF ht _) ?_
      rw [al]
      exact ⟨v, vl, upd_same, ho.same (same_upd (S1.fh.free ht) _)⟩
    generalize hev : MM.ev gs cs[i] env Li = r at ho S1 stop
    obtain ⟨o, L1⟩ := r
    cases ho with
    | err h =>
      refine ⟨_, rfl, _, _, 0, _, rfl, rfl, SqT.of (S1.fh _ _ h), rfl, rfl, _, rfl, iteT ?_⟩
      exact ⟨_, rfl, _, rfl, sz2, fun t ht => stop _ rfl (fun x z => (nomatch z)) (.err h) t ht⟩
    | steps h =>
      refine ⟨_, rfl, _, _, 0, _, rfl, rfl, SqT.of (S1.fh _ _ h), rfl, rfl, _, rfl, iteT ?_⟩
      exact ⟨_, rfl, _, rfl, sz2, fun t ht => stop _ rfl (fun x z => (nomatch z)) (.steps h) t ht⟩
    | @val a u' x h r =>
      refine ⟨_, rfl, _, _, 0, _, rfl, rfl, SqT.of (S1.fh _ _ h), rfl, rfl, _, rfl, iteF ?_⟩
      refine ⟨_, rfl, .inl ⟨rfl, _, SqL.of ev1⟩, _, rfl, _, _, 1, _, rfl, rfl, SqT.of (S1.fh _ _ h), rfl, vl, _, _, rfl, rfl, ev1, small1000 (by omega), ?_⟩
      refine ⟨_, _, F1, L1, us ++ [u'], xs ++ [x], rfl, G1.put vf1 (.inr hvl) _, S1.putL vf1 nvw nvt _, upd_same, vf1, (rp.same G1'.ff).snoc r, by rw [List.length_append, List.length_singleton, li], .inr ?_, fun r L2 q => ?_⟩
      · have := MM.ev_lt gs hev (fun z => nomatch z)
        rcases hL with ⟨_, rfl⟩ | h <;> omega
      · rw [← joinA_snoc]
        refine hall _ L2 ?_
        rw [dr]
        exact MM.all_step hev q
  · rintro σ' H' ⟨v5, v6, F', Li, us, xs, rfl, G, S', ev, vf', rp, li, hL, hall⟩
    refine ⟨_, rfl, sz2, fun t ht => ?_⟩
    have ntv : vl ≠ t := ne_of_none ev ht
    have al : MM.all (MM.ev gs) env cs L = (.inl xs, Li) := by
      have e0 : cs.drop ws.length = [] := List.drop_eq_nil_of_le (by rw [← hp.len]; exact Nat.le_refl _)
      have q := hall (.inl []) Li (by rw [e0]; rfl)
      rw [q]
      show (Sum.inl (xs ++ []), Li) = _
      rw [List.append_nil]
    have S2 := (S'.newF ht (.tup [.non, .ref vl])).frz (a := vl) (o := .lst us) (by rw [upd_ne ntv]; exact ev) (by rw [upd_ne ntv]; exact vf') nvw
    have G2 := (G.new ht (.tup [.non, .ref vl])).freeze (p := vl) (o := .lst us) (by rw [upd_ne ntv]; exact ev) (by rw [upd_ne ntv]; exact vf') hvl
    have sm : Same F' (upd (upd F' t (.tup [.non, .ref vl])) vl (.lst us)) := (same_upd (S'.fh.free ht) _).trans (same_upd (by rw [upd_ne ntv]; exact vf') _)
    refine k t _ _ G2 (by rw [al]; exact S2) ?_
    rw [al]
    exact ⟨vl, us, by rw [upd_ne ntv.symm, upd_same], upd_same, rp.same sm⟩
end
end AF
/-! ## C4 -/
namespace AF
open PySem L2
section
variable {P : Program} {w : World} {K : PySem.W.Frag} {mg : Str → Option Value} {base : Heap}
/-! ### _law_call -/
theorem OutL.ref {F : Hp} {v : V} {o : MM.Out} (h : OutL F v o) : ∃ a, v = .ref a := by cases h <;> exact ⟨_, rfl⟩
theorem cut1 (u : V) (us : List V) : cutV (u :: us) (some 1) none = us := by
  unfold cutV
  rw [show (some (1 : Int)) = some ((1 : Nat) : Int) from rfl, HT.sIx_nat, HT.sIx_none]
  have e : min 1 (u :: us).length = 1 := by rw [List.length_cons]; omega
  rw [e, List.drop_succ_cons, List.drop_zero, List.length_cons]
  exact List.take_of_length_le (by omega)
theorem ok_call {l : Nat} (hl4 : 4 ≤ l) {ok : MM.Core → Nat → Prop} {okC : Nat → Prop} (D : Df K mg "_law_call" s__law_call p__law_call) (T : Txt K mg) (D_law_run : Df K mg "_law_run" s__law_run p__law_run) {spR : Sp} (G_law_run : FnR P w K mg base l D_law_run.f D_law_run.fd p__law_run spR)
    (hR : ∀ vs H Q E, spRunP ok vs H Q E → spR vs H Q E) (D_law_all : Df K mg "_law_all" s__law_all p__law_all) (G_law_all : FnR P w K mg base l D_law_all.f D_law_all.fd p__law_all (spAllP true ok)) (hok : ∀ L, okC L → (∀ c, c.atom → ok c L) ∧ ∀ c L', L' < L → ok c L')
    (D_law_prim : Df K mg "_law_prim" s__law_prim p__law_prim) (D_law_with : Df K mg "_law_with" s__law_with p__law_with) : FnR P w K mg base (l + 1) D.f D.fd p__law_call (spCallP okC) := by
  have G_law_prim := FnR.of (k := 4) (ok_primL (P := P) (w := w) (base := base) D_law_prim T) (by decide)
  have G_law_with := FnR.of (k := 4) (ok_with (P := P) (w := w) (base := base) D_law_with T) (by decide)
  refine okR D.F sc__law_call (fun vs H Q E h => ?_) (fun cdv A outer s H vs Q E hr h => ?_)
  · obtain ⟨a, b, e, wd, tb, dep, last, u, ws, f, as, env, L, gs, F, rfl, _⟩ := h
    rfl
  obtain ⟨a, b, e, wd, tb, dep, last, u, ws, f, as, env, L, gs, F, rfl, oc, S, he, ha, hb, lw, hat, hf, hp, kk⟩ := h
  obtain ⟨o1, o2⟩ := hok L oc
  have nd := sc__law_call.nd
  have hu := hr.hu
  refine ⟨_, (pss_cons (ps_asg (pe_callR G_law_all (hr.mono (by omega)) rfl D_law_all.m D_law_all.F.kp D_law_all.b .nil pass0 (pa_cons (pe_op op_catT (pe_tup (pa_cons (pe_ix ix_tup (pv 0) pe_int (fun _ _ => rfl)) pa_nil)) (pe_ix ix_tup (pv 0) pe_int (fun _ _ => rfl))) (pa_cons (pv 1) (pa_cons (pv 2) (pa_cons (pv 3) pa_nil))))) (pg_tup rfl (pgs_cons (pg_name (i := 5) nd rfl (Or.inl rfl)) (pgs_cons (pg_name (i := 6) nd rfl (Or.inl rfl)) pgs_nil))))
    (pss_cons (ps_if (pt_cmpR op_notN (pv 5) pe_non (nomark _)) (pss_one (ps_ret (pv 5))) pss_nil)
    (pss_cons (ps_set (i := 7) nd rfl (Or.inl rfl) (pe_ix ix_list (pv 6) pe_int (fun _ _ => rfl)))
    (pss_cons (ps_set (i := 6) nd rfl (Or.inl rfl) (pe_slice sl_list (pv 6) (po_some pe_int) po_none))
    (pss_cons (ps_if (PW.pt (pw_or (pt_not (pt_val (pe_callB call_isi (by rfl) T.isinstance (by decide +kernel) (pa_cons (pv 7) (pa_cons (pe_bltn (v := .ty "tuple") (u := .type "tuple") (by rfl) T.tuple (by decide +kernel) rfl) pa_nil))))) (pw_or1 (pt_cmpR op_eq (pe_ix ix_tup (pv 7) pe_int (fun _ _ => rfl)) pe_str (nomark _))))) (pss_one (ps_ret (pe_tup (pa_cons pe_str (pa_cons pe_str pa_nil))))) pss_nil)
    (pss_cons (ps_if (pt_cmpR op_eq (pe_ix ix_tup (pv 7) pe_int (fun _ _ => rfl)) pe_str (nomark _)) (pss_one (ps_ret (pe_callR G_law_prim (hr.mono (by omega)) rfl D_law_prim.m D_law_prim.F.kp D_law_prim.b .nil pass0 (pa_cons (pe_ix ix_tup (pv 7) pe_int (fun _ _ => rfl)) (pa_cons (pv 6) pa_nil))))) pss_nil)
    (pss_cons (ps_if (pt_cmpR op_ne (pe_callB call_len_seq (by rfl) T.len PySem.boot_len (pa_cons (pe_ix ix_tup (pv 7) pe_int (fun _ _ => rfl)) pa_nil)) (pe_callB call_len_seq (by rfl) T.len PySem.boot_len (pa_cons (pv 6) pa_nil)) (nomark _)) (pss_one (ps_ret (pe_tup (pa_cons pe_str (pa_cons pe_str pa_nil))))) pss_nil)
    (pss_cons (ps_set (i := 3) nd rfl (Or.inl rfl) (pe_op op_add (pv 3) (pe_callTy call_int1 (by rfl) T.int (by decide +kernel) (pa_cons (pe_not (pv 4)) pa_nil))))
    (pss_cons (ps_dput hu (pv 2) pe_str (pe_callB (call_max2 rfl) (by rfl) T.max (by decide +kernel) (pa_cons (pe_dget hu (pv 2) pe_str (fun _ _ => rfl)) (pa_cons (pv 3) pa_nil))) rfl)
    (pss_one (ps_ret (pe_callR G_law_run (hr.mono (by omega)) rfl D_law_run.m D_law_run.F.kp D_law_run.b .nil pass0 (pa_cons (pe_ix ix_tup (pv 7) pe_int (fun _ _ => rfl)) (pa_cons (pe_callR G_law_with (hr.mono (by omega)) rfl D_law_with.m D_law_with.F.kp D_law_with.b .nil pass0 (pa_cons (pe_ix ix_tup (pv 7) pe_int (fun _ _ => rfl)) (pa_cons (pe_ix ix_tup (pv 7) pe_int (fun _ _ => rfl)) (pa_cons (pv 6) pa_nil)))) (pa_cons (pv 2) (pa_cons (pv 3) (pa_cons pe_bl pa_nil))))))))))))))))), ?_⟩
  refine ⟨_, rfl, a, _, 1, _, rfl, rfl, SqT.of (S.fh _ _ ha), rfl, sz1, fun t1 h1 => ?_⟩
  have S1 := S.newF h1 (.tup [u])
  have G1 : Gr [wd] F H (upd F t1 (.tup [u])) (upd H t1 (.tup [u])) := (Gr.refl S.fh).new h1 _
  refine ⟨_, rfl, a, _, 2, _, rfl, rfl, SqT.of (G1.up (G1.mem ha)), rfl, t1, b, [u], ws, rfl, rfl, SqT.of upd_same, SqT.of (G1.up (G1.mem hb)), by simp, ?_, ?_⟩
  · rw [List.length_singleton]; exact Nat.le_of_lt (small1000 (by omega))
  -- behind the call of _law_all
  have go : ∀ (pa : Addr) (F2 H2 : Hp), Gr [wd] F H F2 H2 → Ws wd tb L gs F2 H2 → F2 pa = some (.tup (u :: ws)) → ∀ {Q' : VK}, (∀ t F3 H3, Gr [wd] F H F3 H3 → Ws wd tb (MM.all (MM.ev gs) env (f :: as) L).2 gs F3 H3 → AllL F3 t (MM.all (MM.ev gs) env (f :: as) L).1 → Q' (.ref t) H3) → spAllP true ok [.ref pa, .ref e, .ref wd, .int dep] H2 Q' E0 := fun pa F2 H2 G2 S2 hpa Q' kq =>
    ⟨pa, e, wd, tb, dep, L, gs, env, u :: ws, f :: as, F2, rfl, fun c r q => by cases q; exact o1 _ hat, o2, S2, he.same G2.ff, .cons (hf.same G2.ff) (hp.same G2.ff), by rw [List.length_cons]; omega, hpa, fun t F3 H3 G3 S3 h3 => kq t F3 H3 (G2.trans G3) S3 h3⟩
  refine ⟨fun z => ?_, fun _ p hp' => ?_⟩
  case' refine_1 =>
    refine ⟨_, rfl, _, rfl, _, rfl, ?_⟩
    dsimp only [tNil, List.append_nil]
    have hpa : upd F t1 (.tup [u]) t1 = some (.tup (u :: ws)) := by rw [z]; exact upd_same
    refine go t1 _ _ G1 S1 hpa fun t F3 H3 G3 S3 h3 => ?_
  case' refine_2 =>
    refine ⟨_, rfl, _, rfl, _, rfl, ?_⟩
    dsimp only [tNil, List.append_nil]
    refine go p _ _ (G1.new hp' _) (S1.newF hp' _) upd_same fun t F3 H3 G3 S3 h3 => ?_
  all_goals
    have hcr : ∀ r L1, MM.all (MM.ev gs) env (f :: as) L = (r, L1) → MM.callr (MM.ev gs) env f as L = (match r with | .inl [] => (.steps, L1) | .inl (v :: vs) => (MM.callv v vs).go (MM.ev gs) L1 | .inr o => (o, L1)) := fun r L1 q => by
      unfold MM.callr
      rw [q]
      cases r with
      | inl l => cases l <;> rfl
      | inr o => rfl
    generalize hal : MM.all (MM.ev gs) env (f :: as) L = rr at S3 h3
    obtain ⟨r, L1⟩ := rr
    have hcr := hcr r L1 hal
    cases r with
    | inr o =>
      obtain ⟨v, vl, e1, ho⟩ := h3
      obtain ⟨va, rfl⟩ := ho.ref
      refine ⟨t, _, rfl, SqT.of (S3.fh _ _ e1), rfl, _, _, rfl, _, _, rfl, rfl, _, rfl, rfl, _, rfl, iteT ⟨_, rfl, ?_⟩⟩
      exact kk _ _ _ G3 (by rw [hcr]; exact S3) (by rw [hcr]; exact ho)
    | inl vs =>
      obtain ⟨lt, x, xs, rfl⟩ := MM.all_lt gs hal
      obtain ⟨vl, us, e1, e2, rp⟩ := h3
      obtain ⟨u0, us, rfl⟩ : ∃ a r, us = a :: r := by
        have := rp.len
        cases us with
        | nil => simp at this
        | cons a r => exact ⟨a, r, rfl⟩
      obtain ⟨r0, rps⟩ := rp.tail
      refine ⟨t, _, rfl, SqT.of (S3.fh _ _ e1), rfl, _, _, rfl, _, _, rfl, rfl, _, rfl, rfl, _, rfl, iteF ?_⟩
      refine ⟨_, rfl, vl, _, 0, _, rfl, rfl, SqL.of (S3.fh _ _ e2), at_of (j := 0) rfl rfl, ?_⟩
      refine ⟨_, rfl, _, rfl, vl, _, rfl, SqL.of (S3.fh _ _ e2), fun l2 hl2 => ?_⟩
      rw [cut1]
      have lus : us.length ≤ 1000 := by
        have e1 := rps.len
        have e2 := MM.all_len hal
        have e3 := hp.len
        rw [List.length_cons, List.length_cons] at e2
        omega
      have S4 := S3.newL hl2 (.lst us)
      have G4 := G3.loc hl2 (.lst us)
      have wq : ∀ {F' H' : Hp} {L' : Nat}, Gr [wd] F3 (upd H3 l2 (.lst us)) F' H' → (∃ dp, H' wd = some (.dK (wl L' tb dp))) → Ws wd tb L' gs F' H' := fun G h => S4.step G h
      -- an error
      have err : ∀ e : MM.Er, MM.callv x xs = .err e → ∀ t, upd H3 l2 (.lst us) t = none → Q (.ref t) (upd (upd H3 l2 (.lst us)) t (.tup [.str "error", .str (estr e)])) := fun er h t ht => by
        have q : MM.callr (MM.ev gs) env f as L = (.err er, L1) := by rw [hcr]; show (MM.callv x xs).go (MM.ev gs) L1 = _; rw [h]; rfl
        exact kk _ _ _ (G4.new ht _) (by rw [q]; exact S4.newF ht _) (by rw [q]; exact .err upd_same)
      cases r0 with
      | int _ _ => exact ⟨_, rfl, _, _, _, _, _, rfl, .ty _, .base (.int _), kit_it, _, rfl, iteT (iteT ⟨sz2, fun t ht => err .kind rfl t ht⟩)⟩
      | pair h _ _ =>
        refine ⟨_, rfl, _, _, _, _, _, rfl, .ty _, .base (.tup (G4.up h)), kit_tt, _, rfl, iteF ?_⟩
        exact ⟨_, rfl, _, _, 0, _, rfl, rfl, SqT.of (G4.up h), rfl, rfl, _, rfl, iteT ⟨sz2, fun t ht => err .kind rfl t ht⟩⟩
      | @prim fa p h =>
        refine ⟨_, rfl, _, _, _, _, _, rfl, .ty _, .base (.tup (G4.up h)), kit_tt, _, rfl, iteF ?_⟩
        refine ⟨_, rfl, _, _, 0, _, rfl, rfl, SqT.of (G4.up h), rfl, rfl, _, rfl, iteF ?_⟩
        refine ⟨_, rfl, _, _, 0, _, rfl, rfl, SqT.of (G4.up h), rfl, rfl, _, rfl, iteT ?_⟩
        refine ⟨_, rfl, _, _, 1, _, rfl, rfl, SqT.of (G4.up h), rfl, _, rfl, p, l2, us, xs, F3, rfl, S4.fh, upd_same, ?_, rps, fun v F5 H5 G5 ho => ?_⟩
        · exact lus
        · have q : MM.callr (MM.ev gs) env f as L = ((MM.prim p xs).out, L1) := by rw [hcr]; exact MM.prim_go p xs _ L1
          have G5' : Gr [wd] F3 (upd H3 l2 (.lst us)) F5 H5 := G5.mono fun _ z => nomatch z
          obtain ⟨dp, hw⟩ := S4.hw
          exact kk _ _ _ (G4.trans G5') (by rw [q]; exact S4.step G5' ⟨dp, G5.keep wd _ (fun z => nomatch z) hw⟩) (by rw [q]; exact ho)
      | @fn fa fb fd' vb ns c dom en kvs h h1 num hd ok' hc hdm hrp =>
        refine ⟨_, rfl, _, _, _, _, _, rfl, .ty _, .base (.tup (G4.up h)), kit_tt, _, rfl, iteF ?_⟩
        refine ⟨_, rfl, _, _, 0, _, rfl, rfl, SqT.of (G4.up h), rfl, rfl, _, rfl, iteF ?_⟩
        refine ⟨_, rfl, _, _, 0, _, rfl, rfl, SqT.of (G4.up h), rfl, rfl, _, rfl, iteF ?_⟩
        refine ⟨_, rfl, _, _, 1, _, rfl, rfl, SqT.of (G4.up h), rfl, _, _, rfl, .inr (SqT.of (G4.up h1)), _, rfl, _, _, rfl, .inl (SqL.of upd_same), rfl, _, rfl, ?_⟩
        have e1 : (ns.map V.int).length = ns.length := List.length_map _
        have cnt2 : (!decide (V.int (((ns.map V.int).length : Nat) : Int) = V.int ((us.length : Nat) : Int))) = !decide (ns.length = xs.length) := by
          rw [e1, rps.len]
          exact cnt rfl
        refine ite2 (fun cc => ⟨sz2, fun t ht => err .count ?_ t ht⟩) (fun cc => ?_)
        · have c2 := cnt2.symm.trans cc
          rw [MM.callv_fn]
          rw [if_pos (by simpa using c2)]
        have ll : ns.length = xs.length := by
          have c2 : (!decide (ns.length = xs.length)) = false := cnt2.symm.trans (Bool.eq_false_iff.mpr cc)
          simpa using c2
        obtain ⟨dp, hw⟩ := S4.hw
        have dg : DGet (upd H3 l2 (.lst us)) wd (V.str "deepest") (some (.int dp)) := by
          have q := DGet.k (k := Sum.inr "deepest") hw
          rw [wl_deepest] at q
          exact q
        refine ⟨_, rfl, _, rfl, last, rfl, .inr ⟨_, rfl, _, _, rfl, rfl, ?_⟩⟩
        refine ⟨_, rfl, wd, _, rfl, dg, _, rfl, _, _, rfl, ?_⟩
        refine ⟨_, rfl, wd, _, rfl, DPut.k (k := Sum.inr "deepest") hw (wl_len _ _ _), ?_⟩
        rw [wl_putD]
        have G5' : Gr [wd] F3 (upd H3 l2 (.lst us)) F3 (upd (upd H3 l2 (.lst us)) wd (.dK (wl L1 tb (if (dep + if (!last) = true then (1 : Int) else 0) > dp then (dep + if (!last) = true then (1 : Int) else 0) else dp)))) := (Gr.refl S4.fh).put S4.wf (.inl List.mem_cons_self) _
        have S5 := S4.step G5' ⟨(if (dep + if (!last) = true then (1 : Int) else 0) > dp then (dep + if (!last) = true then (1 : Int) else 0) else dp), upd_same⟩
        have G5 := G4.trans G5'
        have hv5 : upd (upd H3 l2 (.lst us)) wd (.dK (wl L1 tb (if (dep + if (!last) = true then (1 : Int) else 0) > dp then (dep + if (!last) = true then (1 : Int) else 0) else dp))) l2 = some (.lst us) := by rw [upd_ne (fun z => S3.neN hl2 (List.mem_singleton.mpr z)), upd_same]
        refine ⟨_, rfl, _, _, 2, _, rfl, rfl, SqT.of (G5.up h), rfl, _, rfl, _, _, 3, _, rfl, rfl, SqT.of (G5.up h), rfl, _, rfl, _, _, 1, _, rfl, rfl, SqT.of (G5.up h), rfl, _, rfl, ?_⟩
        refine ⟨fd', fb, l2, F3, ⟨dom, en⟩, ns, us, xs, rfl, S5.fh, ⟨kvs, hd, ok', hdm, hrp⟩, .inr (SqT.of (G5.up h1)), num, hv5, rps, ll, fun d F6 H6 G6' he6 => ?_⟩
        have G6 : Gr [wd] F3 (upd (upd H3 l2 (.lst us)) wd (.dK (wl L1 tb (if (dep + if (!last) = true then (1 : Int) else 0) > dp then (dep + if (!last) = true then (1 : Int) else 0) else dp)))) F6 H6 := G6'.mono fun _ z => nomatch z
        have S6 := S5.step G6 ⟨(if (dep + if (!last) = true then (1 : Int) else 0) > dp then (dep + if (!last) = true then (1 : Int) else 0) else dp), G6'.keep wd _ (fun z => nomatch z) upd_same⟩
        refine ⟨_, rfl, _, rfl, hR _ _ _ _ ⟨vb, d, wd, tb, (dep + if (!last) = true then (1 : Int) else 0), true, c, MM.Env.puts ⟨dom, en⟩ ns xs, L1, gs, F6, rfl, o2 c L1 lt, S6, he6, (hc.same G6.ff).mono fun n hn => MM.puts_dom ns xs ⟨dom, en⟩ n ll hn, fun v F7 H7 G7 S7 ho => ?_⟩⟩
        have q : MM.callr (MM.ev gs) env f as L = MM.ev gs c (MM.Env.puts ⟨dom, en⟩ ns xs) L1 := by
          rw [hcr]
          show (MM.callv (.fn ns c dom en) xs).go (MM.ev gs) L1 = _
          rw [MM.callv_fn]
          rw [if_neg (fun z => z ll)]
          rfl
        exact kk _ _ _ ((G5.trans G6).trans G7) (by rw [q]; exact S7) (by rw [q]; exact ho)
end
end AF
/-! ## C5 -/
namespace AF
open PySem L2
section
variable {P : Program} {w : World} {K : PySem.W.Frag} {mg : Str → Option Value} {base : Heap}
/-! ### _law_run -/
theorem gkey_len (g : MM.G) : (mstr g.mo).length + 1 + (nstr g.na).length ≤ 20 := by
  obtain ⟨a, b⟩ := g
  cases a <;> cases b <;> decide +kernel
theorem mlen (a : MM.GM) : (mstr a ++ ".").length = (mstr a).length + 1 := by cases a <;> decide +kernel
theorem ok_run {l m : Nat} (D_law_run : Df K mg "_law_run" s__law_run p__law_run) (T : Txt K mg) {spR spA spC : Sp} (G_law_run : FnR P w K mg base l D_law_run.f D_law_run.fd p__law_run spR) (hR : ∀ vs H Q E, spRunP (fun _ L => L + 1 < m) vs H Q E → spR vs H Q E)
    (D_law_all : Df K mg "_law_all" s__law_all p__law_all) (G_law_all : FnR P w K mg base l D_law_all.f D_law_all.fd p__law_all spA) (hA : ∀ vs H Q E, spAllP false (fun _ L => L + 1 < m) vs H Q E → spA vs H Q E)
    (D_law_call : Df K mg "_law_call" s__law_call p__law_call) (G_law_call : FnR P w K mg base l D_law_call.f D_law_call.fd p__law_call spC) (hC : ∀ vs H Q E, spCallP (fun L => L + 1 < m) vs H Q E → spC vs H Q E)
    (D_law_with : Df K mg "_law_with" s__law_with p__law_with) (hl : 4 ≤ l) : FnR P w K mg base (l + 1) D_law_run.f D_law_run.fd p__law_run (spRunP fun c L => c.atom ∨ L < m) := by
  have G_law_with := FnR.of (k := 4) (ok_with (P := P) (w := w) (base := base) D_law_with T) (by decide)
  refine okR D_law_run.F sc__law_run (fun vs H Q E h => ?_) (fun cdv A outer s H vs Q E hr h => ?_)
  · obtain ⟨vc, e, wd, tb, dep, last, c, env, L, gs, F, rfl, _⟩ := h
    rfl
  obtain ⟨vc, e, wd, tb, dep, last, c, env, L, gs, F, rfl, okc, S, he, hc, kk⟩ := h
  have nd := sc__law_run.nd
  have hu := hr.hu
  refine ⟨_, (pss_cons (ps_if (pt_cmpR op_le (pe_dget hu (pv 2) pe_str (fun _ _ => rfl)) pe_int (nomark _)) (pss_one (ps_ret (pe_tup (pa_cons pe_str pa_nil)))) pss_nil)
    (C8.pss_cut (ps_dput hu (pv 2) pe_str (pe_op op_sub (pe_dget hu (pv 2) pe_str (fun _ _ => rfl)) pe_int) rfl)
    (pss_cons (ps_set (i := 5) nd rfl (Or.inl rfl) (pe_ix ix_tup (pv 0) pe_int (fun _ _ => rfl)))
    (pss_cons (ps_if (pt_cmpR op_eq (pv 5) pe_str (nomark _)) (pss_one (ps_ret (pe_tup (pa_cons pe_str (pa_cons (pe_ix ix_tup (pv 0) pe_int (fun _ _ => rfl)) pa_nil))))) pss_nil)
    (pss_cons (ps_if (pt_cmpR op_eq (pv 5) pe_str (nomark _)) (pss_one (ps_ret (pe_tup (pa_cons pe_str (pa_cons (pe_dget hu (pv 1) (pe_ix ix_tup (pv 0) pe_int (fun _ _ => rfl)) (fun _ _ => rfl)) pa_nil))))) pss_nil)
    (pss_cons (ps_if (pt_cmpR op_eq (pv 5) pe_str (nomark _)) (pss_cons (ps_if (pt_cmp (pc_dnotin hu (pe_op op_add_str (pe_op op_add_str (pe_ix ix_tup (pv 0) pe_int (fun _ _ => rfl)) pe_str) (pe_ix ix_tup (pv 0) pe_int (fun _ _ => rfl))) (pe_dget hu (pv 2) pe_str (fun _ _ => rfl)))) (pss_one (ps_ret (pe_tup (pa_cons pe_str (pa_cons pe_str pa_nil))))) pss_nil)
    (pss_one (ps_ret (pe_tup (pa_cons pe_str (pa_cons (pe_dget hu (pe_dget hu (pv 2) pe_str (fun _ _ => rfl)) (pe_op op_add_str (pe_op op_add_str (pe_ix ix_tup (pv 0) pe_int (fun _ _ => rfl)) pe_str) (pe_ix ix_tup (pv 0) pe_int (fun _ _ => rfl))) (fun _ _ => rfl)) pa_nil)))))) pss_nil)
    (pss_cons (ps_if (pt_cmpR op_eq (pv 5) pe_str (nomark _)) (pss_one (ps_ret (pe_tup (pa_cons pe_str (pa_cons (pv 0) pa_nil))))) pss_nil)
    (pss_cons (ps_if (pt_cmpR op_eq (pv 5) pe_str (nomark _)) (pss_one (ps_ret (pe_tup (pa_cons pe_str (pa_cons (pe_tup (pa_cons pe_str (pa_cons (pe_ix ix_tup (pv 0) pe_int (fun _ _ => rfl)) (pa_cons (pe_ix ix_tup (pv 0) pe_int (fun _ _ => rfl)) (pa_cons (pv 1) pa_nil))))) pa_nil))))) pss_nil)
    (pss_cons (ps_if (pt_cmpR op_eq (pv 5) pe_str (nomark _)) (pss_one (ps_ret (pe_callR G_law_call (hr.mono (by omega)) rfl D_law_call.m D_law_call.F.kp D_law_call.b .nil pass0 (pa_cons (pv 0) (pa_cons (pv 1) (pa_cons (pv 2) (pa_cons (pv 3) (pa_cons (pv 4) pa_nil)))))))) pss_nil)
    (pss_cons (ps_if (pt_cmpR op_eq (pv 5) pe_str (nomark _)) (pss_cons (ps_set (i := 6) nd rfl (Or.inl rfl) (pe_callR G_law_run (hr.mono (by omega)) rfl D_law_run.m D_law_run.F.kp D_law_run.b .nil pass0 (pa_cons (pe_ix ix_tup (pv 0) pe_int (fun _ _ => rfl)) (pa_cons (pv 1) (pa_cons (pv 2) (pa_cons (pv 3) (pa_cons pe_bl pa_nil)))))))
    (pss_cons (ps_if (pt_cmpR op_ne (pe_ix ix_tup (pv 6) pe_int (fun _ _ => rfl)) pe_str (nomark _)) (pss_one (ps_ret (pv 6))) pss_nil)
    (pss_one (ps_ret (pe_callR G_law_run (hr.mono (by omega)) rfl D_law_run.m D_law_run.F.kp D_law_run.b .nil pass0 (pa_cons (pe_ix ix_tup (pv 0) (pe_op op_add pe_int (pe_callTy call_int1 (by rfl) T.int (by decide +kernel) (pa_cons (pe_cmpR (op_eqZ hr.units0) (pe_ix ix_tup (pv 6) pe_int (fun _ _ => rfl)) pe_int (nomark _)) pa_nil))) (fun _ _ => rfl)) (pa_cons (pv 1) (pa_cons (pv 2) (pa_cons (pv 3) (pa_cons (pv 4) pa_nil)))))))))) pss_nil)
    (pss_cons (ps_asg (pe_callR G_law_all (hr.mono (by omega)) rfl D_law_all.m D_law_all.F.kp D_law_all.b .nil pass0 (pa_cons (pe_lc (own := [("_law_pair", 8)]) (g := gName 8) (tt := tYes) (te := tOp (rIxT K) (tVar 8) (tC (.int 1))) rfl nd (pi_tup (pe_ix ix_tup (pv 0) pe_int (fun _ _ => rfl))) (blkOk_by (own := [("_law_pair", 8)]) (N := N__law_run) (sc := defScope s__law_run) (by decide +kernel)) (fun _ _ _ _ _ => (pg_name (i := 8) nd rfl (Or.inl rfl))) (fun _ _ _ _ _ => pts_nil) (fun _ _ _ _ _ => (pe_ix ix_tup (pv 8) pe_int (fun _ _ => rfl)))) (pa_cons (pv 1) (pa_cons (pv 2) (pa_cons (pv 3) pa_nil))))) (pg_tup rfl (pgs_cons (pg_name (i := 6) nd rfl (Or.inl rfl)) (pgs_cons (pg_name (i := 7) nd rfl (Or.inl rfl)) pgs_nil))))
    (pss_cons (ps_if (pt_cmpR op_notN (pv 6) pe_non (nomark _)) (pss_one (ps_ret (pv 6))) pss_nil)
    (pss_one (ps_ret (pe_callR G_law_run (hr.mono (by omega)) rfl D_law_run.m D_law_run.F.kp D_law_run.b .nil pass0 (pa_cons (pe_ix ix_tup (pv 0) pe_int (fun _ _ => rfl)) (pa_cons (pe_callR G_law_with (hr.mono (by omega)) rfl D_law_with.m D_law_with.F.kp D_law_with.b .nil pass0 (pa_cons (pv 1) (pa_cons (pe_lc (own := [("_law_pair", 8)]) (g := gName 8) (tt := tYes) (te := tOp (rIxT K) (tVar 8) (tC (.int 0))) rfl nd (pi_tup (pe_ix ix_tup (pv 0) pe_int (fun _ _ => rfl))) (blkOk_by (own := [("_law_pair", 8)]) (N := N__law_run) (sc := defScope s__law_run) (by decide +kernel)) (fun _ _ _ _ _ => (pg_name (i := 8) nd rfl (Or.inl rfl))) (fun _ _ _ _ _ => pts_nil) (fun _ _ _ _ _ => (pe_ix ix_tup (pv 8) pe_int (fun _ _ => rfl)))) (pa_cons (pv 7) pa_nil)))) (pa_cons (pv 2) (pa_cons (pv 3) (pa_cons (pv 4) pa_nil)))))))))))))))))))), ?_⟩
  obtain ⟨dp, hw⟩ := S.hw
  have dgl : DGet H wd (V.str "left") (some (.int L)) := by
    have q := DGet.k (k := Sum.inr "left") hw
    rw [wl_left] at q
    exact q
  refine ⟨_, rfl, wd, _, rfl, dgl, _, _, rfl, rfl, _, rfl, ?_⟩
  cases L with
  | zero =>
    refine iteT ⟨sz1, fun t ht => ?_⟩
    have q : MM.ev gs c env 0 = (.steps, 0) := MM.ev_zero gs c env
    exact kk _ _ _ ((Gr.refl S.fh).new ht _) (by rw [q]; exact S.newF ht _) (by rw [q]; exact .steps upd_same)
  | succ L =>
    refine ite2 (fun c1 => ?_) (fun _ => ?_)
    · have c2 : ((L + 1 : Nat) : Int) ≤ 0 := of_decide_eq_true c1
      omega
    refine ⟨fun σ' H1 => σ' = [some vc, some (.ref e), some (.ref wd), some (.int dep), some (.bl last), none, none, none, none] ∧ Gr [wd] F H F H1 ∧ Ws wd tb L gs F H1, ?_, ?_⟩
    · refine ⟨_, rfl, wd, _, rfl, dgl, _, _, rfl, rfl, _, rfl, wd, _, rfl, DPut.k (k := Sum.inr "left") hw (wl_len _ _ _), rfl, ?_⟩
      have eL : putK (wl (L + 1) tb dp) (Sum.inr "left") (.int (((L + 1 : Nat) : Int) - 1)) = wl L tb dp := by
        rw [show (((L + 1 : Nat) : Int) - 1) = (L : Int) by omega, wl_putL]
      have G1 : Gr [wd] F H F (upd H wd (.dK (putK (wl (L + 1) tb dp) (Sum.inr "left") (.int (((L + 1 : Nat) : Int) - 1))))) := (Gr.refl S.fh).put S.wf (.inl List.mem_cons_self) _
      exact ⟨G1, S.step G1 ⟨dp, by rw [upd_same, eL]⟩⟩
    rintro σ' H1 ⟨rfl, G1, S1⟩
    -- a value
    have val : ∀ (x : MM.Val) (u : V), MM.ev gs c env (L + 1) = (.val x, L) → RepL F u x → ∀ t, H1 t = none → Q (.ref t) (upd H1 t (.tup [.str "value", u])) := fun x u q r t ht =>
      kk _ _ _ (G1.new ht _) (by rw [q]; exact S1.newF ht _) (by rw [q]; exact .val upd_same (r.same (same_upd (S1.fh.free ht) _)))
    have more : ¬ c.atom → L + 1 < m := fun z => okc.resolve_left z
    obtain ⟨kvs, hd, ok', hdm, hrp⟩ := he.ex
    cases hc with
    | @int _ a k h h1 h2 =>
      exact ⟨_, rfl, a, _, 0, _, rfl, rfl, SqT.of (G1.up h), rfl, _, rfl, rfl, _, rfl, iteT ⟨_, rfl, a, _, 1, _, rfl, rfl, SqT.of (G1.up h), rfl, sz2, fun t ht => val _ _ rfl (.int h1 h2) t ht⟩⟩
    | @loc _ a n h h1 =>
      obtain ⟨u, hu⟩ : ∃ u, valV kvs (Sum.inl n) = some u := by
        have q := hdm n
        have h1 : env.dom n = true := h1
        rw [h1] at q
        exact Option.isSome_iff_exists.mp q.symm
      have dg : DGet H1 e (V.int n) (some u) := by
        have q := DGet.k (k := Sum.inl n) (G1.up hd)
        rw [hu] at q
        exact q
      refine ⟨_, rfl, a, _, 0, _, rfl, rfl, SqT.of (G1.up h), rfl, _, rfl, rfl, _, rfl, iteF ⟨_, rfl, rfl, _, rfl, iteT ?_⟩⟩
      exact ⟨_, rfl, _, rfl, a, _, 1, _, rfl, rfl, SqT.of (G1.up h), rfl, e, _, rfl, dg, sz2, fun t ht => val _ _ rfl (hrp n u hu) t ht⟩
    | @glob _ a g h =>
      obtain ⟨kvt, ht', tab⟩ := S1.ht
      obtain ⟨dp1, hw1⟩ := S1.hw
      have dgt : DGet H1 wd (V.str "table") (some (.ref tb)) := by
        have q := DGet.k (k := Sum.inr "table") hw1
        rw [wl_table] at q
        exact q
      have dg := DGet.k (k := Sum.inr (gkey g)) ht'
      obtain ⟨t1, t2⟩ := tab g
      have gl := gkey_len g
      have s1 : (mstr g.mo).length + 1 ≤ sizeLine := Nat.le_of_lt (small1000 (by omega))
      have s2 : (mstr g.mo ++ ".").length + (nstr g.na).length ≤ sizeLine := by
        rw [mlen g.mo]
        exact Nat.le_of_lt (small1000 (by omega))
      refine ⟨_, rfl, a, _, 0, _, rfl, rfl, SqT.of (G1.up h), rfl, _, rfl, rfl, _, rfl, iteF ⟨_, rfl, rfl, _, rfl, iteF ⟨_, rfl, rfl, _, rfl, iteT ?_⟩⟩⟩
      refine ⟨_, rfl, a, _, 1, _, rfl, rfl, SqT.of (G1.up h), rfl, _, _, rfl, rfl, s1, _, rfl, a, _, 2, _, rfl, rfl, SqT.of (G1.up h), rfl, _, _, rfl, rfl, s2, _, rfl, wd, _, rfl, dgt, tb, _, rfl, dg, _, rfl, ?_⟩
      cases hv : valV kvt (Sum.inr (gkey g)) with
      | none =>
        rw [hv] at t1
        have gn : gs g = none := by
          cases e : gs g with
          | none => rfl
          | some x => rw [e] at t1; cases t1
        have q : MM.ev gs (.glob g) env (L + 1) = (.err .early, L) := by rw [MM.ev_glob, gn]
        exact iteT ⟨sz2, fun t ht => kk _ _ _ (G1.new ht _) (by rw [q]; exact S1.newF ht _) (by rw [q]; exact .err upd_same)⟩
      | some u =>
        rw [hv] at t1 dg
        obtain ⟨x, gx⟩ : ∃ x, gs g = some x := Option.isSome_iff_exists.mp t1.symm
        have q : MM.ev gs (.glob g) env (L + 1) = (.val x, L) := by rw [MM.ev_glob, gx]
        refine iteF ⟨_, rfl, wd, _, rfl, dgt, _, rfl, a, _, 1, _, rfl, rfl, SqT.of (G1.up h), rfl, _, _, rfl, rfl, s1, _, rfl, a, _, 2, _, rfl, rfl, SqT.of (G1.up h), rfl, _, _, rfl, rfl, s2, tb, _, rfl, dg, sz2, fun t ht => val _ _ q (t2 u x hv gx) t ht⟩
    | @prim _ a p h =>
      exact ⟨_, rfl, a, _, 0, _, rfl, rfl, SqT.of (G1.up h), rfl, _, rfl, rfl, _, rfl, iteF ⟨_, rfl, rfl, _, rfl, iteF ⟨_, rfl, rfl, _, rfl, iteF ⟨_, rfl, rfl, _, rfl, iteT ⟨_, rfl, sz2, fun t ht => val _ _ rfl (.prim h) t ht⟩⟩⟩⟩⟩
    | @fn _ a b v ns c h h1 num hc =>
      refine ⟨_, rfl, a, _, 0, _, rfl, rfl, SqT.of (G1.up h), rfl, _, rfl, rfl, _, rfl, iteF ⟨_, rfl, rfl, _, rfl, iteF ⟨_, rfl, rfl, _, rfl, iteF ⟨_, rfl, rfl, _, rfl, iteF ⟨_, rfl, rfl, _, rfl, iteT ?_⟩⟩⟩⟩⟩
      refine ⟨_, rfl, a, _, 1, _, rfl, rfl, SqT.of (G1.up h), rfl, _, rfl, a, _, 2, _, rfl, rfl, SqT.of (G1.up h), rfl, _, rfl, sz4, fun t1 ht1 => ⟨sz2, fun t ht => ?_⟩⟩
      have sm := (same_upd (S1.fh.free ht1) (.tup [.str "fn", .ref b, v, .ref e])).trans (same_upd ((S1.newF ht1 (.tup [.str "fn", .ref b, v, .ref e])).fh.free ht) (.tup [.str "value", .ref t1]))
      exact kk _ _ _ ((G1.new ht1 _).new ht _) ((S1.newF ht1 _).newF ht _) (.val upd_same (.fn (by rw [upd_ne (upd_none ht).2.symm, upd_same]) (sm _ _ h1) num (sm _ _ hd) ok' (hc.same sm) hdm fun n u q => (hrp n u q).same sm))
    | @ite _ a u v w' x y z h hx hy hz =>
      have mr := more (fun q => q)
      refine ⟨_, rfl, a, _, 0, _, rfl, rfl, SqT.of (G1.up h), rfl, _, rfl, rfl, _, rfl, iteF ⟨_, rfl, rfl, _, rfl, iteF ⟨_, rfl, rfl, _, rfl, iteF ⟨_, rfl, rfl, _, rfl, iteF ⟨_, rfl, rfl, _, rfl, iteF ⟨_, rfl, rfl, _, rfl, iteF ⟨_, rfl, rfl, _, rfl, iteT ?_⟩⟩⟩⟩⟩⟩⟩
      refine ⟨_, rfl, a, _, 1, _, rfl, rfl, SqT.of (G1.up h), rfl, _, rfl, _, rfl, _, rfl, hR _ _ _ _ ⟨u, e, wd, tb, dep, false, x, env, L, gs, F, rfl, mr, S1, he, hx, fun t F3 H3 G3' S3 ho => ?_⟩⟩
      have G3 := G1.trans G3'
      have ei := MM.ev_ite gs x y z env L
      have le := MM.ev_le gs x env L
      generalize hev : MM.ev gs x env L = r at ho S3 ei le
      obtain ⟨o, L1⟩ := r
      cases ho with
      | err h3 =>
        refine ⟨_, rfl, _, _, 0, _, rfl, rfl, SqT.of (S3.fh _ _ h3), rfl, rfl, _, rfl, iteT ⟨_, rfl, ?_⟩⟩
        exact kk _ _ _ G3 (by rw [ei]; exact S3) (by rw [ei]; exact .err h3)
      | steps h3 =>
        refine ⟨_, rfl, _, _, 0, _, rfl, rfl, SqT.of (S3.fh _ _ h3), rfl, rfl, _, rfl, iteT ⟨_, rfl, ?_⟩⟩
        exact kk _ _ _ G3 (by rw [ei]; exact S3) (by rw [ei]; exact .steps h3)
      | @val ta u' x' h3 r =>
        refine ⟨_, rfl, _, _, 0, _, rfl, rfl, SqT.of (S3.fh _ _ h3), rfl, rfl, _, rfl, iteF ?_⟩
        refine ⟨_, rfl, _, rfl, _, _, 1, _, rfl, rfl, SqT.of (S3.fh _ _ h3), rfl, ?_⟩
        have le : L1 ≤ L := le
        have fin : ∀ (uu : V) (c : MM.Core), CoreAt F (fun n => env.dom n = true) uu c → MM.ev gs (x.ite y z) env (L + 1) = MM.ev gs c env L1 → spR [uu, .ref e, .ref wd, .int dep, .bl last] H3 Q E0 := fun uu c hc q => hR _ _ _ _ ⟨uu, e, wd, tb, dep, last, c, env, L1, gs, F3, rfl, Nat.lt_of_le_of_lt (Nat.succ_le_succ le) mr, S3, he.same G3.ff, hc.same G3.ff, fun v' F4 H4 G4 S4 ho => kk _ _ _ (G3.trans G4) (by rw [q]; exact S4) (by rw [q]; exact ho)⟩
        have ha3 := SqT.of (K := K) (G3.up (G3.mem h))
        cases r with
        | @int k b1 b2 =>
          refine ⟨0, rfl, .inl ⟨k, rfl, .inr ⟨_, rfl, ?_⟩⟩⟩
          by_cases hk : k = 0
          · exact ⟨_, _, rfl, rfl, a, _, _, w', rfl, rfl, ha3, by rw [if_pos (decide_eq_true hk)] <;> rfl, _, rfl, _, rfl, _, rfl, _, rfl, fin _ _ hz (by rw [ei]; simp only; rw [show (MM.Val.int k).isZero = true from decide_eq_true hk] <;> rfl)⟩
          · exact ⟨_, _, rfl, rfl, a, _, _, v, rfl, rfl, ha3, by rw [if_neg (by simp [hk])] <;> rfl, _, rfl, _, rfl, _, rfl, _, rfl, fin _ _ hy (by rw [ei]; simp only; rw [show (MM.Val.int k).isZero = false from decide_eq_false hk] <;> rfl)⟩
        | prim h' => exact ⟨0, rfl, .inr (.inl ⟨_, _, rfl, S3.fh _ _ h', .inr ⟨_, rfl, _, _, rfl, rfl, a, _, _, v, rfl, rfl, ha3, rfl, _, rfl, _, rfl, _, rfl, _, rfl, fin _ _ hy (by rw [ei] <;> rfl)⟩⟩)⟩
        | pair h' _ _ => exact ⟨0, rfl, .inr (.inl ⟨_, _, rfl, S3.fh _ _ h', .inr ⟨_, rfl, _, _, rfl, rfl, a, _, _, v, rfl, rfl, ha3, rfl, _, rfl, _, rfl, _, rfl, _, rfl, fin _ _ hy (by rw [ei] <;> rfl)⟩⟩)⟩
        | fn h' _ _ _ _ _ _ _ => exact ⟨0, rfl, .inr (.inl ⟨_, _, rfl, S3.fh _ _ h', .inr ⟨_, rfl, _, _, rfl, rfl, a, _, _, v, rfl, rfl, ha3, rfl, _, rfl, _, rfl, _, rfl, _, rfl, fin _ _ hy (by rw [ei] <;> rfl)⟩⟩)⟩
    | @lett _ a b v ts ns ws ps c h h1 l1 l2 l3 num ht hws hc =>
      have mr := more (fun q => q)
      have n10 := num.1
      refine ⟨_, rfl, a, _, 0, _, rfl, rfl, SqT.of (G1.up h), rfl, _, rfl, rfl, _, rfl, iteF ⟨_, rfl, rfl, _, rfl, iteF ⟨_, rfl, rfl, _, rfl, iteF ⟨_, rfl, rfl, _, rfl, iteF ⟨_, rfl, rfl, _, rfl, iteF ⟨_, rfl, rfl, _, rfl, iteF ⟨_, rfl, rfl, _, rfl, iteF ?_⟩⟩⟩⟩⟩⟩⟩
      refine ⟨_, rfl, a, _, 1, _, rfl, rfl, SqT.of (G1.up h), rfl, b, rfl, ⟨_, SqT.of (G1.up h1)⟩, fun l hl => ?_⟩
      have lf : F l = none := S1.fh.free hl
      have nlw : l ∉ [wd] := S1.neN hl
      have nlw' : l ≠ wd := fun z => nlw (List.mem_singleton.mpr z)
      obtain ⟨kvt, htb, _⟩ := S1.ht
      have nlt : l ≠ tb := fun z => by rw [z, htb] at hl; cases hl
      refine lc_tup (K := K) (a := b) (xs := ts.map V.ref) (fun i H' => H' l = some (.lst (ws.take i)) ∧ Gr [wd] F H1 F H' ∧ Ws wd tb L gs F H')
        ⟨upd_same, (Gr.refl S1.fh).loc hl _, S1.newL hl _⟩ (fun i H' _ z => SqT.of (z.2.1.up (z.2.1.mem h1))) ?_ ?_
      · rintro i x H' hx ⟨el, G', S'⟩
        obtain ⟨t, hti, rfl⟩ : ∃ t, ts[i]? = some t ∧ V.ref t = x := by
          rw [List.getElem?_map] at hx
          exact Option.map_eq_some_iff.mp hx
        have hi : i < ts.length := (List.getElem?_eq_some_iff.mp hti).1
        have hw : ws[i]? = some ws[i] := List.getElem?_eq_getElem (by omega)
        have hti' := ht i t ns[i] ws[i] hti (List.getElem?_eq_getElem (by omega)) hw
        refine ⟨rfl, _, rfl, t, _, 1, _, rfl, rfl, SqT.of (G'.up (G'.mem hti')), rfl, ws.take i, el, small1000 (by rw [List.length_take]; omega), ?_, G'.put lf (.inr hl) _, S'.putL lf nlw' nlt _⟩
        rw [upd_same, List.take_add_one, hw] <;> rfl
      · rintro H2 ⟨el, G2, S2⟩
        have eq1 : ws.take (ts.map V.ref).length = ws := List.take_of_length_le (by rw [List.length_map]; omega)
        rw [eq1] at el
        refine ⟨_, rfl, _, rfl, _, rfl, hA _ _ _ _ ⟨l, e, wd, tb, dep, L, gs, env, ws, ps, F, rfl, fun _ _ _ => mr, fun _ L' hL' => by omega, S2, he, ⟨by omega, hws⟩, by omega, el, fun t F3 H3 G3' S3 h3 => ?_⟩⟩
        have G3 := (G1.trans G2).trans G3'
        have ei := MM.ev_let gs ns ps c env L
        have le := MM.all_le (MM.ev_le gs) env ps L
        generalize hal : MM.all (MM.ev gs) env ps L = rr at S3 h3 ei le
        obtain ⟨r, L1⟩ := rr
        cases r with
        | inr o =>
          obtain ⟨v', vl, e1, ho⟩ := h3
          obtain ⟨va, rfl⟩ := ho.ref
          refine ⟨t, _, rfl, SqT.of (S3.fh _ _ e1), rfl, _, _, rfl, _, _, rfl, rfl, _, rfl, rfl, _, rfl, iteT ⟨_, rfl, ?_⟩⟩
          exact kk _ _ _ G3 (by rw [ei]; exact S3) (by rw [ei]; exact ho)
        | inl xs =>
          obtain ⟨vl, us, e1, e2, rp⟩ := h3
          have le : L1 ≤ L := le
          have lxs : xs.length = ps.length := MM.all_len hal
          refine ⟨t, _, rfl, SqT.of (S3.fh _ _ e1), rfl, _, _, rfl, _, _, rfl, rfl, _, rfl, rfl, _, rfl, iteF ?_⟩
          refine ⟨_, rfl, a, _, 2, _, rfl, rfl, SqT.of (G3.up (G3.mem h)), rfl, _, rfl, _, rfl, a, _, 1, _, rfl, rfl, SqT.of (G3.up (G3.mem h)), rfl, b, rfl, ⟨_, SqT.of (G3.up (G3.mem h1))⟩, fun l4 hl4 => ?_⟩
          have lf4 : F3 l4 = none := S3.fh.free hl4
          have nlw4 : l4 ∉ [wd] := S3.neN hl4
          have nlw4' : l4 ≠ wd := fun z => nlw4 (List.mem_singleton.mpr z)
          obtain ⟨kvt4, htb4, _⟩ := S3.ht
          have nlt4 : l4 ≠ tb := fun z => by rw [z, htb4] at hl4; cases hl4
          refine lc_tup (K := K) (a := b) (xs := ts.map V.ref) (fun i H' => H' l4 = some (.lst ((ns.map V.int).take i)) ∧ Gr [wd] F3 H3 F3 H' ∧ Ws wd tb L1 gs F3 H')
            ⟨upd_same, (Gr.refl S3.fh).loc hl4 _, S3.newL hl4 _⟩ (fun i H' _ z => SqT.of (z.2.1.up (z.2.1.mem (G3.mem h1)))) ?_ ?_
          · rintro i x H' hx ⟨el', G', S'⟩
            obtain ⟨t', hti, rfl⟩ : ∃ t, ts[i]? = some t ∧ V.ref t = x := by
              rw [List.getElem?_map] at hx
              exact Option.map_eq_some_iff.mp hx
            have hi : i < ts.length := (List.getElem?_eq_some_iff.mp hti).1
            have hn : (ns.map V.int)[i]? = some (.int ns[i]) := by rw [List.getElem?_map, List.getElem?_eq_getElem (by omega)] <;> rfl
            have hti' := ht i t' ns[i] ws[i] hti (List.getElem?_eq_getElem (by omega)) (List.getElem?_eq_getElem (by omega))
            refine ⟨rfl, _, rfl, t', _, 0, _, rfl, rfl, SqT.of (G'.up (G'.mem (G3.mem hti'))), rfl, (ns.map V.int).take i, el', small1000 (by rw [List.length_take]; omega), ?_, G'.put lf4 (.inr hl4) _, S'.putL lf4 nlw4' nlt4 _⟩
            rw [upd_same, List.take_add_one, hn] <;> rfl
          · rintro H4 ⟨el4, G4', S4⟩
            have eq2 : (ns.map V.int).take (ts.map V.ref).length = ns.map V.int := List.take_of_length_le (by rw [List.length_map, List.length_map]; omega)
            rw [eq2] at el4
            have G4 := G3.trans G4'
            refine ⟨_, rfl, ?_⟩
            refine ⟨e, l4, vl, F3, env, ns, us, xs, rfl, S4.fh, he.same G3.ff, .inl (SqL.of el4), num, S4.fh _ _ e2, rp, by omega, fun d F5 H5 G5' he5 => ?_⟩
            have G5w : Gr [wd] F3 H4 F5 H5 := G5'.mono fun _ z => nomatch z
            obtain ⟨dp4, hw4⟩ := S4.hw
            have S5 := S4.step G5w ⟨dp4, G5'.keep wd _ (fun z => nomatch z) hw4⟩
            have G5 := G4.trans G5w
            refine ⟨_, rfl, _, rfl, _, rfl, hR _ _ _ _ ⟨v, d, wd, tb, dep, last, c, env.puts ns xs, L1, gs, F5, rfl, Nat.lt_of_le_of_lt (Nat.succ_le_succ le) mr, S5, he5, (hc.same G5.ff).mono fun n hn => MM.puts_dom ns xs env n (by omega) hn, fun v' F6 H6 G6 S6 ho => ?_⟩⟩
            exact kk _ _ _ (G5.trans G6) (by rw [ei]; exact S6) (by rw [ei]; exact ho)
    | @call _ a b u ws f ps h h1 l1 l2 hat hf hp =>
      have mr := more (fun q => q)
      refine ⟨_, rfl, a, _, 0, _, rfl, rfl, SqT.of (G1.up h), rfl, _, rfl, rfl, _, rfl, iteF ⟨_, rfl, rfl, _, rfl, iteF ⟨_, rfl, rfl, _, rfl, iteF ⟨_, rfl, rfl, _, rfl, iteF ⟨_, rfl, rfl, _, rfl, iteF ⟨_, rfl, rfl, _, rfl, iteT ?_⟩⟩⟩⟩⟩⟩
      refine ⟨_, rfl, _, rfl, _, rfl, _, rfl, _, rfl, hC _ _ _ _ ⟨a, b, e, wd, tb, dep, last, u, ws, f, ps, env, L, gs, F, rfl, mr, S1, he, h, h1, l2, hat, hf, ⟨l1, hp⟩, fun v F' H' G' S' ho => ?_⟩⟩
      have q := MM.ev_call gs f ps env L
      exact kk _ _ _ (G1.trans G') (by rw [q]; exact S') (by rw [q]; exact ho)
end
end AF
/-! ## C6 -/
namespace AF
open PySem L2
section
variable {P : Program} {w : World} {K : PySem.W.Frag} {mg : Str → Option Value} {base : Heap}
theorem spRunP.imp {ok ok' : MM.Core → Nat → Prop} (h : ∀ c L, ok' c L → ok c L) {vs : List V} {H : Hp} {Q : V → Hp → Prop} {E} (z : spRunP ok' vs H Q E) : spRunP ok vs H Q E := by
  obtain ⟨vc, e, wd, tb, dep, last, c, env, L, gs, F, e1, o, r⟩ := z
  exact ⟨vc, e, wd, tb, dep, last, c, env, L, gs, F, e1, h c L o, r⟩
def nope : Sp := fun _ _ _ _ => False
theorem ok_nope {k : Nat} {f : Addr} {fd : FuncData} {ps : List Str} : FnOk P w K mg base CX0 k f fd ps nope := never fun _ _ _ _ z => z
theorem ok_runs (D_law_run : Df K mg "_law_run" s__law_run p__law_run) (T : Txt K mg) (D_law_all : Df K mg "_law_all" s__law_all p__law_all) (D_law_call : Df K mg "_law_call" s__law_call p__law_call) (D_law_with : Df K mg "_law_with" s__law_with p__law_with)
    (D_law_prim : Df K mg "_law_prim" s__law_prim p__law_prim) : ∀ m : Nat, FnR P w K mg base (2 * m + 6) D_law_run.f D_law_run.fd p__law_run (spRunP fun c L => c.atom ∨ L < m) ∧
      FnR P w K mg base (2 * m + 8) D_law_run.f D_law_run.fd p__law_run (spRunP fun c L => c.atom ∨ L < m + 1)
  | 0 => by
    have base_ : ∀ m, m ≤ 1 → FnR P w K mg base 6 D_law_run.f D_law_run.fd p__law_run (spRunP fun c L => c.atom ∨ L < m) := fun m hm => by
      have no : ∀ vs H Q E, spRunP (fun _ L => L + 1 < m) vs H Q E → nope vs H Q E := fun vs H Q E z => by
        obtain ⟨vc, e, wd, tb, dep, last, c, env, L, gs, F, e1, o, r⟩ := z
        exact absurd o (by omega)
      have nR : FnR P w K mg base 0 D_law_run.f D_law_run.fd p__law_run nope := FnR.no fun _ _ _ _ z => z
      exact ok_run (l := 5) (m := m) D_law_run T (nR.mono (by decide)) no D_law_all ((ok_allL (k := 0) (ok := fun _ L => L + 1 < m) D_law_all T D_law_run nR no).mono (by decide)) (fun vs H Q E z => z) D_law_call (spC := nope) (FnR.no fun _ _ _ _ z => z) (fun vs H Q E z => by
          obtain ⟨a, b, e, wd, tb, dep, last, u, ws, f, as, env, L, gs, F, e1, o, r⟩ := z
          exact absurd o (by omega)) D_law_with (by decide)
    exact ⟨base_ 0 (by decide), (base_ 1 (by decide)).mono (by omega)⟩
  | m + 1 => by
    obtain ⟨h0, h1⟩ := ok_runs D_law_run T D_law_all D_law_call D_law_with D_law_prim m
    refine ⟨h1.mono (by omega), ?_⟩
    have ia : ∀ vs H Q E, spRunP (fun _ L => L + 1 < m + 2) vs H Q E → spRunP (fun c L => c.atom ∨ L < m + 1) vs H Q E := fun vs H Q E => spRunP.imp fun c L h => .inr (by omega)
    have A := ok_allL (P := P) (w := w) (base := base) (ok := fun _ L => L + 1 < m + 2) D_law_all T D_law_run h1 ia
    have B := ok_allT (P := P) (w := w) (base := base) (ok := fun c L => c.atom ∨ L < m) D_law_all T D_law_run h0 fun vs H Q E z => z
    have C := ok_call (l := 2 * m + 7) (by omega) (P := P) (w := w) (base := base) (okC := fun L => L + 1 < m + 2) D_law_call T D_law_run (h0.mono (by omega)) (fun vs H Q E z => z) D_law_all (B.mono (by omega)) (fun L h => ⟨fun c h' => .inl h', fun c L' h' => .inr (by omega)⟩) D_law_prim D_law_with
    exact ok_run (l := 2 * m + 9) (m := m + 2) D_law_run T (h1.mono (by omega)) ia D_law_all (A.mono (by omega)) (fun vs H Q E z => z) D_law_call (C.mono (by omega)) (fun vs H Q E z => z) D_law_with (by omega)
end
end AF
/-! ## R7 -/
namespace AF
open PySem L2
/-! ### what is shown -/
inductive ShAt (F : Hp) : V → MM.Sh → Prop where
  | int {k : Int} : ShAt F (.int k) (.int k)
  | fn : ShAt F (.str "fn") .fn
  | more : ShAt F (.str "more") .more
  | pair {a : Addr} {u v : V} {x y : MM.Sh} : F a = some (.tup [.str "pair", u, v]) → ShAt F u x → ShAt F v y → ShAt F (.ref a) (.pair x y)
theorem ShAt.same {F F' : Hp} (s : Same F F') {v : V} {x : MM.Sh} (h : ShAt F v x) : ShAt F' v x := by
  induction h with
  | int => exact .int
  | fn => exact .fn
  | more => exact .more
  | pair h _ _ i1 i2 => exact .pair (s _ _ h) i1 i2
/-- n turns of pairs within pairs are left; p: the list of what is left -/
def spShown (R : Hp → V → MM.Val → Prop) (n : Nat) : Sp := fun vs H Q _ => ∃ (v : V) (dep : Int) (p : Addr) (x : MM.Val) (l : Nat) (F : Hp), vs = [v, .int dep, .ref p] ∧ dep + (n : Int) = 60 ∧ Same F H ∧ F p = none ∧ H p = some (.lst [.int l]) ∧ R F v x ∧
  ∀ v' F' H', Gr [p] F H F' H' → H' p = some (.lst [.int (MM.show_ n x l).2]) → ShAt F' v' (MM.show_ n x l).1 → Q v' H'
end AF
/-! ## C7 -/
namespace AF
open PySem L2
section
variable {P : Program} {w : World} {K : PySem.W.Frag} {mg : Str → Option Value} {base : Heap}
/-! ### _law_shown -/
theorem ok_shown1 {l n : Nat} (D_law_shown : Df K mg "_law_shown" s__law_shown p__law_shown) (T : Txt K mg) {sp : Sp} (G_law_shown : FnOk P w K mg base CX0 l D_law_shown.f D_law_shown.fd p__law_shown sp) (hG : ∀ m, n = m + 1 → ∀ vs H Q E, spShown RepL m vs H Q E → sp vs H Q E) :
    FnOk P w K mg base CX0 (l + 1) D_law_shown.f D_law_shown.fd p__law_shown (spShown RepL n) := by
  refine D_law_shown.F.ok sc__law_shown (fun vs H Q E h => ?_) (fun cdv A outer s H vs Q E hr h => ?_)
  · obtain ⟨v, dep, p, x, l, F, rfl, _⟩ := h
    rfl
  obtain ⟨v, dep, p, x, l, F, rfl, hn, fh, fp, hp, r, k⟩ := h
  have nd := sc__law_shown.nd
  refine ⟨_, (pss_cons (ps_if (pt_val (pe_callB call_isi (by rfl) T.isinstance (by decide +kernel) (pa_cons (pv 0) (pa_cons (pe_bltn (v := .ty "int") (u := .type "int") (by rfl) T.int (by decide +kernel) rfl) pa_nil)))) (pss_one (ps_ret (pv 0))) pss_nil)
    (pss_cons (ps_if (pt_cmpR op_ne (pe_ix ix_tup (pv 0) pe_int (fun _ _ => rfl)) pe_str (nomark _)) (pss_one (ps_ret pe_str)) pss_nil)
    (pss_cons (ps_if (PW.pt (pw_or (pt_cmpR op_gt (pv 1) pe_int (nomark _)) (pw_or1 (pt_cmpR op_eq (pe_ix ix_list (pv 2) pe_int (fun _ _ => rfl)) pe_int (nomark _))))) (pss_one (ps_ret pe_str)) pss_nil)
    (pss_cons (ps_asg (pe_op op_sub (pe_ix ix_list (pv 2) pe_int (fun _ _ => rfl)) pe_int) (pg_sub (pv 2) pe_int set_list))
    (pss_cons (ps_set (i := 3) nd rfl (Or.inl rfl) (pe_call G_law_shown (hr.mono (by omega)) rfl D_law_shown.m D_law_shown.F.kp D_law_shown.b .nil pass0 (pa_cons (pe_ix ix_tup (pv 0) pe_int (fun _ _ => rfl)) (pa_cons (pe_op op_add (pv 1) pe_int) (pa_cons (pv 2) pa_nil)))))
    (pss_one (ps_ret (pe_tup (pa_cons pe_str (pa_cons (pv 3) (pa_cons (pe_call G_law_shown (hr.mono (by omega)) rfl D_law_shown.m D_law_shown.F.kp D_law_shown.b .nil pass0 (pa_cons (pe_ix ix_tup (pv 0) pe_int (fun _ _ => rfl)) (pa_cons (pe_op op_add (pv 1) pe_int) (pa_cons (pv 2) pa_nil)))) pa_nil))))))))))), ?_⟩
  have fn : ∀ x, MM.show_ n x l = (.fn, l) → ShAt F (.str "fn") (MM.show_ n x l).1 ∧ H p = some (.lst [.int (MM.show_ n x l).2]) := fun x q => by rw [q]; exact ⟨.fn, hp⟩
  cases r with
  | @int i h1 h2 =>
    have q : MM.show_ n (.int i) l = (.int i, l) := by cases n <;> rfl
    exact ⟨_, rfl, _, _, _, _, _, rfl, .ty _, .base (.int _), kit_ii, _, rfl, iteT ⟨_, rfl, k _ _ _ (Gr.refl fh) (by rw [q]; exact hp) (by rw [q]; exact .int)⟩⟩
  | @prim a pr h =>
    have q : MM.show_ n (.prim pr) l = (.fn, l) := by cases n <;> rfl
    refine ⟨_, rfl, _, _, _, _, _, rfl, .ty _, .base (.tup (fh _ _ h)), kit_ti, _, rfl, iteF ⟨_, rfl, a, _, 0, _, rfl, rfl, SqT.of (fh _ _ h), rfl, rfl, _, rfl, iteT ?_⟩⟩
    exact k _ _ _ (Gr.refl fh) (by rw [q]; exact hp) (by rw [q]; exact .fn)
  | @fn a b d v ns c dom env kvs h _ _ _ _ _ _ _ =>
    have q : MM.show_ n (.fn ns c dom env) l = (.fn, l) := by cases n <;> rfl
    refine ⟨_, rfl, _, _, _, _, _, rfl, .ty _, .base (.tup (fh _ _ h)), kit_ti, _, rfl, iteF ⟨_, rfl, a, _, 0, _, rfl, rfl, SqT.of (fh _ _ h), rfl, rfl, _, rfl, iteT ?_⟩⟩
    exact k _ _ _ (Gr.refl fh) (by rw [q]; exact hp) (by rw [q]; exact .fn)
  | @pair a u v x y h rx ry =>
    refine ⟨_, rfl, _, _, _, _, _, rfl, .ty _, .base (.tup (fh _ _ h)), kit_ti, _, rfl, iteF ⟨_, rfl, a, _, 0, _, rfl, rfl, SqT.of (fh _ _ h), rfl, rfl, _, rfl, iteF ?_⟩⟩
    cases n with
    | zero =>
      have e60 : dep > 59 := by omega
      refine ⟨_, rfl, _, _, rfl, rfl, _, rfl, ?_⟩
      rw [decide_eq_true e60]
      refine iteT (iteT ?_)
      exact k _ _ _ (Gr.refl fh) hp .more
    | succ n =>
      have e60 : ¬ dep > 59 := by omega
      refine ⟨_, rfl, _, _, rfl, rfl, _, rfl, ?_⟩
      rw [decide_eq_false e60]
      refine iteF ?_
      refine ⟨_, rfl, p, _, 0, _, rfl, rfl, SqL.of hp, rfl, rfl, _, rfl, ?_⟩
      cases l with
      | zero => exact iteT (k _ _ _ (Gr.refl fh) hp .more)
      | succ l =>
        have ez : decide (V.int ((l + 1 : Nat) : Int) = V.int 0) = false := decide_eq_false fun z => by have := V.int.inj z; omega
        rw [ez]
        refine iteF ?_
        refine ⟨_, rfl, p, _, 0, _, rfl, rfl, SqL.of hp, rfl, _, _, rfl, rfl, _, rfl, p, _, 0, 0, rfl, rfl, hp, rfl, ?_⟩
        have el : (((l + 1 : Nat) : Int) - 1) = (l : Int) := by omega
        have G1 : Gr [p] F H F (upd H p (.lst [.int l])) := (Gr.refl fh).put fp (.inl List.mem_cons_self) _
        have e1 : upd H p (.lst ([V.int ((l + 1 : Nat) : Int)].set 0 (.int (((l + 1 : Nat) : Int) - 1)))) = upd H p (.lst [.int l]) := by rw [el] <;> rfl
        have t1 : ∀ (b : Addr) (o : HO), F b = some o → upd H p (.lst ([V.int ((l + 1 : Nat) : Int)].set 0 (.int (((l + 1 : Nat) : Int) - 1)))) b = some o := fun b o z => by rw [e1]; exact G1.up z
        refine ⟨_, rfl, a, _, 1, _, rfl, rfl, SqT.of (t1 _ _ h), rfl, _, rfl, _, _, rfl, rfl, _, rfl, ?_⟩
        rw [e1]
        refine hG n rfl _ _ _ _ ⟨u, dep + 1, p, x, l, F, rfl, by omega, G1.fh, fp, upd_same, rx, fun v1 F1 H1 G2 hp1 s1 => ?_⟩
        have G12 := G1.trans G2
        have fp1 := G2.fresh p (some_ne upd_same) fp
        refine ⟨_, rfl, _, rfl, a, _, 2, _, rfl, rfl, SqT.of (G2.up (G2.mem h)), rfl, _, rfl, _, _, rfl, rfl, _, rfl, ?_⟩
        refine hG n rfl _ _ _ _ ⟨v, dep + 1, p, y, (MM.show_ n x l).2, F1, rfl, by omega, G2.fh, fp1, hp1, ry.same G2.ff, fun v2 F2 H2 G3 hp2 s2 => ⟨sz3, fun t ht => ?_⟩⟩
        have G3' := G12.trans G3
        have sm := same_upd (G3.fh.free ht) (.tup [.str "pair", v1, v2])
        refine k _ _ _ (G3'.new ht _) (by rw [upd_ne (ne_of_none hp2 ht)]; exact hp2) ?_
        exact .pair upd_same ((s1.same G3.ff).same sm) (s2.same sm)
end
end AF
/-! ## R8 -/
namespace AF
open PySem L2
/-! ### the program's classes, its globals -/
structure Own (K : PySem.W.Frag) (mg : Str → Option Value) (cP cC cL : Addr) : Prop where
  fP : ClsF K cP
  fC : ClsF K cC
  fL : ClsF K cL
  mgPair : mg "Pair" = some (.ref cP)
  mgClosure : mg "Closure" = some (.ref cC)
  mgPlain : mg "Plain" = some (.ref cL)
  nFirst : NoAttr K cP "first"
  nSecond : NoAttr K cP "second"
  nNumbers : NoAttr K cC "numbers"
  nBody : NoAttr K cC "body"
  nAround : NoAttr K cC "around"
  nMost : NoAttr K cL "most"
  nSteps : NoAttr K cL "steps"
  nGlobals : NoAttr K cL "globals"
  nWaiting : NoAttr K cL "waiting"
  kPP : PySem.W.kitOne K (.ref cP) (.ref cP) = some true
  kCP : PySem.W.kitOne K (.ref cC) (.ref cP) = some false
  kCC : PySem.W.kitOne K (.ref cC) (.ref cC) = some true
  kPC : PySem.W.kitOne K (.ref cP) (.ref cC) = some false
  ktP : PySem.W.kitOne K (.type "tuple") (.ref cP) = some false
  ktC : PySem.W.kitOne K (.type "tuple") (.ref cC) = some false
  kiP : PySem.W.kitOne K (.type "int") (.ref cP) = some false
  kiC : PySem.W.kitOne K (.type "int") (.ref cC) = some false
  kPi : PySem.W.kitOne K (.ref cP) (.type "int") = some false
  kCi : PySem.W.kitOne K (.ref cC) (.type "int") = some false
  kPt : PySem.W.kitOne K (.ref cP) (.type "tuple") = some false
structure Glb (K : PySem.W.Frag) (w : World) (mg : Str → Option Value) where
  tS : Tok
  tP : Tok
  tG : Tok
  aR : Addr
  g_MOST_SHOWN : mg "MOST_SHOWN" = some (.int 60 tS)
  g_MOST_PAIRS : mg "MOST_PAIRS" = some (.int 300 tP)
  g_GREATEST : mg "GREATEST" = some (.int MM.big tG)
  g_PRIMS : mg "PRIMS" = some (.ref aR)
  prims : ∀ p : MM.Pr, KDct K w aR (pstr p) (.int p.ar)
structure Ini (K : PySem.W.Frag) (C : Addr) (qual : Str) (st : Stmt) (ps : List Str) where
  f : Addr
  fd : FuncData
  F : Fun K "__init__" qual st f fd
  b : Binds K fd ps []
  M : Mk K C f
theorem ClsF.ty {K : PySem.W.Frag} {mg : Str → Option Value} {C : Addr} (c : ClsF K C) (T : Txt K mg) {H : Hp} {a dx : Addr} {fs : List (Str × V)} (h : H a = some (.ins C dx fs)) : TyX K H (.ref a) (.ref C) := .base (.ins h c.cl c.cc T.hn T.htk c.cm)
/-! ### fields -/
def pairF (a b : V) : List (Str × V) := putF "second" b (putF "first" a [])
theorem pair_first (a b : V) : (pairF a b).lookup ("first" : Str) = some a := by
  unfold pairF
  rw [lookup_putF, if_neg (by decide +kernel), lookup_putF, if_pos rfl]
theorem pair_second (a b : V) : (pairF a b).lookup ("second" : Str) = some b := by
  unfold pairF
  rw [lookup_putF, if_pos rfl]
def closF (n b e : V) : List (Str × V) := putF "around" e (putF "body" b (putF "numbers" n []))
theorem clos_numbers (n b e : V) : (closF n b e).lookup ("numbers" : Str) = some n := by
  unfold closF
  rw [lookup_putF, if_neg (by decide +kernel), lookup_putF, if_neg (by decide +kernel), lookup_putF, if_pos rfl]
theorem clos_body (n b e : V) : (closF n b e).lookup ("body" : Str) = some b := by
  unfold closF
  rw [lookup_putF, if_neg (by decide +kernel), lookup_putF, if_pos rfl]
theorem clos_around (n b e : V) : (closF n b e).lookup ("around" : Str) = some e := by
  unfold closF
  rw [lookup_putF, if_pos rfl]
/-! ### the program's values -/
def chV : List (List (Key × V)) → Int → Option V
  | [], _ => none
  | kvs :: r, n => match valV kvs (Sum.inl n) with
    | some u => some u
    | none => chV r n
/-- an environment: dicts, one around the other -/
inductive Chain (F : Hp) : Addr → List (List (Key × V)) → Prop where
  | nil {a d : Addr} {kvs : List (Key × V)} : F a = some (.tup [.ref d, .non]) → F d = some (.dK kvs) → Chain F a [kvs]
  | cons {a d b : Addr} {kvs : List (Key × V)} {ch : List (List (Key × V))} : F a = some (.tup [.ref d, .ref b]) → F d = some (.dK kvs) → Chain F b ch → Chain F a (kvs :: ch)
theorem Chain.same {F F' : Hp} (s : Same F F') {a : Addr} {ch : List (List (Key × V))} (h : Chain F a ch) : Chain F' a ch := by
  induction h with
  | nil h1 h2 => exact .nil (s _ _ h1) (s _ _ h2)
  | cons h1 h2 _ ih => exact .cons (s _ _ h1) (s _ _ h2) ih
inductive RepP (cP cC : Addr) (F : Hp) : V → MM.Val → Prop where
  | int {k : Int} : -MM.big ≤ k → k ≤ MM.big → RepP cP cC F (.int k) (.int k)
  | prim {a : Addr} {p : MM.Pr} : F a = some (.tup [.str "prim", .str (pstr p)]) → RepP cP cC F (.ref a) (.prim p)
  | pair {a dx : Addr} {u v : V} {x y : MM.Val} : F a = some (.ins cP dx (pairF u v)) → RepP cP cC F u x → RepP cP cC F v y → RepP cP cC F (.ref a) (.pair x y)
  | fn {a dx b e : Addr} {v : V} {ns : List Int} {c : MM.Core} {dom : Int → Bool} {env : Int → MM.Val} {ch : List (List (Key × V))} : F a = some (.ins cC dx (closF (.ref b) v (.ref e))) → F b = some (.tup (ns.map V.int)) → Num ns → Chain F e ch →
      CoreAt F (In ns fun n => dom n = true) v c → (∀ n, dom n = (chV ch n).isSome) → (∀ (n : Int) (u : V), chV ch n = some u → RepP cP cC F u (env n)) → RepP cP cC F (.ref a) (.fn ns c dom env)
theorem RepP.same {cP cC : Addr} {F F' : Hp} (s : Same F F') {v : V} {x : MM.Val} (h : RepP cP cC F v x) : RepP cP cC F' v x := by
  induction h with
  | int h1 h2 => exact .int h1 h2
  | prim h => exact .prim (s _ _ h)
  | pair h _ _ i1 i2 => exact .pair (s _ _ h) i1 i2
  | fn h h1 h2 h3 h5 h6 _ ih => exact .fn (s _ _ h) (s _ _ h1) h2 (h3.same s) (h5.same s) h6 ih
structure EnvP (cP cC : Addr) (F : Hp) (a : Addr) (e : MM.Env) : Prop where
  ex : ∃ ch, Chain F a ch ∧ (∀ n, e.dom n = (chV ch n).isSome) ∧ ∀ (n : Int) (u : V), chV ch n = some u → RepP cP cC F u (e.at_ n)
theorem EnvP.same {cP cC : Addr} {F F' : Hp} {a : Addr} {e : MM.Env} (s : Same F F') (h : EnvP cP cC F a e) : EnvP cP cC F' a e := by
  obtain ⟨ch, h1, h2, h3⟩ := h.ex
  exact ⟨ch, h1.same s, h2, fun n u q => (h3 n u q).same s⟩
inductive OutP (cP cC : Addr) (F : Hp) : V → MM.Out → Prop where
  | val {a : Addr} {u : V} {x : MM.Val} : F a = some (.tup [.str "value", u]) → RepP cP cC F u x → OutP cP cC F (.ref a) (.val x)
  | err {a : Addr} {w : MM.Er} : F a = some (.tup [.str "error", .str (estr w)]) → OutP cP cC F (.ref a) (.err w)
  | steps {a : Addr} : F a = some (.tup [.str "steps"]) → OutP cP cC F (.ref a) .steps
end AF
namespace AF
open PySem L2
structure RepsP (cP cC : Addr) (F : Hp) (us : List V) (xs : List MM.Val) : Prop where
  len : us.length = xs.length
  at_ : ∀ (i : Nat) (u : V) (x : MM.Val), us[i]? = some u → xs[i]? = some x → RepP cP cC F u x
variable {cP cC : Addr} {F F' : Hp}
theorem RepsP.nil : RepsP cP cC F [] [] := ⟨rfl, fun _ _ _ h => by simp at h⟩
theorem RepsP.same (s : Same F F') {us : List V} {xs : List MM.Val} (h : RepsP cP cC F us xs) : RepsP cP cC F' us xs := ⟨h.len, fun i u x e1 e2 => (h.at_ i u x e1 e2).same s⟩
theorem RepsP.snoc {us : List V} {xs : List MM.Val} {u : V} {x : MM.Val} (r : RepsP cP cC F us xs) (h : RepP cP cC F u x) : RepsP cP cC F (us ++ [u]) (xs ++ [x]) := by
  refine ⟨by rw [List.length_append, List.length_append, r.len] <;> rfl, fun i v y e1 e2 => ?_⟩
  rcases snoc_at e1 with ⟨j1, e1⟩ | ⟨j1, rfl⟩
  · rcases snoc_at e2 with ⟨_, e2⟩ | ⟨j2, _⟩
    · exact r.at_ i v y e1 e2
    · have := r.len; omega
  · rcases snoc_at e2 with ⟨j2, _⟩ | ⟨_, rfl⟩
    · have := r.len; omega
    · exact h
theorem RepsP.tail {u : V} {us : List V} {x : MM.Val} {xs : List MM.Val} (r : RepsP cP cC F (u :: us) (x :: xs)) : RepP cP cC F u x ∧ RepsP cP cC F us xs :=
  ⟨r.at_ 0 _ _ rfl rfl, by have := r.len; simpa using this, fun i v y e1 e2 => r.at_ (i + 1) v y (by simpa using e1) (by simpa using e2)⟩
theorem RepP.ty {K : PySem.W.Frag} {mg : Str → Option Value} {cL : Addr} (T : Txt K mg) (O : Own K mg cP cC cL) {H : Hp} {u : V} {x : MM.Val} (h : RepP cP cC F u x) (s : Same F H) :
    (∃ i, x = .int i ∧ u = .int i ∧ -MM.big ≤ i ∧ i ≤ MM.big) ∨ ((∀ i, x ≠ .int i) ∧ ∃ t, TyX K H u t ∧ PySem.W.kitOne K t (.type "int") = some false) := by
  cases h with
  | int h1 h2 => exact .inl ⟨_, rfl, rfl, h1, h2⟩
  | prim h => exact .inr ⟨fun i z => (nomatch z), _, .base (.tup (s _ _ h)), kit_ti⟩
  | pair h _ _ => exact .inr ⟨fun i z => (nomatch z), _, O.fP.ty T (s _ _ h), O.kPi⟩
  | fn h _ _ _ _ _ _ => exact .inr ⟨fun i z => (nomatch z), _, O.fC.ty T (s _ _ h), O.kCi⟩
theorem upd_upd {H : Hp} {x : Addr} {o o' : HO} : upd (upd H x o) x o' = upd H x o' := funext fun b => by
  by_cases e : b = x
  · subst e; rw [upd_same, upd_same]
  · rw [upd_ne e, upd_ne e, upd_ne e]
/-- an instance is made -/
theorem Gr.ins {X : List Addr} {H F1 H1 : Hp} {x dx : Addr} {o : HO} (G : Gr X F H F1 H1) (nx : H1 x = none) (nd : H1 dx = none) (ne : dx ≠ x) : Gr X F H (upd (upd F1 dx (.own x)) x o) (upd (upd H1 dx (.own x)) x o) :=
  (G.new nd (.own x)).new (by rw [upd_ne ne.symm]; exact nx) o
end AF
/-! ## C8 -/
namespace AF
open PySem L2
section
variable {P : Program} {w : World} {K : PySem.W.Frag} {mg : Str → Option Value} {base : Heap} {cP cC cL : Addr}
/-! ### show_within -/
theorem ok_showW1 {l n : Nat} (D_show_within : Df K mg "show_within" s_show_within p_show_within) (T : Txt K mg) (O : Own K mg cP cC cL) (U : Glb K w mg) {sp : Sp} (G_show_within : FnOk P w K mg base CX0 l D_show_within.f D_show_within.fd p_show_within sp) (hG : ∀ m, n = m + 1 → ∀ vs H Q E, spShown (RepP cP cC) m vs H Q E → sp vs H Q E) :
    FnOk P w K mg base CX0 (l + 1) D_show_within.f D_show_within.fd p_show_within (spShown (RepP cP cC) n) := by
  refine D_show_within.F.ok sc_show_within (fun vs H Q E h => ?_) (fun cdv A outer s H vs Q E hr h => ?_)
  · obtain ⟨v, dep, p, x, l, F, rfl, _⟩ := h
    rfl
  obtain ⟨v, dep, p, x, l, F, rfl, hn, fh, fp, hp, r, k⟩ := h
  have nd := sc_show_within.nd
  refine ⟨_, (pss_cons (ps_if (pt_val (pe_callB call_isi (by rfl) T.isinstance (by decide +kernel) (pa_cons (pv 0) (pa_cons (pe_bltn (v := .ty "int") (u := .type "int") (by rfl) T.int (by decide +kernel) rfl) pa_nil)))) (pss_one (ps_ret (pv 0))) pss_nil)
    (pss_cons (ps_if (pt_not (pt_val (pe_callB call_isi (by rfl) T.isinstance (by decide +kernel) (pa_cons (pv 0) (pa_cons (pe_glob (v := .ref cP) (u := .ref cP) rfl O.mgPair rfl) pa_nil))))) (pss_one (ps_ret pe_str)) pss_nil)
    (pss_cons (ps_if (PW.pt (pw_or (pt_cmpR op_ge (pv 1) (pe_glob (v := .int 60) rfl U.g_MOST_SHOWN ⟨_, rfl⟩) (nomark _)) (pw_or1 (pt_cmpR op_le (pe_ix ix_list (pv 2) pe_int (fun _ _ => rfl)) pe_int (nomark _))))) (pss_one (ps_ret pe_str)) pss_nil)
    (pss_cons (ps_asg (pe_op op_sub (pe_ix ix_list (pv 2) pe_int (fun _ _ => rfl)) pe_int) (pg_sub (pv 2) pe_int set_list))
    (pss_cons (ps_set (i := 3) nd rfl (Or.inl rfl) (pe_call G_show_within (hr.mono (by omega)) rfl D_show_within.m D_show_within.F.kp D_show_within.b .nil pass0 (pa_cons (pe_fld (pv 0) rfl) (pa_cons (pe_op op_add (pv 1) pe_int) (pa_cons (pv 2) pa_nil)))))
    (pss_one (ps_ret (pe_tup (pa_cons pe_str (pa_cons (pv 3) (pa_cons (pe_call G_show_within (hr.mono (by omega)) rfl D_show_within.m D_show_within.F.kp D_show_within.b .nil pass0 (pa_cons (pe_fld (pv 0) rfl) (pa_cons (pe_op op_add (pv 1) pe_int) (pa_cons (pv 2) pa_nil)))) pa_nil))))))))))), ?_⟩
  cases r with
  | @int i h1 h2 =>
    have q : MM.show_ n (.int i) l = (.int i, l) := by cases n <;> rfl
    exact ⟨_, rfl, _, _, _, _, _, rfl, .ty _, .base (.int _), kit_ii, _, rfl, iteT ⟨_, rfl, k _ _ _ (Gr.refl fh) (by rw [q]; exact hp) (by rw [q]; exact .int)⟩⟩
  | @prim a pr h =>
    have q : MM.show_ n (.prim pr) l = (.fn, l) := by cases n <;> rfl
    refine ⟨_, rfl, _, _, _, _, _, rfl, .ty _, .base (.tup (fh _ _ h)), kit_ti, _, rfl, iteF ⟨_, rfl, _, _, _, _, _, rfl, .own _, .base (.tup (fh _ _ h)), O.ktP, _, rfl, iteT ?_⟩⟩
    exact k _ _ _ (Gr.refl fh) (by rw [q]; exact hp) (by rw [q]; exact .fn)
  | @fn a dx b e v ns c dom env ch h _ _ _ _ _ _ =>
    have q : MM.show_ n (.fn ns c dom env) l = (.fn, l) := by cases n <;> rfl
    refine ⟨_, rfl, _, _, _, _, _, rfl, .ty _, O.fC.ty T (fh _ _ h), O.kCi, _, rfl, iteF ⟨_, rfl, _, _, _, _, _, rfl, .own _, O.fC.ty T (fh _ _ h), O.kCP, _, rfl, iteT ?_⟩⟩
    exact k _ _ _ (Gr.refl fh) (by rw [q]; exact hp) (by rw [q]; exact .fn)
  | @pair a dx u v x y h rx ry =>
    refine ⟨_, rfl, _, _, _, _, _, rfl, .ty _, O.fP.ty T (fh _ _ h), O.kPi, _, rfl, iteF ⟨_, rfl, _, _, _, _, _, rfl, .own _, O.fP.ty T (fh _ _ h), O.kPP, _, rfl, iteF ?_⟩⟩
    cases n with
    | zero =>
      have e60 : dep ≥ 60 := by omega
      refine ⟨_, rfl, _, _, rfl, rfl, _, rfl, ?_⟩
      rw [decide_eq_true e60]
      refine iteT (iteT ?_)
      exact k _ _ _ (Gr.refl fh) hp .more
    | succ n =>
      have e60 : ¬ dep ≥ 60 := by omega
      refine ⟨_, rfl, _, _, rfl, rfl, _, rfl, ?_⟩
      rw [decide_eq_false e60]
      refine iteF ?_
      refine ⟨_, rfl, p, _, 0, _, rfl, rfl, SqL.of hp, rfl, _, _, rfl, rfl, _, rfl, ?_⟩
      cases l with
      | zero => exact iteT (k _ _ _ (Gr.refl fh) hp .more)
      | succ l =>
        have ez : decide (((l + 1 : Nat) : Int) ≤ 0) = false := decide_eq_false (by omega)
        rw [ez]
        refine iteF ?_
        refine ⟨_, rfl, p, _, 0, _, rfl, rfl, SqL.of hp, rfl, _, _, rfl, rfl, _, rfl, p, _, 0, 0, rfl, rfl, hp, rfl, ?_⟩
        have el : (((l + 1 : Nat) : Int) - 1) = (l : Int) := by omega
        have G1 : Gr [p] F H F (upd H p (.lst [.int l])) := (Gr.refl fh).put fp (.inl List.mem_cons_self) _
        have e1 : upd H p (.lst ([V.int ((l + 1 : Nat) : Int)].set 0 (.int (((l + 1 : Nat) : Int) - 1)))) = upd H p (.lst [.int l]) := by rw [el] <;> rfl
        have t1 : ∀ (b : Addr) (o : HO), F b = some o → upd H p (.lst ([V.int ((l + 1 : Nat) : Int)].set 0 (.int (((l + 1 : Nat) : Int) - 1)))) b = some o := fun b o z => by rw [e1]; exact G1.up z
        refine ⟨_, rfl, a, cP, dx, _, _, rfl, t1 _ _ h, O.fP.cl, O.nFirst, pair_first _ _, _, rfl, _, _, rfl, rfl, _, rfl, ?_⟩
        rw [e1]
        refine hG n rfl _ _ _ _ ⟨u, dep + 1, p, x, l, F, rfl, by omega, G1.fh, fp, upd_same, rx, fun v1 F1 H1 G2 hp1 s1 => ?_⟩
        have G12 := G1.trans G2
        have fp1 := G2.fresh p (some_ne upd_same) fp
        refine ⟨_, rfl, _, rfl, a, cP, dx, _, _, rfl, G2.up (G2.mem h), O.fP.cl, O.nSecond, pair_second _ _, _, rfl, _, _, rfl, rfl, _, rfl, ?_⟩
        refine hG n rfl _ _ _ _ ⟨v, dep + 1, p, y, (MM.show_ n x l).2, F1, rfl, by omega, G2.fh, fp1, hp1, ry.same G2.ff, fun v2 F2 H2 G3 hp2 s2 => ⟨sz3, fun t ht => ?_⟩⟩
        have G3' := G12.trans G3
        have sm := same_upd (G3.fh.free ht) (.tup [.str "pair", v1, v2])
        refine k _ _ _ (G3'.new ht _) (by rw [upd_ne (ne_of_none hp2 ht)]; exact hp2) ?_
        exact .pair upd_same ((s1.same G3.ff).same sm) (s2.same sm)
end
end AF
/-! ## C9 -/
namespace AF
open PySem L2
section
variable {P : Program} {w : World} {K : PySem.W.Frag} {mg : Str → Option Value} {base : Heap} {cP cC cL : Addr}
theorem Gr.inner {X : List Addr} {p : Addr} {F H F1 H1 F2 H2 : Hp} (a : Gr X F H F1 H1) (b : Gr (p :: X) F1 H1 F2 H2) (h : H p = none) : Gr X F H F2 H2 :=
  ⟨a.ff.trans b.ff, b.fh, fun c o n q => b.keep c o (fun z => by
    rcases List.mem_cons.mp z with e | e
    · rw [e, h] at q; cases q
    · exact n e) (a.keep c o n q), fun c n q => b.fresh c (a.live c n) (a.fresh c n q), fun c n => b.live c (a.live c n)⟩
theorem ok_showW (D_show_within : Df K mg "show_within" s_show_within p_show_within) (T : Txt K mg) (O : Own K mg cP cC cL) (U : Glb K w mg) : ∀ n : Nat, FnOk P w K mg base CX0 (n + 1) D_show_within.f D_show_within.fd p_show_within (spShown (RepP cP cC) n)
  | 0 => ok_showW1 D_show_within T O U (ok_nope (k := 0)) fun m z => by omega
  | n + 1 => ok_showW1 D_show_within T O U (ok_showW D_show_within T O U n) fun m z vs H Q E q => by
    obtain rfl : n = m := by omega
    exact q
theorem ok_shown (D_law_shown : Df K mg "_law_shown" s__law_shown p__law_shown) (T : Txt K mg) : ∀ n : Nat, FnOk P w K mg base CX0 (n + 1) D_law_shown.f D_law_shown.fd p__law_shown (spShown RepL n)
  | 0 => ok_shown1 D_law_shown T (ok_nope (k := 0)) fun m z => by omega
  | n + 1 => ok_shown1 D_law_shown T (ok_shown D_law_shown T n) fun m z vs H Q E q => by
    obtain rfl : n = m := by omega
    exact q
def spShow (cP cC : Addr) : Sp := fun vs H Q _ => ∃ (v : V) (x : MM.Val) (F : Hp), vs = [v] ∧ Same F H ∧ RepP cP cC F v x ∧ ∀ v' F' H', Gr [] F H F' H' → ShAt F' v' (MM.show_ 60 x 300).1 → Q v' H'
theorem ok_show (D_show : Df K mg "show" s_show p_show) (D_show_within : Df K mg "show_within" s_show_within p_show_within) (T : Txt K mg) (O : Own K mg cP cC cL) (U : Glb K w mg) : FnOk P w K mg base CX0 62 D_show.f D_show.fd p_show (spShow cP cC) := by
  have G_show_within := ok_showW (P := P) (base := base) D_show_within T O U 60
  refine D_show.F.ok sc_show (fun vs H Q E h => ?_) (fun cdv A outer s H vs Q E hr h => ?_)
  · obtain ⟨v, x, F, rfl, _⟩ := h
    rfl
  obtain ⟨v, x, F, rfl, fh, r, k⟩ := h
  refine ⟨_, (pss_one (ps_ret (pe_call G_show_within (hr.mono (by omega)) rfl D_show_within.m D_show_within.F.kp D_show_within.b .nil pass0 (pa_cons (pv 0) (pa_cons pe_int (pa_cons (pe_lst (pa_cons (pe_glob (v := .int 300) rfl U.g_MOST_PAIRS ⟨_, rfl⟩) pa_nil)) pa_nil)))))), ?_⟩
  refine ⟨_, rfl, sz1, fun l hl => ⟨v, 0, l, x, 300, F, rfl, by decide, (Gr.refl (X := []) fh).loc hl _ |>.fh, fh.free hl, upd_same, r, fun v' F' H' G h1 h2 => ?_⟩⟩
  exact k _ _ _ (((Gr.refl fh).loc hl _).inner G hl) h2
/-! ### __init__ -/
def spPairI (cP : Addr) : Sp := fun vs H Q _ => ∃ (x dx : Addr) (a b : V), vs = [.ref x, a, b] ∧ H x = some (.ins cP dx []) ∧ Q .non (upd (upd H x (.ins cP dx (putF "first" a []))) x (.ins cP dx (pairF a b)))
theorem ok_pairI (D : Ini K cP "Pair.__init__" s_Pair_init p_Pair_init) (O : Own K mg cP cC cL) : FnOk P w K mg base CX0 1 D.f D.fd p_Pair_init (spPairI cP) := by
  refine D.F.ok sc_Pair_init (fun vs H Q E h => ?_) (fun cdv A outer s H vs Q E hr h => ?_)
  · obtain ⟨x, dx, a, b, rfl, _⟩ := h
    rfl
  obtain ⟨x, dx, a, b, rfl, hx, k⟩ := h
  refine ⟨_, (pss_cons (ps_fld (pv 0) (pv 1) rfl)
    (pss_one (ps_fld (pv 0) (pv 2) rfl))), ?_⟩
  exact ⟨_, rfl, _, rfl, x, cP, dx, [], rfl, hx, O.fP.cl, O.nFirst, (by show 0 < 1000; decide), _, rfl, _, rfl, x, cP, dx, _, rfl, upd_same, O.fP.cl, O.nSecond, (by show 1 < 1000; decide), k⟩
def spClosI (cC : Addr) : Sp := fun vs H Q _ => ∃ (x dx : Addr) (a b c : V), vs = [.ref x, a, b, c] ∧ H x = some (.ins cC dx []) ∧ Q .non (upd (upd (upd H x (.ins cC dx (putF "numbers" a []))) x (.ins cC dx (putF "body" b (putF "numbers" a [])))) x (.ins cC dx (closF a b c)))
theorem clos2 (a b : V) : (putF "body" b (putF "numbers" a [])).length < 1000 := by
  show (if ("numbers" : Str) = "body" then [(("numbers" : Str), b)] else (("numbers" : Str), a) :: putF "body" b []).length < 1000
  rw [if_neg (by decide +kernel)]
  show 2 < 1000
  decide
theorem ok_closI (D : Ini K cC "Closure.__init__" s_Closure_init p_Closure_init) (O : Own K mg cP cC cL) : FnOk P w K mg base CX0 1 D.f D.fd p_Closure_init (spClosI cC) := by
  refine D.F.ok sc_Closure_init (fun vs H Q E h => ?_) (fun cdv A outer s H vs Q E hr h => ?_)
  · obtain ⟨x, dx, a, b, c, rfl, _⟩ := h
    rfl
  obtain ⟨x, dx, a, b, c, rfl, hx, k⟩ := h
  refine ⟨_, (pss_cons (ps_fld (pv 0) (pv 1) rfl)
    (pss_cons (ps_fld (pv 0) (pv 2) rfl)
    (pss_one (ps_fld (pv 0) (pv 3) rfl)))), ?_⟩
  exact ⟨_, rfl, _, rfl, x, cC, dx, [], rfl, hx, O.fC.cl, O.nNumbers, (by show 0 < 1000; decide), _, rfl, _, rfl, x, cC, dx, _, rfl, upd_same, O.fC.cl, O.nBody, (by show 1 < 1000; decide),
    _, rfl, _, rfl, x, cC, dx, _, rfl, upd_same, O.fC.cl, O.nAround, clos2 a b, k⟩
end
end AF
/-! ## C10 -/
namespace AF
open PySem L2
section
variable {P : Program} {w : World} {K : PySem.W.Frag} {mg : Str → Option Value} {base : Heap} {cP cC cL : Addr}
/-! ### computed -/
def spComp (cP cC : Addr) : Sp := fun vs H Q _ => ∃ (p : MM.Pr) (i j : Int) (F : Hp), vs = [.str (pstr p), .int i, .int j] ∧ (p ≠ .pair ∧ p ≠ .first ∧ p ≠ .second) ∧ Same F H ∧ -MM.big ≤ i ∧ i ≤ MM.big ∧ -MM.big ≤ j ∧ j ≤ MM.big ∧
  ∀ v F' H', Gr [] F H F' H' → OutP cP cC F' v (MM.prim p [.int i, .int j]).out → Q v H'
theorem ok_computed (D_computed : Df K mg "computed" s_computed p_computed) (T : Txt K mg) (U : Glb K w mg) : FnOk P w K mg base CX0 1 D_computed.f D_computed.fd p_computed (spComp cP cC) := by
  refine D_computed.F.ok sc_computed (fun vs H Q E h => ?_) (fun cdv A outer s H vs Q E hr h => ?_)
  · obtain ⟨p, i, j, F, rfl, _⟩ := h
    rfl
  obtain ⟨p, i, j, F, rfl, hp0, fh, i1, i2, j1, j2, k⟩ := h
  have nd := sc_computed.nd
  refine ⟨_, (pss_cons (ps_if (pt_cmpR op_eq (pv 0) pe_str (nomark _)) (pss_one (ps_ret (pe_tup (pa_cons pe_str (pa_cons (pe_callTy call_int1 (by rfl) T.int (by decide +kernel) (pa_cons (pe_cmpR op_lt (pv 1) (pv 2) (nomark _)) pa_nil)) pa_nil))))) pss_nil)
    (pss_cons (ps_if (pt_cmpR op_eq (pv 0) pe_str (nomark _)) (pss_one (ps_ret (pe_tup (pa_cons pe_str (pa_cons (pe_callTy call_int1 (by rfl) T.int (by decide +kernel) (pa_cons (pe_cmpR op_eq (pv 1) (pv 2) (nomark _)) pa_nil)) pa_nil))))) pss_nil)
    (pss_cons (ps_if (pt_cmpR op_eq (pv 0) pe_str (nomark _)) (pss_one (ps_set (i := 3) nd rfl (Or.inl rfl) (pe_op op_add (pv 1) (pv 2)))) (pss_one (ps_if (pt_cmpR op_eq (pv 0) pe_str (nomark _)) (pss_one (ps_set (i := 3) nd rfl (Or.inl rfl) (pe_op op_sub (pv 1) (pv 2)))) (pss_one (ps_set (i := 3) nd rfl (Or.inl rfl) (pe_op op_mulW (pv 1) (pv 2)))))))
    (pss_cons (ps_if (pt_cmpR op_gt (pe_callB call_abs (by rfl) T.abs (by decide +kernel) (pa_cons (pv 3) pa_nil)) (pe_glob (v := .int MM.big) rfl U.g_GREATEST ⟨_, rfl⟩) (nomark _)) (pss_one (ps_ret (pe_tup (pa_cons pe_str (pa_cons pe_str pa_nil))))) pss_nil)
    (pss_one (ps_ret (pe_tup (pa_cons pe_str (pa_cons (pv 3) pa_nil))))))))), ?_⟩
  have fin : ∀ n : Int, MM.prim p [.int i, .int j] = MM.sized n → (MM.big < (if n < 0 then -n else n) → ∀ t, H t = none → Q (.ref t) (upd H t (.tup [.str "error", .str "size"]))) ∧ (¬ MM.big < (if n < 0 then -n else n) → ∀ t, H t = none → Q (.ref t) (upd H t (.tup [.str "value", .int n]))) := fun n q => by
    refine ⟨fun c t ht => k _ _ _ ((Gr.refl fh).new ht _) ?_, fun c t ht => k _ _ _ ((Gr.refl fh).new ht _) ?_⟩
    · rw [q]
      unfold MM.sized
      rw [if_pos (by split at c <;> omega)]
      exact .err upd_same
    · rw [q]
      unfold MM.sized
      rw [if_neg (by split at c <;> omega)]
      exact .val upd_same (.int (by split at c <;> omega) (by split at c <;> omega))
  cases p with
  | pair => exact absurd rfl hp0.1
  | first => exact absurd rfl hp0.2.1
  | second => exact absurd rfl hp0.2.2
  | lt =>
    refine ⟨_, rfl, rfl, _, rfl, iteT ⟨_, rfl, _, rfl, _, _, rfl, rfl, .inr ⟨_, rfl, sz2, fun t ht => ?_⟩⟩⟩
    exact k _ _ _ ((Gr.refl fh).new ht _) (.val upd_same (.int (b2_bound _).1 (b2_bound _).2))
  | eq =>
    refine ⟨_, rfl, rfl, _, rfl, iteF ⟨_, rfl, rfl, _, rfl, iteT ⟨_, rfl, _, rfl, rfl, .inr ⟨_, rfl, sz2, fun t ht => ?_⟩⟩⟩⟩
    rw [dec_int]
    exact k _ _ _ ((Gr.refl fh).new ht _) (.val upd_same (.int (b2_bound _).1 (b2_bound _).2))
  | add =>
    obtain ⟨f1, f2⟩ := fin (i + j) rfl
    refine ⟨_, rfl, rfl, _, rfl, iteF ⟨_, rfl, rfl, _, rfl, iteF ⟨_, rfl, rfl, _, rfl, iteT ⟨_, rfl, _, rfl, _, _, rfl, rfl, ?_⟩⟩⟩⟩
    exact ⟨_, rfl, _, rfl, _, _, rfl, rfl, _, rfl, ite2 (fun c => ⟨sz2, fun t ht => f1 (of_decide_eq_true c) t ht⟩) (fun c => ⟨_, rfl, sz2, fun t ht => f2 (of_decide_eq_false (Bool.eq_false_iff.mpr c)) t ht⟩)⟩
  | sub =>
    obtain ⟨f1, f2⟩ := fin (i - j) rfl
    refine ⟨_, rfl, rfl, _, rfl, iteF ⟨_, rfl, rfl, _, rfl, iteF ⟨_, rfl, rfl, _, rfl, iteF ⟨_, rfl, rfl, _, rfl, iteT ⟨_, rfl, _, rfl, _, _, rfl, rfl, ?_⟩⟩⟩⟩⟩
    exact ⟨_, rfl, _, rfl, _, _, rfl, rfl, _, rfl, ite2 (fun c => ⟨sz2, fun t ht => f1 (of_decide_eq_true c) t ht⟩) (fun c => ⟨_, rfl, sz2, fun t ht => f2 (of_decide_eq_false (Bool.eq_false_iff.mpr c)) t ht⟩)⟩
  | mul =>
    obtain ⟨f1, f2⟩ := fin (i * j) rfl
    refine ⟨_, rfl, rfl, _, rfl, iteF ⟨_, rfl, rfl, _, rfl, iteF ⟨_, rfl, rfl, _, rfl, iteF ⟨_, rfl, rfl, _, rfl, iteF ⟨_, rfl, _, rfl, _, _, rfl, rfl, wide_mul (below i1 i2) (below j1 j2) (by decide) (by decide) (by decide), ?_⟩⟩⟩⟩⟩
    exact ⟨_, rfl, _, rfl, _, _, rfl, rfl, _, rfl, ite2 (fun c => ⟨sz2, fun t ht => f1 (of_decide_eq_true c) t ht⟩) (fun c => ⟨_, rfl, sz2, fun t ht => f2 (of_decide_eq_false (Bool.eq_false_iff.mpr c)) t ht⟩)⟩
/-! ### apply_prim -/
def spApp (cP cC : Addr) : Sp := fun vs H Q _ => ∃ (p : MM.Pr) (vl : Addr) (us : List V) (xs : List MM.Val) (F : Hp), vs = [.str (pstr p), .ref vl] ∧ Same F H ∧ H vl = some (.lst us) ∧ RepsP cP cC F us xs ∧
  ∀ v F' H', Gr [] F H F' H' → OutP cP cC F' v (MM.prim p xs).out → Q v H'
theorem ok_apply_prim (D : Df K mg "apply_prim" s_apply_prim p_apply_prim) (T : Txt K mg) (O : Own K mg cP cC cL) (U : Glb K w mg) (D_computed : Df K mg "computed" s_computed p_computed) (D_Pair : Ini K cP "Pair.__init__" s_Pair_init p_Pair_init) : FnOk P w K mg base CX0 3 D.f D.fd p_apply_prim (spApp cP cC) := by
  have G_computed := ok_computed (P := P) (w := w) (base := base) (cP := cP) (cC := cC) D_computed T U
  have G_Pair := ok_pairI (P := P) (w := w) (base := base) D_Pair O
  refine D.F.ok sc_apply_prim (fun vs H Q E h => ?_) (fun cdv A outer s H vs Q E hr h => ?_)
  · obtain ⟨p, vl, us, xs, F, rfl, _⟩ := h
    rfl
  obtain ⟨p, vl, us, xs, F, rfl, fh, ev, rp, k⟩ := h
  have nd := sc_apply_prim.nd
  have hu := hu_of hr
  refine ⟨_, (pss_cons (ps_if (pt_cmpR op_ne (pe_callB call_len_seq (by rfl) T.len PySem.boot_len (pa_cons (pv 1) pa_nil)) (pe_ix ix_kdict (pe_glob (v := .ref U.aR) rfl U.g_PRIMS rfl) (pv 0) (fun _ _ => rfl)) (nomark _)) (pss_one (ps_ret (pe_tup (pa_cons pe_str (pa_cons pe_str pa_nil))))) pss_nil)
    (pss_cons (ps_if (pt_cmpR op_eq (pv 0) pe_str (nomark _)) (pss_one (ps_ret (pe_tup (pa_cons pe_str (pa_cons (pe_make D_Pair.M G_Pair (hr.mono (by omega)) rfl O.mgPair D_Pair.b .nil pass0 (pa_cons (pe_ix ix_list (pv 1) pe_int (fun _ _ => rfl)) (pa_cons (pe_ix ix_list (pv 1) pe_int (fun _ _ => rfl)) pa_nil))) pa_nil))))) pss_nil)
    (pss_cons (ps_if (PW.pt (pw_or (pt_cmpR op_eq (pv 0) pe_str (nomark _)) (pw_or1 (pt_cmpR op_eq (pv 0) pe_str (nomark _))))) (pss_cons (ps_if (pt_not (pt_val (pe_callB call_isi (by rfl) T.isinstance (by decide +kernel) (pa_cons (pe_ix ix_list (pv 1) pe_int (fun _ _ => rfl)) (pa_cons (pe_glob (v := .ref cP) (u := .ref cP) rfl O.mgPair rfl) pa_nil))))) (pss_one (ps_ret (pe_tup (pa_cons pe_str (pa_cons pe_str pa_nil))))) pss_nil)
    (pss_one (ps_ret (pe_tup (pa_cons pe_str (pa_cons (pe_ifExp (pt_cmpR op_eq (pv 0) pe_str (nomark _)) (pe_fld (pe_ix ix_list (pv 1) pe_int (fun _ _ => rfl)) rfl) (pe_fld (pe_ix ix_list (pv 1) pe_int (fun _ _ => rfl)) rfl)) pa_nil)))))) pss_nil)
    (pss_cons (ps_if (PW.pt (pw_or (pt_not (pt_val (pe_callB call_isi (by rfl) T.isinstance (by decide +kernel) (pa_cons (pe_ix ix_list (pv 1) pe_int (fun _ _ => rfl)) (pa_cons (pe_bltn (v := .ty "int") (u := .type "int") (by rfl) T.int (by decide +kernel) rfl) pa_nil))))) (pw_or1 (pt_not (pt_val (pe_callB call_isi (by rfl) T.isinstance (by decide +kernel) (pa_cons (pe_ix ix_list (pv 1) pe_int (fun _ _ => rfl)) (pa_cons (pe_bltn (v := .ty "int") (u := .type "int") (by rfl) T.int (by decide +kernel) rfl) pa_nil)))))))) (pss_one (ps_ret (pe_tup (pa_cons pe_str (pa_cons pe_str pa_nil))))) pss_nil)
    (pss_one (ps_ret (pe_call G_computed (hr.mono (by omega)) rfl D_computed.m D_computed.F.kp D_computed.b .nil pass0 (pa_cons (pv 0) (pa_cons (pe_ix ix_list (pv 1) pe_int (fun _ _ => rfl)) (pa_cons (pe_ix ix_list (pv 1) pe_int (fun _ _ => rfl)) pa_nil)))))))))), ?_⟩
  have G1 : Gr [] F H F H := Gr.refl fh
  -- the outcomes
  have err : ∀ e : MM.Er, MM.prim p xs = .err e → ∀ t, H t = none → Q (.ref t) (upd H t (.tup [.str "error", .str (estr e)])) := fun e h t ht => by
    refine k _ _ _ (G1.new ht _) ?_
    rw [h]; exact .err upd_same
  refine ⟨_, rfl, vl, _, rfl, .inl (SqL.of ev), _, rfl, U.aR, pstr p, .int p.ar, rfl, rfl, U.prims p, rfl, _, rfl, ?_⟩
  have cnt2 : (!decide (V.int ((us.length : Nat) : Int) = V.int (p.ar : Int))) = !decide (us.length = p.ar) := cnt rfl
  refine ite2 (fun c => ⟨sz2, fun t ht => err .count (MM.prim_count p xs fun z => ?_) t ht⟩) (fun c => ?_)
  · have c2 := cnt2.symm.trans c
    rw [rp.len, z] at c2
    simp at c2
  have hl2 : us.length = p.ar := by
    have c2 : (!decide (us.length = p.ar)) = false := cnt2.symm.trans (Bool.eq_false_iff.mpr c)
    simpa using c2
  have hl3 : xs.length = p.ar := by rw [← rp.len]; exact hl2
  have hp_ : ∀ (p' : MM.Pr), p = p' → us.length = p'.ar ∧ xs.length = p'.ar := fun p' e => by rw [← e]; exact ⟨hl2, hl3⟩
  have kind1 : ∀ (u : V) (x : MM.Val), us = [u] → RepP cP cC F u x → (∀ a b, x ≠ .pair a b) → ∃ t, TyX K H u t ∧ PySem.W.kitOne K t (.ref cP) = some false := fun u x e r n => by
    cases r with
    | int _ _ => exact ⟨_, .base (.int _), O.kiP⟩
    | prim h => exact ⟨_, .base (.tup (fh _ _ h)), O.ktP⟩
    | pair _ _ _ => exact absurd rfl (n _ _)
    | fn h _ _ _ _ _ _ => exact ⟨_, O.fC.ty T (fh _ _ h), O.kCP⟩
  cases p with
  | pair =>
    obtain ⟨x, y, rfl⟩ := two_of hl3
    obtain ⟨u, v, rfl⟩ := two_of hl2
    obtain ⟨r1, r2⟩ := rp.tail
    obtain ⟨r2, _⟩ := r2.tail
    refine ⟨_, rfl, rfl, _, rfl, iteT ⟨_, rfl, vl, _, 0, _, rfl, rfl, SqL.of ev, rfl, _, rfl, vl, _, 1, _, rfl, rfl, SqL.of ev, rfl, ?_⟩⟩
    intro a dx na nd ne
    refine ⟨a, dx, u, v, rfl, upd_same, ⟨rfl, ?_⟩⟩
    rw [upd_upd, upd_upd]
    have G2 := G1.ins (o := .ins cP dx (pairF u v)) na nd ne
    refine ⟨sz2, fun t ht => ?_⟩
    have sm := G2.ff.trans (same_upd (G2.fh.free ht) (.tup [.str "value", .ref a]))
    exact k _ _ _ (G2.new ht _) (.val upd_same (.pair (by rw [upd_ne (upd_none ht).2.symm, upd_same]) (r1.same sm) (r2.same sm)))
  | first =>
    obtain ⟨x, rfl⟩ := one_of hl3
    obtain ⟨u, rfl⟩ := one_of hl2
    have r := rp.tail.1
    refine ⟨_, rfl, rfl, _, rfl, iteF ⟨_, rfl, rfl, _, rfl, iteT (iteT ?_)⟩⟩
    by_cases hx : ∃ a b, x = .pair a b
    · obtain ⟨x1, x2, rfl⟩ := hx
      cases r with
      | @pair a dx u1 u2 _ _ h ra rb =>
        refine ⟨_, rfl, vl, _, 0, _, rfl, rfl, SqL.of ev, rfl, _, _, _, _, _, rfl, .own _, O.fP.ty T (fh _ _ h), O.kPP, _, rfl, iteF ?_⟩
        refine ⟨_, rfl, rfl, _, rfl, iteT ⟨_, rfl, vl, _, 0, _, rfl, rfl, SqL.of ev, rfl, a, cP, dx, _, _, rfl, fh _ _ h, O.fP.cl, O.nFirst, pair_first _ _, sz2, fun t ht => ?_⟩⟩
        exact k _ _ _ (G1.new ht _) (.val upd_same (ra.same (same_upd (fh.free ht) _)))
    · obtain ⟨t, ty, kt⟩ := kind1 u x rfl r fun a b e => hx ⟨a, b, e⟩
      refine ⟨_, rfl, vl, _, 0, _, rfl, rfl, SqL.of ev, rfl, _, _, _, _, _, rfl, .own _, ty, kt, _, rfl, iteT ⟨sz2, fun t ht => err .kind ?_ t ht⟩⟩
      cases x <;> first | rfl | exact absurd ⟨_, _, rfl⟩ hx
  | second =>
    obtain ⟨x, rfl⟩ := one_of hl3
    obtain ⟨u, rfl⟩ := one_of hl2
    have r := rp.tail.1
    refine ⟨_, rfl, rfl, _, rfl, iteF ⟨_, rfl, rfl, _, rfl, iteF ⟨_, rfl, rfl, _, rfl, iteT ?_⟩⟩⟩
    by_cases hx : ∃ a b, x = .pair a b
    · obtain ⟨x1, x2, rfl⟩ := hx
      cases r with
      | @pair a dx u1 u2 _ _ h ra rb =>
        refine ⟨_, rfl, vl, _, 0, _, rfl, rfl, SqL.of ev, rfl, _, _, _, _, _, rfl, .own _, O.fP.ty T (fh _ _ h), O.kPP, _, rfl, iteF ?_⟩
        refine ⟨_, rfl, rfl, _, rfl, iteF ⟨_, rfl, vl, _, 0, _, rfl, rfl, SqL.of ev, rfl, a, cP, dx, _, _, rfl, fh _ _ h, O.fP.cl, O.nSecond, pair_second _ _, sz2, fun t ht => ?_⟩⟩
        exact k _ _ _ (G1.new ht _) (.val upd_same (rb.same (same_upd (fh.free ht) _)))
    · obtain ⟨t, ty, kt⟩ := kind1 u x rfl r fun a b e => hx ⟨a, b, e⟩
      refine ⟨_, rfl, vl, _, 0, _, rfl, rfl, SqL.of ev, rfl, _, _, _, _, _, rfl, .own _, ty, kt, _, rfl, iteT ⟨sz2, fun t ht => err .kind ?_ t ht⟩⟩
      cases x <;> first | rfl | exact absurd ⟨_, _, rfl⟩ hx
  | _ =>
    obtain ⟨x, y, rfl⟩ := two_of hl3
    obtain ⟨u, v, rfl⟩ := two_of hl2
    obtain ⟨rx, ry⟩ := rp.tail
    have ry := ry.tail.1
    refine ⟨_, rfl, rfl, _, rfl, iteF ⟨_, rfl, rfl, _, rfl, iteF ⟨_, rfl, rfl, _, rfl, iteF ?_⟩⟩⟩
    rcases rx.ty T O fh with ⟨i, rfl, rfl, i1, i2⟩ | ⟨nx, t1, ty1, kt1⟩
    · rcases ry.ty T O fh with ⟨j, rfl, rfl, j1, j2⟩ | ⟨ny, t2, ty2, kt2⟩
      · refine ⟨_, rfl, vl, _, 0, _, rfl, rfl, SqL.of ev, rfl, _, _, _, _, _, rfl, .ty _, .base (.int _), kit_ii, _, rfl, iteF ?_⟩
        refine ⟨_, rfl, vl, _, 1, _, rfl, rfl, SqL.of ev, rfl, _, _, _, _, _, rfl, .ty _, .base (.int _), kit_ii, _, rfl, iteF ?_⟩
        refine ⟨_, rfl, _, rfl, vl, _, 0, _, rfl, rfl, SqL.of ev, rfl, _, rfl, vl, _, 1, _, rfl, rfl, SqL.of ev, rfl, ?_⟩
        exact ⟨_, i, j, F, rfl, ⟨fun z => (nomatch z), fun z => (nomatch z), fun z => (nomatch z)⟩, fh, i1, i2, j1, j2, k⟩
      · exact ⟨_, rfl, vl, _, 0, _, rfl, rfl, SqL.of ev, rfl, _, _, _, _, _, rfl, .ty _, .base (.int _), kit_ii, _, rfl, iteF ⟨_, rfl, vl, _, 1, _, rfl, rfl, SqL.of ev, rfl, _, _, _, _, _, rfl, .ty _, ty2, kt2, _, rfl, iteT ⟨sz2, fun t ht => err .kind (by exact arith_kind ⟨by decide, by decide, by decide⟩ _ _ (.inr ny)) t ht⟩⟩⟩
    · exact ⟨_, rfl, vl, _, 0, _, rfl, rfl, SqL.of ev, rfl, _, _, _, _, _, rfl, .ty _, ty1, kt1, _, rfl, iteT (iteT ⟨sz2, fun t ht => err .kind (by exact arith_kind ⟨by decide, by decide, by decide⟩ _ _ (.inl nx)) t ht⟩)⟩
end
end AF
/-! ## C11 -/
namespace AF
open PySem L2
section
variable {P : Program} {w : World} {K : PySem.W.Frag} {mg : Str → Option Value} {base : Heap} {cP cC cL : Addr}
/-! ### value_of -/
def spVal : Sp := fun vs H Q _ => ∃ (n : Int) (a : Addr) (ch : List (List (Key × V))) (u : V) (F : Hp), vs = [.int n, .ref a] ∧ Same F H ∧ Chain F a ch ∧ chV ch n = some u ∧ Q u H
theorem chV_cons {kvs : List (Key × V)} {ch : List (List (Key × V))} {n : Int} : chV (kvs :: ch) n = (match valV kvs (Sum.inl n) with | some u => some u | none => chV ch n) := rfl
theorem ok_value_of (D : Df K mg "value_of" s_value_of p_value_of) : FnOk P w K mg base CX0 1 D.f D.fd p_value_of spVal := by
  refine D.F.ok sc_value_of (fun vs H Q E h => ?_) (fun cdv A outer s H vs Q E hr h => ?_)
  · obtain ⟨n, a, ch, u, F, rfl, _⟩ := h
    rfl
  obtain ⟨n, a, ch, u, F, rfl, fh, hc, hv, k⟩ := h
  have nd := sc_value_of.nd
  have hu := hu_of hr
  refine ⟨_, (pss_cons (ps_while PassesOwn.never (pt_cmp (pc_dnotin hu (pv 0) (pe_ix ix_tup (pv 1) pe_int (fun _ _ => rfl))))
    (pss_one (ps_set (i := 1) nd rfl (Or.inl rfl) (pe_ix ix_tup (pv 1) pe_int (fun _ _ => rfl)))))
    (pss_one (ps_ret (pe_dget hu (pe_ix ix_tup (pv 1) pe_int (fun _ _ => rfl)) (pv 0) (fun _ _ => rfl))))), ?_⟩
  refine ⟨fun m σ' H' => ∃ (a : Addr) (ch : List (List (Key × V))), m = ch.length ∧ σ' = [some (.int n), some (.ref a)] ∧ H' = H ∧ Chain F a ch ∧ chV ch n = some u, ⟨_, a, ch, rfl, rfl, rfl, hc, hv⟩, ?_⟩
  rintro m σ' H' ⟨a, ch, rfl, rfl, rfl, hc, hv⟩
  have dg : ∀ {d : Addr} {kvs : List (Key × V)}, F d = some (.dK kvs) → DGet H' d (V.int n) (valV kvs (Sum.inl n)) := fun h => DGet.k (k := Sum.inl n) (fh _ _ h)
  cases hc with
  | @nil _ d kvs h1 h2 =>
    have dg := dg h2
    rw [chV_cons] at hv
    cases e : valV kvs (Sum.inl n) with
    | none => rw [e] at hv; cases hv
    | some u' =>
      rw [e] at hv dg
      obtain rfl : u' = u := Option.some.inj hv
      refine ⟨_, rfl, _, rfl, a, _, 0, _, rfl, rfl, SqT.of (fh _ _ h1), rfl, d, _, rfl, dg, _, rfl, iteF ?_⟩
      exact ⟨_, rfl, a, _, 0, _, rfl, rfl, SqT.of (fh _ _ h1), rfl, _, rfl, d, _, rfl, dg, k⟩
  | @cons _ d b kvs ch h1 h2 hc' =>
    have dg := dg h2
    rw [chV_cons] at hv
    cases e : valV kvs (Sum.inl n) with
    | none =>
      rw [e] at hv dg
      refine ⟨_, rfl, _, rfl, a, _, 0, _, rfl, rfl, SqT.of (fh _ _ h1), rfl, d, _, rfl, dg, _, rfl, iteT ?_⟩
      refine ⟨_, fun _ _ z => z, ?_⟩
      exact ⟨_, rfl, a, _, 1, _, rfl, rfl, SqT.of (fh _ _ h1), rfl, ch.length, by rw [List.length_cons]; omega, b, ch, rfl, rfl, rfl, hc', hv⟩
    | some u' =>
      rw [e] at hv dg
      obtain rfl : u' = u := Option.some.inj hv
      refine ⟨_, rfl, _, rfl, a, _, 0, _, rfl, rfl, SqT.of (fh _ _ h1), rfl, d, _, rfl, dg, _, rfl, iteF ?_⟩
      exact ⟨_, rfl, a, _, 0, _, rfl, rfl, SqT.of (fh _ _ h1), rfl, _, rfl, d, _, rfl, dg, k⟩
end
end AF
/-! ## R9 -/
namespace AF
open PySem L2
/-! ### the machine of the program -/
theorem putF_ne {f g : Str} {v u : V} {r : List (Str × V)} (h : ¬ g = f) : putF f v ((g, u) :: r) = (g, u) :: putF f v r := if_neg h
theorem putF_eq {f : Str} {v u : V} {r : List (Str × V)} : putF f v ((f, u) :: r) = (f, v) :: r := if_pos rfl
def plF (m s g w : V) : List (Str × V) := [(("most" : Str), m), ("steps", s), ("globals", g), ("waiting", w)]
theorem pl_mk (m s g w : V) : putF "waiting" w (putF "globals" g (putF "steps" s (putF "most" m []))) = plF m s g w := by
  show putF "waiting" w (putF "globals" g (putF "steps" s [(("most" : Str), m)])) = _
  rw [putF_ne (by decide +kernel)]
  show putF "waiting" w (putF "globals" g [(("most" : Str), m), ("steps", s)]) = _
  rw [putF_ne (by decide +kernel), putF_ne (by decide +kernel)]
  show putF "waiting" w [(("most" : Str), m), ("steps", s), ("globals", g)] = _
  rw [putF_ne (by decide +kernel), putF_ne (by decide +kernel), putF_ne (by decide +kernel)] <;> rfl
theorem lookup_ne {f g : Str} {u : V} {r : List (Str × V)} (h : ¬ f = g) : List.lookup f ((g, u) :: r) = r.lookup f := by
  rw [List.lookup_cons]
  have : (f == g) = false := beq_eq_false_iff_ne.mpr h
  rw [this]
theorem lookup_eq {f : Str} {u : V} {r : List (Str × V)} : List.lookup f ((f, u) :: r) = some u := by
  rw [List.lookup_cons, beq_self_eq_true]
theorem pl_most (m s g w : V) : (plF m s g w).lookup ("most" : Str) = some m := lookup_eq
theorem pl_steps (m s g w : V) : (plF m s g w).lookup ("steps" : Str) = some s := by
  unfold plF
  rw [lookup_ne (by decide +kernel), lookup_eq]
theorem pl_globals (m s g w : V) : (plF m s g w).lookup ("globals" : Str) = some g := by
  unfold plF
  rw [lookup_ne (by decide +kernel), lookup_ne (by decide +kernel), lookup_eq]
theorem pl_waiting (m s g w : V) : (plF m s g w).lookup ("waiting" : Str) = some w := by
  unfold plF
  rw [lookup_ne (by decide +kernel), lookup_ne (by decide +kernel), lookup_ne (by decide +kernel), lookup_eq]
theorem pl_no (m s g w : V) {f : Str} (h1 : ¬ f = "most") (h2 : ¬ f = "steps") (h3 : ¬ f = "globals") (h4 : ¬ f = "waiting") : (plF m s g w).lookup f = none := by
  unfold plF
  rw [lookup_ne h1, lookup_ne h2, lookup_ne h3, lookup_ne h4] <;> rfl
theorem pl_putS (m s g w s' : V) : putF "steps" s' (plF m s g w) = plF m s' g w := by
  unfold plF
  rw [putF_ne (by decide +kernel), putF_eq]
theorem pl_putW (m s g w w' : V) : putF "waiting" w' (plF m s g w) = plF m s g w' := by
  unfold plF
  rw [putF_ne (by decide +kernel), putF_ne (by decide +kernel), putF_ne (by decide +kernel), putF_eq]
theorem pl_len (m s g w : V) : (plF m s g w).length < 1000 := by show 4 < 1000; decide
/-- environments by their chains -/
structure EnvR (cP cC : Addr) (F : Hp) (ch : List (List (Key × V))) (e : MM.Env) : Prop where
  dom : ∀ n, e.dom n = (chV ch n).isSome
  at_ : ∀ (n : Int) (u : V), chV ch n = some u → RepP cP cC F u (e.at_ n)
variable {cP cC : Addr} {F : Hp}
theorem chV_put {kvs : List (Key × V)} {ch : List (List (Key × V))} {n m : Int} {u : V} : chV (putK kvs (Sum.inl n) u :: ch) m = if m = n then some u else chV (kvs :: ch) m := by
  unfold chV
  rw [valV_put]
  by_cases e : m = n
  · subst e; rw [if_pos rfl, if_pos rfl]
  · rw [if_neg (fun z => e (Sum.inl.inj z)), if_neg e]
theorem EnvR.put {kvs : List (Key × V)} {ch : List (List (Key × V))} {e : MM.Env} {n : Int} {u : V} {x : MM.Val} (h : EnvR cP cC F (kvs :: ch) e) (r : RepP cP cC F u x) : EnvR cP cC F (putK kvs (Sum.inl n) u :: ch) (e.put n x) := by
  refine ⟨fun m => ?_, fun m v q => ?_⟩
  · rw [chV_put]
    show (decide (m = n) || e.dom m) = _
    by_cases z : m = n
    · rw [if_pos z, decide_eq_true z]; rfl
    · rw [if_neg z, decide_eq_false z, h.dom m]; rfl
  · rw [chV_put] at q
    show RepP cP cC F v (if m = n then x else e.at_ m)
    by_cases z : m = n
    · rw [if_pos z] at q
      rw [if_pos z, ← Option.some.inj q]
      exact r
    · rw [if_neg z] at q
      rw [if_neg z]
      exact h.at_ m v q
theorem EnvR.new {ch : List (List (Key × V))} {e : MM.Env} (h : EnvR cP cC F ch e) : EnvR cP cC F ([] :: ch) e := ⟨h.dom, h.at_⟩
theorem EnvR.puts : ∀ {ns : List Int} {us : List V} {xs : List MM.Val} {kvs : List (Key × V)} {ch : List (List (Key × V))} {e : MM.Env}, EnvR cP cC F (kvs :: ch) e → RepsP cP cC F us xs → EnvR cP cC F (mergeK kvs ((ns.map (Sum.inl : Int → Key)).zip us) :: ch) (e.puts ns xs)
  | [], us, xs, kvs, ch, e, h, r => h
  | n :: ns, [], [], kvs, ch, e, h, r => h
  | n :: ns, [], x :: xs, kvs, ch, e, h, r => by have := r.len; simp at this
  | n :: ns, u :: us, [], kvs, ch, e, h, r => by have := r.len; simp at this
  | n :: ns, u :: us, x :: xs, kvs, ch, e, h, r => by
    obtain ⟨r1, r2⟩ := r.tail
    exact EnvR.puts (ns := ns) (us := us) (xs := xs) (kvs := putK kvs (Sum.inl n) u) (ch := ch) (e := e.put n x) (h.put r1) r2
theorem EnvP.mk' {a : Addr} {ch : List (List (Key × V))} {e : MM.Env} (h : Chain F a ch) (r : EnvR cP cC F ch e) : EnvP cP cC F a e := ⟨ch, h, r.dom, r.at_⟩
theorem EnvR.same {F' : Hp} (s : Same F F') {ch : List (List (Key × V))} {e : MM.Env} (h : EnvR cP cC F ch e) : EnvR cP cC F' ch e := ⟨h.dom, fun n u q => (h.at_ n u q).same s⟩
/-- a state of the machine -/
inductive StAt (cP cC : Addr) (F : Hp) : V → MM.St → Prop where
  | beg {a e : Addr} {v : V} {c : MM.Core} {env : MM.Env} : F a = some (.tup [.str "begin", v, .ref e]) → CoreAt F (fun n => env.dom n = true) v c → EnvP cP cC F e env → StAt cP cC F (.ref a) (.beg c env)
  | val {a : Addr} {u : V} {x : MM.Val} : F a = some (.tup [.str "value", u]) → RepP cP cC F u x → StAt cP cC F (.ref a) (.val x)
  | err {a : Addr} {w : MM.Er} : F a = some (.tup [.str "error", .str (estr w)]) → StAt cP cC F (.ref a) (.err w)
theorem OutP.st {v : V} {p : MM.Pr} {xs : List MM.Val} (h : OutP cP cC F v (MM.prim p xs).out) : StAt cP cC F v (MM.prim p xs) := by
  have nb := MM.prim_beg p xs
  generalize MM.prim p xs = st at h nb
  cases st with
  | beg c e => exact absurd rfl (nb c e)
  | val x => cases h with | val h r => exact .val h r
  | err w => cases h with | err h => exact .err h
end AF
namespace AF
open PySem L2
variable {cP cC : Addr}
inductive FrAt (cP cC : Addr) (F : Hp) : V → MM.Fr → Prop where
  | mk {a vl e : Addr} {vc : V} {c : MM.Core} {us : List V} {xs : List MM.Val} {env : MM.Env} : F a = some (.tup [vc, .ref vl, .ref e]) → CoreAt F (fun n => env.dom n = true) vc c → ¬ c.atom → F vl = some (.lst us) → RepsP cP cC F us xs → EnvP cP cC F e env →
      xs.length < (MM.parts c).length → FrAt cP cC F (.ref a) ⟨c, xs, env⟩
inductive StkAt (cP cC : Addr) (F : Hp) : List V → List MM.Fr → Prop where
  | nil : StkAt cP cC F [] []
  | snoc {ws : List V} {stk : List MM.Fr} {v : V} {f : MM.Fr} : StkAt cP cC F ws stk → FrAt cP cC F v f → StkAt cP cC F (ws ++ [v]) (f :: stk)
theorem FrAt.same {F F' : Hp} (s : Same F F') {v : V} {f : MM.Fr} (h : FrAt cP cC F v f) : FrAt cP cC F' v f := by
  cases h with
  | mk h1 h2 h3 h4 h5 h6 h7 => exact .mk (s _ _ h1) (h2.same s) h3 (s _ _ h4) (h5.same s) (h6.same s) h7
theorem StkAt.same {F F' : Hp} (s : Same F F') {ws : List V} {stk : List MM.Fr} (h : StkAt cP cC F ws stk) : StkAt cP cC F' ws stk := by
  induction h with
  | nil => exact .nil
  | snoc _ h ih => exact .snoc ih (h.same s)
theorem StkAt.len {F : Hp} {ws : List V} {stk : List MM.Fr} (h : StkAt cP cC F ws stk) : ws.length = stk.length := by
  induction h with
  | nil => rfl
  | snoc _ _ ih => rw [List.length_append, List.length_singleton, List.length_cons, ih]
end AF
/-! ## R10 -/
namespace AF
open PySem L2
/-- an outcome, shown -/
inductive ShO (F : Hp) : V → MM.Out → Prop where
  | val {a : Addr} {u : V} {x : MM.Val} : F a = some (.tup [.str "value", u]) → ShAt F u (MM.show_ 60 x 300).1 → ShO F (.ref a) (.val x)
  | err {a : Addr} {w : MM.Er} : F a = some (.tup [.str "error", .str (estr w)]) → ShO F (.ref a) (.err w)
  | steps {a : Addr} : F a = some (.tup [.str "steps"]) → ShO F (.ref a) .steps
theorem ShO.same {F F' : Hp} (s : Same F F') {v : V} {o : MM.Out} (h : ShO F v o) : ShO F' v o := by
  cases h with
  | val h r => exact .val (s _ _ h) (r.same s)
  | err h => exact .err (s _ _ h)
  | steps h => exact .steps (s _ _ h)
theorem mstr_inj {a b : MM.GM} (h : mstr a = mstr b) : a = b := by
  revert h
  cases a <;> cases b <;> first | (intro _; rfl) | (intro z; exact absurd z (by decide +kernel))
theorem nstr_inj {a b : MM.GN} (h : nstr a = nstr b) : a = b := by
  revert h
  cases a <;> cases b <;> first | (intro _; rfl) | (intro z; exact absurd z (by decide +kernel))
def gnil : MM.Gs := fun _ => none
theorem due_val {x : MM.G} {b : MM.Core} {ds : MM.Defs} {g : MM.Gs} {c : MM.Core} {L L1 : Nat} {v : MM.Val} (q : MM.ev g b .nil L = (.val v, L1)) : MM.due g ((x, b) :: ds) c L = MM.due (g.put x v) ds c L1 := by
  show (match MM.ev g b .nil L with | (.val v, L1) => MM.due (g.put x v) ds c L1 | (o, L1) => (o, L1)) = _
  rw [q]
theorem due_err {x : MM.G} {b : MM.Core} {ds : MM.Defs} {g : MM.Gs} {c : MM.Core} {L L1 : Nat} {w : MM.Er} (q : MM.ev g b .nil L = (.err w, L1)) : MM.due g ((x, b) :: ds) c L = (.err w, L1) := by
  show (match MM.ev g b .nil L with | (.val v, L1) => MM.due (g.put x v) ds c L1 | (o, L1) => (o, L1)) = _
  rw [q]
theorem due_steps {x : MM.G} {b : MM.Core} {ds : MM.Defs} {g : MM.Gs} {c : MM.Core} {L L1 : Nat} (q : MM.ev g b .nil L = (.steps, L1)) : MM.due g ((x, b) :: ds) c L = (.steps, L1) := by
  show (match MM.ev g b .nil L with | (.val v, L1) => MM.due (g.put x v) ds c L1 | (o, L1) => (o, L1)) = _
  rw [q]
end AF
/-! ## C12 -/
namespace AF
open PySem L2
section
variable {P : Program} {w : World} {K : PySem.W.Frag} {mg : Str → Option Value} {base : Heap} {cP cC cL : Addr}
/-! ### Plain.call -/
def spCall (cP cC cL : Addr) : Sp := fun vs H Q _ => ∃ (pl vl : Addr) (fv : V) (x : MM.Val) (us : List V) (xs : List MM.Val) (F : Hp), vs = [.ref pl, fv, .ref vl] ∧ Same F H ∧ RepP cP cC F fv x ∧ H vl = some (.lst us) ∧ RepsP cP cC F us xs ∧
  ∀ v F' H', Gr [] F H F' H' → StAt cP cC F' v (MM.callv x xs) → Q v H'
theorem ok_pcall (D_call : Mf K cL "call" "Plain.call" s_Plain_call p_Plain_call) (T : Txt K mg) (O : Own K mg cP cC cL) (U : Glb K w mg) (D_apply_prim : Df K mg "apply_prim" s_apply_prim p_apply_prim)
    (D_computed : Df K mg "computed" s_computed p_computed) (D_Pair : Ini K cP "Pair.__init__" s_Pair_init p_Pair_init) : FnOk P w K mg base CX0 4 D_call.f D_call.fd p_Plain_call (spCall cP cC cL) := by
  have G_apply_prim := ok_apply_prim (P := P) (w := w) (base := base) D_apply_prim T O U D_computed D_Pair
  refine D_call.F.ok sc_Plain_call (fun vs H Q E h => ?_) (fun cdv A outer s H vs Q E hr h => ?_)
  · obtain ⟨pl, vl, fv, x, us, xs, F, rfl, _⟩ := h
    rfl
  obtain ⟨pl, vl, fv, x, us, xs, F, rfl, fh, r, ev, rp, k⟩ := h
  have nd := sc_Plain_call.nd
  have hu := hu_of hr
  refine ⟨_, (pss_cons (ps_if (pt_val (pe_callB call_isi (by rfl) T.isinstance (by decide +kernel) (pa_cons (pv 1) (pa_cons (pe_glob (v := .ref cC) (u := .ref cC) rfl O.mgClosure rfl) pa_nil)))) (pss_cons (ps_if (pt_cmpR op_ne (pe_callB call_len_seq (by rfl) T.len PySem.boot_len (pa_cons (pe_fld (pv 1) rfl) pa_nil)) (pe_callB call_len_seq (by rfl) T.len PySem.boot_len (pa_cons (pv 2) pa_nil)) (nomark _)) (pss_one (ps_ret (pe_tup (pa_cons pe_str (pa_cons pe_str pa_nil))))) pss_nil)
    (pss_one (ps_ret (pe_tup (pa_cons pe_str (pa_cons (pe_fld (pv 1) rfl) (pa_cons (pe_tup (pa_cons (Zm.pe_dz rfl T.dict rfl T.zip (pa_cons (pe_fld (pv 1) rfl) (pa_cons (pv 2) pa_nil))) (pa_cons (pe_fld (pv 1) rfl) pa_nil))) pa_nil))))))) pss_nil)
    (pss_cons (ps_if (pt_val (pe_callB call_isi (by rfl) T.isinstance (by decide +kernel) (pa_cons (pv 1) (pa_cons (pe_bltn (v := .ty "tuple") (u := .type "tuple") (by rfl) T.tuple (by decide +kernel) rfl) pa_nil)))) (pss_one (ps_ret (pe_call G_apply_prim (hr.mono (by omega)) rfl D_apply_prim.m D_apply_prim.F.kp D_apply_prim.b .nil pass0 (pa_cons (pe_ix ix_tup (pv 1) pe_int (fun _ _ => rfl)) (pa_cons (pv 2) pa_nil))))) pss_nil)
    (pss_one (ps_ret (pe_tup (pa_cons pe_str (pa_cons pe_str pa_nil))))))), ?_⟩
  have G1 : Gr [] F H F H := Gr.refl fh
  cases r with
  | int _ _ =>
    refine ⟨_, rfl, _, _, _, _, _, rfl, .own _, .base (.int _), O.kiC, _, rfl, iteF ?_⟩
    refine ⟨_, rfl, _, _, _, _, _, rfl, .ty _, .base (.int _), kit_it, _, rfl, iteF ⟨sz2, fun t ht => ?_⟩⟩
    exact k _ _ _ (G1.new ht _) (.err upd_same)
  | @pair a dx u v x y h _ _ =>
    refine ⟨_, rfl, _, _, _, _, _, rfl, .own _, O.fP.ty T (fh _ _ h), O.kPC, _, rfl, iteF ?_⟩
    refine ⟨_, rfl, _, _, _, _, _, rfl, .ty _, O.fP.ty T (fh _ _ h), O.kPt, _, rfl, iteF ⟨sz2, fun t ht => ?_⟩⟩
    exact k _ _ _ (G1.new ht _) (.err upd_same)
  | @prim a p h =>
    refine ⟨_, rfl, _, _, _, _, _, rfl, .own _, .base (.tup (fh _ _ h)), O.ktC, _, rfl, iteF ?_⟩
    refine ⟨_, rfl, _, _, _, _, _, rfl, .ty _, .base (.tup (fh _ _ h)), kit_tt, _, rfl, iteT ?_⟩
    refine ⟨_, rfl, a, _, 1, _, rfl, rfl, SqT.of (fh _ _ h), rfl, _, rfl, p, vl, us, xs, F, rfl, fh, ev, rp, fun v F' H' G ho => ?_⟩
    exact k _ _ _ G ho.st
  | @fn a dx b e v ns c dom env ch h h1 num hc hb hdm hrp =>
    refine ⟨_, rfl, _, _, _, _, _, rfl, .own _, O.fC.ty T (fh _ _ h), O.kCC, _, rfl, iteT ?_⟩
    refine ⟨_, rfl, a, cC, dx, _, _, rfl, fh _ _ h, O.fC.cl, O.nNumbers, clos_numbers _ _ _, b, _, rfl, .inr (SqT.of (fh _ _ h1)), _, rfl, vl, _, rfl, .inl (SqL.of ev), rfl, _, rfl, ?_⟩
    have e1 : (ns.map V.int).length = ns.length := List.length_map _
    have cnt2 : (!decide (V.int (((ns.map V.int).length : Nat) : Int) = V.int ((us.length : Nat) : Int))) = !decide (ns.length = xs.length) := by
      rw [e1, rp.len]
      exact cnt rfl
    refine ite2 (fun cc => ⟨sz2, fun t ht => ?_⟩) (fun cc => ?_)
    · have c2 := cnt2.symm.trans cc
      refine k _ _ _ (G1.new ht _) ?_
      rw [MM.callv_fn, if_pos (by simpa using c2)]
      exact .err upd_same
    have ll : ns.length = xs.length := by
      have c2 : (!decide (ns.length = xs.length)) = false := cnt2.symm.trans (Bool.eq_false_iff.mpr cc)
      simpa using c2
    refine ⟨_, rfl, a, cC, dx, _, _, rfl, fh _ _ h, O.fC.cl, O.nBody, clos_body _ _ _, _, rfl, a, cC, dx, _, _, rfl, fh _ _ h, O.fC.cl, O.nNumbers, clos_numbers _ _ _, _, rfl, b, vl, ns, us, rfl, SqT.of (fh _ _ h1), SqL.of ev, by rw [rp.len]; exact ll, fun d hd => ?_⟩
    have G2 := G1.new hd (.dK (mergeK [] ((ns.map (Sum.inl : Int → Key)).zip us)))
    refine ⟨_, rfl, a, cC, dx, _, _, rfl, G2.up (G2.mem h), O.fC.cl, O.nAround, clos_around _ _ _, sz2, fun t1 h1' => ⟨sz3, fun t ht => ?_⟩⟩
    have G3 := G2.new h1' (.tup [.ref d, .ref e])
    have G4 := G3.new ht (.tup [.str "begin", v, .ref t1])
    refine k _ _ _ G4 ?_
    rw [MM.callv_fn, if_neg (fun z => z ll)]
    have ed : EnvR cP cC F ch ⟨dom, env⟩ := ⟨hdm, hrp⟩
    have ed2 := (ed.new.puts (ns := ns) rp).same G4.ff
    have nt1 : t1 ≠ t := (upd_none ht).2.symm
    have ndt : d ≠ t := ne_of_none (by rw [upd_ne (upd_none h1').2.symm]; exact upd_same) ht
    have ndt1 : d ≠ t1 := (upd_none h1').2.symm
    refine .beg upd_same ((hb.same G4.ff).mono fun n hn => MM.puts_dom ns xs ⟨dom, env⟩ n ll hn) (.mk' (.cons (d := d) (b := e) (by rw [upd_ne nt1, upd_same]) (by rw [upd_ne ndt, upd_ne ndt1, upd_same]) (hc.same G4.ff)) ed2)
end
end AF
/-! ## C13 -/
namespace AF
open PySem L2
section
variable {P : Program} {w : World} {K : PySem.W.Frag} {mg : Str → Option Value} {base : Heap} {cP cC cL : Addr}
/-! ### Plain.resume -/
theorem resume_some {c p : MM.Core} {xs : List MM.Val} {env : MM.Env} {stk : List MM.Fr} (h : (MM.parts c)[xs.length]? = some p) : MM.resume c xs env stk = (.beg p env, ⟨c, xs, env⟩ :: stk) := by unfold MM.resume; rw [h]
theorem resume_none {c : MM.Core} {xs : List MM.Val} {env : MM.Env} {stk : List MM.Fr} (h : (MM.parts c)[xs.length]? = none) : MM.resume c xs env stk = (MM.fin c xs env, stk) := by unfold MM.resume; rw [h]
def spResume (cP cC cL : Addr) : Sp := fun vs H Q _ => ∃ (pl fr vl wl e dx : Addr) (m s gv vc y : V) (c : MM.Core) (env : MM.Env) (us : List V) (xs : List MM.Val) (ws : List V) (stk : List MM.Fr) (F : Hp), vs = [.ref pl, .ref fr, .ref vl] ∧ H pl = some (.ins cL dx (plF m s gv (.ref wl))) ∧ Same F H ∧
  F wl = none ∧ H wl = some (.lst ws) ∧ StkAt cP cC F ws stk ∧ ws.length ≤ 500 ∧ F fr = some (.tup [vc, y, .ref e]) ∧ CoreAt F (fun n => env.dom n = true) vc c ∧ ¬ c.atom ∧ EnvP cP cC F e env ∧ F vl = some (.lst us) ∧ RepsP cP cC F us xs ∧ xs.length ≤ (MM.parts c).length ∧
  ∀ v F' H' ws', Gr [wl] F H F' H' → H' wl = some (.lst ws') → StkAt cP cC F' ws' (MM.resume c xs env stk).2 → StAt cP cC F' v (MM.resume c xs env stk).1 → Q v H'
theorem ok_resume (D_resume : Mf K cL "resume" "Plain.resume" s_Plain_resume p_Plain_resume) (D_call : Mf K cL "call" "Plain.call" s_Plain_call p_Plain_call) (T : Txt K mg) (O : Own K mg cP cC cL) (U : Glb K w mg) (D_apply_prim : Df K mg "apply_prim" s_apply_prim p_apply_prim)
    (D_computed : Df K mg "computed" s_computed p_computed) (D_Pair : Ini K cP "Pair.__init__" s_Pair_init p_Pair_init) : FnOk P w K mg base CX0 5 D_resume.f D_resume.fd p_Plain_resume (spResume cP cC cL) := by
  have G_call := ok_pcall (P := P) (w := w) (base := base) D_call T O U D_apply_prim D_computed D_Pair
  refine D_resume.F.ok sc_Plain_resume (fun vs H Q E h => ?_) (fun cdv A outer s H vs Q E hr h => ?_)
  · obtain ⟨pl, fr, vl, wl, e, dx, m, s, gv, vc, y, c, env, us, xs, ws, stk, F, rfl, _⟩ := h
    rfl
  obtain ⟨pl, fr, vl, wl, e, dx, m, sv, gv, vc, y, c, env, us, xs, ws, stk, F, rfl, hpl, fh, fw, hwl, hstk, lws, hfr, hc, nat_, he, hvl, rp, lxs, k⟩ := h
  have nd := sc_Plain_resume.nd
  have hu := hu_of hr
  refine ⟨_, (pss_cons (ps_asg (pv 1) (pg_tup rfl (pgs_cons (pg_name (i := 3) nd rfl (Or.inl rfl)) (pgs_cons (pg_name (i := 4) nd rfl (Or.inl rfl)) (pgs_cons (pg_name (i := 5) nd rfl (Or.inl rfl)) pgs_nil)))))
    (pss_cons (ps_set (i := 6) nd rfl (Or.inl rfl) (pe_ix ix_tup (pv 3) pe_int (fun _ _ => rfl)))
    (C8.pss_cut (ps_if (pt_cmpR op_eq (pv 6) pe_str (nomark _)) (pss_one (ps_set (i := 7) nd rfl (Or.inl rfl) (pe_slice sl_tup (pv 3) (po_some pe_int) (po_some pe_int)))) (pss_one (ps_if (pt_cmpR op_eq (pv 6) pe_str (nomark _)) (pss_one (ps_set (i := 7) nd rfl (Or.inl rfl) (pe_callTy call_tuple_of (by rfl) T.tuple (by decide +kernel) (pa_cons (pe_lc (own := [("_", 4), ("part", 9)]) (g := (gTup K 2 (gCons (gName 4) (gCons (gName 9) gNil)))) (tt := tYes) (te := tVar 9) rfl nd (pi_tup (pe_ix ix_tup (pv 3) pe_int (fun _ _ => rfl))) (blkOk_by (own := [("_", 4), ("part", 9)]) (N := N_Plain_resume) (sc := defScope s_Plain_resume) (by decide +kernel)) (fun _ _ _ _ _ => (pg_tup rfl (pgs_cons (pg_name (i := 4) nd rfl (Or.inl rfl)) (pgs_cons (pg_name (i := 9) nd rfl (Or.inl rfl)) pgs_nil)))) (fun _ _ _ _ _ => pts_nil) (fun _ _ _ _ _ => (pv 9))) pa_nil)))) (pss_one (ps_set (i := 7) nd rfl (Or.inl rfl) (pe_op op_catT (pe_tup (pa_cons (pe_ix ix_tup (pv 3) pe_int (fun _ _ => rfl)) pa_nil)) (pe_ix ix_tup (pv 3) pe_int (fun _ _ => rfl))))))))
    (pss_cons (ps_if (pt_cmpR op_lt (pe_callB call_len_seq (by rfl) T.len PySem.boot_len (pa_cons (pv 2) pa_nil)) (pe_callB call_len_seq (by rfl) T.len PySem.boot_len (pa_cons (pv 7) pa_nil)) (nomark _)) (pss_cons (ps_expr (pe_bm PySem.F.plainAttrs_list PySem.F.slot_list_append PySem.F.type_list_append mt_append (pe_fld (pv 0) rfl) (pa_cons (pe_tup (pa_cons (pv 3) (pa_cons (pv 2) (pa_cons (pv 5) pa_nil)))) pa_nil)))
    (pss_one (ps_ret (pe_tup (pa_cons pe_str (pa_cons (pe_ix ix_tup (pv 7) (pe_callB call_len_seq (by rfl) T.len PySem.boot_len (pa_cons (pv 2) pa_nil)) (fun _ _ => rfl)) (pa_cons (pv 5) pa_nil))))))) pss_nil)
    (pss_cons (ps_if (pt_cmpR op_eq (pv 6) pe_str (nomark _)) (pss_one (ps_ret (pe_tup (pa_cons pe_str (pa_cons (pe_ifExp (pt_cmpR (op_eqZ hr.units0) (pe_ix ix_list (pv 2) pe_int (fun _ _ => rfl)) pe_int (nomark _)) (pe_ix ix_tup (pv 3) pe_int (fun _ _ => rfl)) (pe_ix ix_tup (pv 3) pe_int (fun _ _ => rfl))) (pa_cons (pv 5) pa_nil)))))) pss_nil)
    (pss_cons (ps_if (pt_cmpR op_eq (pv 6) pe_str (nomark _)) (pss_cons (Zm.ps_setDc (i := 8) (own := [("value", 11), ("number", 10), ("_", 4)]) (g := (gTup K 2 (gCons (gTup K 2 (gCons (gName 10) (gCons (gName 4) gNil))) (gCons (gName 11) gNil)))) (tt := tYes) (tk := tVar 10) (tv := tVar 11) rfl nd rfl rfl (Zm.swD rfl rfl rfl (by decide +kernel)) (Zm.pi_zm rfl T.zip (pa_cons (pe_ix ix_tup (pv 3) pe_int (fun _ _ => rfl)) (pa_cons (pv 2) pa_nil))) (blkOk_by (own := [("value", 11), ("number", 10), ("_", 4)]) (N := N_Plain_resume) (sc := defScope s_Plain_resume) (by decide +kernel)) (fun _ _ _ _ _ => (pg_tup rfl (pgs_cons (pg_tup rfl (pgs_cons (pg_name (i := 10) nd rfl (Or.inl rfl)) (pgs_cons (pg_name (i := 4) nd rfl (Or.inl rfl)) pgs_nil))) (pgs_cons (pg_name (i := 11) nd rfl (Or.inl rfl)) pgs_nil)))) (fun _ _ _ _ _ => pts_nil) (fun _ _ _ _ _ => (pv 10)) (fun _ _ _ _ _ => (pv 11)))
    (pss_one (ps_ret (pe_tup (pa_cons pe_str (pa_cons (pe_ix ix_tup (pv 3) pe_int (fun _ _ => rfl)) (pa_cons (pe_tup (pa_cons (pv 8) (pa_cons (pv 5) pa_nil))) pa_nil))))))) pss_nil)
    (pss_one (ps_ret (pe_meth (pv 0) O.fL.cl D_call.M G_call (hr.mono (by omega)) D_call.b .nil pass0 (pa_cons (pe_ix ix_list (pv 2) pe_int (fun _ _ => rfl)) (pa_cons (pe_slice sl_list (pv 2) (po_some pe_int) po_none) pa_nil))))))))))), ?_⟩
  have npw : pl ≠ wl := ne_of hpl hwl (by intro z; cases z)
  have G0 : Gr [wl] F H F H := Gr.refl fh
  refine ⟨_, rfl, fr, _, rfl, SqT.of (fh _ _ hfr), rfl, _, _, rfl, _, _, rfl, _, _, rfl, rfl, ?_⟩
  -- a part more
  have push : ∀ (F1 H1 : Hp) (pt : Addr) (pts : List V), Gr [wl] F H F1 H1 → H1 wl = some (.lst ws) → F1 wl = none → PtsAt F1 (fun n => env.dom n = true) pts (MM.parts c) → us.length < pts.length →
      ∃ pv, pts[us.length]? = some pv ∧ ∀ t1, H1 t1 = none → ∀ t, upd (upd H1 t1 (.tup [vc, .ref vl, .ref e])) wl (.lst (ws ++ [.ref t1])) t = none →
        Q (.ref t) (upd (upd (upd H1 t1 (.tup [vc, .ref vl, .ref e])) wl (.lst (ws ++ [.ref t1]))) t (.tup [.str "begin", pv, .ref e])) := fun F1 H1 pt pts G1 hw1 fw1 hp lt => by
    have lt2 : xs.length < (MM.parts c).length := by rw [← hp.len, ← rp.len]; exact lt
    have ep := List.getElem?_eq_getElem lt2
    refine ⟨pts[us.length], List.getElem?_eq_getElem lt, fun t1 h1 t ht => ?_⟩
    have hcp := hp.at_ us.length _ _ (List.getElem?_eq_getElem lt) (by rw [rp.len]; exact ep)
    have G2 := G1.new h1 (.tup [vc, .ref vl, .ref e])
    have nw1 : wl ≠ t1 := ne_of_none hw1 h1
    have fw2 : upd F1 t1 (.tup [vc, .ref vl, .ref e]) wl = none := by rw [upd_ne nw1]; exact fw1
    have G3 := G2.put fw2 (.inl List.mem_cons_self) (.lst (ws ++ [.ref t1]))
    have G4 := G3.new ht (.tup [.str "begin", pts[us.length], .ref e])
    have q := resume_some (env := env) (stk := stk) ep
    have s4 := G4.ff
    have n1 : t1 ≠ t := by
      have z := (upd_none ht).1
      exact (upd_none z).2.symm
    have nwt : wl ≠ t := (upd_none ht).2.symm
    refine k _ _ _ (ws ++ [.ref t1]) G4 (by rw [upd_ne nwt, upd_same]) ?_ ?_
    · rw [q]
      exact .snoc (hstk.same s4) (.mk (by rw [upd_ne n1, upd_same]) (hc.same s4) nat_ (s4 _ _ hvl) (rp.same s4) (he.same s4) lt2)
    · rw [q]
      have sm : Same F1 (upd (upd F1 t1 (.tup [vc, .ref vl, .ref e])) t (.tup [.str "begin", pts[us.length], .ref e])) := (same_upd (G1.fh.free h1) _).trans (same_upd (by rw [upd_ne n1.symm]; exact G1.fh.free (upd_none (upd_none ht).1).1) _)
      exact .beg upd_same (hcp.same sm) (he.same s4)
  have full : ¬ us.length < (MM.parts c).length → MM.resume c xs env stk = (MM.fin c xs env, stk) ∧ xs.length = (MM.parts c).length := fun z => by
    rw [rp.len] at z
    exact ⟨resume_none (List.getElem?_eq_none (by omega)), by omega⟩
  cases hc with
  | int h _ _ => exact absurd trivial nat_
  | loc h _ => exact absurd trivial nat_
  | glob h => exact absurd trivial nat_
  | prim h => exact absurd trivial nat_
  | fn h _ _ _ => exact absurd trivial nat_
  | @ite _ a u v w' x y' z h hx hy hz =>
    refine ⟨_, rfl, a, _, 0, _, rfl, rfl, SqT.of (fh _ _ h), rfl, ?_⟩
    refine ⟨fun σ' H1 => ∃ (F1 : Hp) (pt : Addr) (pts : List V), σ' = [some (.ref pl), some (.ref fr), some (.ref vl), some (.ref a), some y, some (.ref e), some (.str "if"), some (.ref pt), none, none, none, none] ∧ Gr [wl] F H F1 H1 ∧ H1 wl = some (.lst ws) ∧ F1 wl = none ∧ F1 pt = some (.tup pts) ∧ PtsAt F1 (fun n => env.dom n = true) pts (MM.parts (.ite x y' z)), ?_, ?_⟩
    · refine ⟨_, rfl, rfl, _, rfl, iteT ⟨_, rfl, _, rfl, _, rfl, a, _, rfl, SqT.of (fh _ _ h), fun q => ?_, fun p hp => ?_⟩⟩
      · exact absurd q.1 (by show ¬ HT.sIx 4 0 (some 1) = 0; decide)
      · exact ⟨upd F p (.tup [u]), p, [u], rfl, G0.new hp _, by rw [upd_ne (ne_of_none hwl hp)]; exact hwl, by rw [upd_ne (ne_of_none hwl hp)]; exact fw, upd_same, .cons (hx.same (same_upd (fh.free hp) _)) .nil⟩
    · rintro σ' H1 ⟨F1, pt, pts, rfl, G1, hw1, fw1, hpt, hp⟩
      refine ⟨_, rfl, vl, _, rfl, .inl (SqL.of (G1.up (G1.mem hvl))), _, rfl, pt, _, rfl, .inr (SqT.of (G1.up hpt)), _, _, rfl, rfl, _, rfl, ite2 (fun cc => ?_) (fun cc => ?_)⟩
      · have lt : us.length < pts.length := by have := of_decide_eq_true cc; omega
        obtain ⟨pv, epv, kk⟩ := push F1 H1 pt pts G1 hw1 fw1 hp lt
        refine ⟨_, rfl, pl, cL, dx, _, _, rfl, G1.keep pl _ (fun z => npw (List.mem_singleton.mp z)) hpl, O.fL.cl, O.nWaiting, pl_waiting _ _ _ _, .inl ⟨rfl, _, SqL.of hw1⟩, _, rfl, _, rfl, _, rfl, sz3, fun t1 h1 => ?_⟩
        refine ⟨wl, _, _, rfl, rfl, by rw [upd_ne (ne_of_none hw1 h1)]; exact hw1, small1000 (by omega), ?_⟩
        have npt : pt ≠ wl := fun z => by rw [z, fw1] at hpt; cases hpt
        have nvl : vl ≠ wl := fun z => by rw [z, fw] at hvl; cases hvl
        have G2 := (G1.loc h1 (.tup [.ref a, .ref vl, .ref e])).put fw1 (.inl List.mem_cons_self) (.lst (ws ++ [.ref t1]))
        refine ⟨_, rfl, _, rfl, vl, _, rfl, .inl (SqL.of (G2.up (G1.mem hvl))), pt, _, _, pv, rfl, rfl, SqT.of (G2.up hpt), at_of (j := us.length) rfl epv, _, rfl, sz3, fun t ht => kk t1 h1 t ht⟩
      have nlt : ¬ us.length < pts.length := by have := of_decide_eq_false (Bool.eq_false_iff.mpr cc); omega
      obtain ⟨q, lq⟩ := full (by rw [← hp.len]; exact nlt)
      obtain ⟨x1, rfl⟩ := one_of (lq.trans (rfl : _ = 1))
      obtain ⟨u1, rfl⟩ := one_of (rp.len.trans (rfl : _ = 1))
      have r1 := rp.tail.1
      have fin2 : ∀ (bv : V) (bc : MM.Core), CoreAt F (fun n => env.dom n = true) bv bc → MM.fin (.ite x y' z) [x1] env = .beg bc env → ∀ t, H1 t = none → Q (.ref t) (upd H1 t (.tup [.str "begin", bv, .ref e])) := fun bv bc hbc ef t ht => by
        have G2 := G1.new ht (.tup [.str "begin", bv, .ref e])
        refine k _ _ _ ws G2 (by rw [upd_ne (ne_of_none hw1 ht)]; exact hw1) ?_ ?_
        · rw [q]; exact hstk.same G2.ff
        · rw [q]
          show StAt cP cC _ _ (MM.fin (.ite x y' z) [x1] env)
          rw [ef]
          exact .beg upd_same (hbc.same G2.ff) (he.same G2.ff)
      have hv1 := SqL.of (K := K) (G1.up (G1.mem hvl))
      have ha1 := SqT.of (K := K) (G1.up (G1.mem h))
      have nz : ∀ (t : Bool), x1.isZero = t → MM.fin (.ite x y' z) [x1] env = .beg (if t = true then z else y') env := fun t e => by rw [← e] <;> rfl
      refine ⟨_, rfl, rfl, _, rfl, iteT ?_⟩
      cases r1 with
      | @int j _ _ =>
        refine ⟨_, rfl, vl, _, 0, _, rfl, rfl, hv1, rfl, 0, rfl, .inl ⟨j, rfl, ?_⟩⟩
        refine ⟨_, rfl, ite2 (fun c3 => ?_) (fun c3 => ?_)⟩
        · exact ⟨_, rfl, a, _, 3, _, rfl, rfl, ha1, rfl, _, rfl, sz3, fin2 _ _ hz (nz true c3)⟩
        · exact ⟨_, rfl, a, _, 2, _, rfl, rfl, ha1, rfl, _, rfl, sz3, fin2 _ _ hy (nz false (Bool.eq_false_iff.mpr c3))⟩
      | prim h' => exact ⟨_, rfl, vl, _, 0, _, rfl, rfl, hv1, rfl, 0, rfl, .inr (.inl ⟨_, _, rfl, G1.up (G1.mem h'), _, rfl, iteF ⟨_, rfl, a, _, 2, _, rfl, rfl, ha1, rfl, _, rfl, sz3, fin2 _ _ hy (nz false rfl)⟩⟩)⟩
      | pair h' _ _ => exact ⟨_, rfl, vl, _, 0, _, rfl, rfl, hv1, rfl, 0, rfl, .inr (.inr ⟨_, _, _, _, rfl, G1.up (G1.mem h'), O.fP, _, rfl, iteF ⟨_, rfl, a, _, 2, _, rfl, rfl, ha1, rfl, _, rfl, sz3, fin2 _ _ hy (nz false rfl)⟩⟩)⟩
      | fn h' _ _ _ _ _ _ => exact ⟨_, rfl, vl, _, 0, _, rfl, rfl, hv1, rfl, 0, rfl, .inr (.inr ⟨_, _, _, _, rfl, G1.up (G1.mem h'), O.fC, _, rfl, iteF ⟨_, rfl, a, _, 2, _, rfl, rfl, ha1, rfl, _, rfl, sz3, fin2 _ _ hy (nz false rfl)⟩⟩)⟩
  | @lett _ a b v ts ns ps_ ps c h h1 l1 l2 l3 num ht hps hc =>
    have n10 := num.1
    refine ⟨_, rfl, a, _, 0, _, rfl, rfl, SqT.of (fh _ _ h), rfl, ?_⟩
    refine ⟨fun σ' H1 => ∃ (F1 : Hp) (pt : Addr) (pts : List V), σ' = [some (.ref pl), some (.ref fr), some (.ref vl), some (.ref a), some y, some (.ref e), some (.str "let"), some (.ref pt), none, none, none, none] ∧ Gr [wl] F H F1 H1 ∧ H1 wl = some (.lst ws) ∧ F1 wl = none ∧ F1 pt = some (.tup pts) ∧ PtsAt F1 (fun n => env.dom n = true) pts (MM.parts (.lett ns ps c)), ?_, ?_⟩
    · refine ⟨_, rfl, rfl, _, rfl, iteF ⟨_, rfl, rfl, _, rfl, iteT ?_⟩⟩
      refine ⟨_, rfl, a, _, 1, _, rfl, rfl, SqT.of (fh _ _ h), rfl, b, rfl, ⟨_, SqT.of (fh _ _ h1)⟩, fun l hl => ?_⟩
      have lf : F l = none := fh.free hl
      refine lc_tup (K := K) (a := b) (xs := ts.map V.ref) (fun i H' => H' l = some (.lst (ps_.take i)) ∧ Gr [wl] F H F H' ∧ H' wl = some (.lst ws))
        ⟨upd_same, G0.loc hl _, by rw [upd_ne (ne_of_none hwl hl)]; exact hwl⟩ (fun i H' _ z => SqT.of (z.2.1.up h1)) ?_ ?_
      · rintro i x H' hx ⟨el, G', hw'⟩
        obtain ⟨t, hti, rfl⟩ : ∃ t, ts[i]? = some t ∧ V.ref t = x := by
          rw [List.getElem?_map] at hx
          exact Option.map_eq_some_iff.mp hx
        have hi : i < ts.length := (List.getElem?_eq_some_iff.mp hti).1
        have hw : ps_[i]? = some ps_[i] := List.getElem?_eq_getElem (by omega)
        have hti' := ht i t ns[i] ps_[i] hti (List.getElem?_eq_getElem (by omega)) hw
        refine ⟨t, _, rfl, SqT.of (G'.up hti'), rfl, _, _, rfl, _, _, rfl, rfl, rfl, _, rfl, ps_.take i, el, small1000 (by rw [List.length_take]; omega), ?_, G'.put lf (.inr hl) _, by rw [upd_ne (ne_of_none hwl hl)]; exact hw'⟩
        rw [upd_same, List.take_add_one, hw] <;> rfl
      · rintro H2 ⟨el, G2, hw2⟩
        have eq1 : ps_.take (ts.map V.ref).length = ps_ := List.take_of_length_le (by rw [List.length_map]; omega)
        rw [eq1] at el
        refine ⟨l, _, rfl, .inl ⟨SqL.of el, fun p hp => ?_⟩⟩
        exact ⟨upd F p (.tup ps_), p, ps_, rfl, G2.new hp _, by rw [upd_ne (ne_of_none hw2 hp)]; exact hw2, by rw [upd_ne (ne_of_none hw2 hp)]; exact fw, upd_same, (PtsAt.mk (by omega) hps).same (same_upd (G2.fh.free hp) _)⟩
    · rintro σ' H1 ⟨F1, pt, pts, rfl, G1, hw1, fw1, hpt, hp⟩
      refine ⟨_, rfl, vl, _, rfl, .inl (SqL.of (G1.up (G1.mem hvl))), _, rfl, pt, _, rfl, .inr (SqT.of (G1.up hpt)), _, _, rfl, rfl, _, rfl, ite2 (fun cc => ?_) (fun cc => ?_)⟩
      · have lt : us.length < pts.length := by have := of_decide_eq_true cc; omega
        obtain ⟨pv, epv, kk⟩ := push F1 H1 pt pts G1 hw1 fw1 hp lt
        refine ⟨_, rfl, pl, cL, dx, _, _, rfl, G1.keep pl _ (fun z => npw (List.mem_singleton.mp z)) hpl, O.fL.cl, O.nWaiting, pl_waiting _ _ _ _, .inl ⟨rfl, _, SqL.of hw1⟩, _, rfl, _, rfl, _, rfl, sz3, fun t1 h1 => ?_⟩
        refine ⟨wl, _, _, rfl, rfl, by rw [upd_ne (ne_of_none hw1 h1)]; exact hw1, small1000 (by omega), ?_⟩
        have npt : pt ≠ wl := fun z => by rw [z, fw1] at hpt; cases hpt
        have nvl : vl ≠ wl := fun z => by rw [z, fw] at hvl; cases hvl
        have G2 := (G1.loc h1 (.tup [.ref a, .ref vl, .ref e])).put fw1 (.inl List.mem_cons_self) (.lst (ws ++ [.ref t1]))
        refine ⟨_, rfl, _, rfl, vl, _, rfl, .inl (SqL.of (G2.up (G1.mem hvl))), pt, _, _, pv, rfl, rfl, SqT.of (G2.up hpt), at_of (j := us.length) rfl epv, _, rfl, sz3, fun t ht => kk t1 h1 t ht⟩
      have nlt : ¬ us.length < pts.length := by have := of_decide_eq_false (Bool.eq_false_iff.mpr cc); omega
      obtain ⟨q, lq⟩ := full (by rw [← hp.len]; exact nlt)
      have lq : xs.length = ps.length := lq
      have ha1 := SqT.of (K := K) (G1.up (G1.mem h))
      refine ⟨_, rfl, rfl, _, rfl, iteF ⟨_, rfl, rfl, _, rfl, iteT ?_⟩⟩
      refine ⟨_, rfl, a, _, 1, _, rfl, rfl, ha1, rfl, _, rfl, b, vl, _, _, rfl, SqT.of (G1.up (G1.mem h1)), SqL.of (G1.up (G1.mem hvl)), fun d hd => ?_⟩
      obtain ⟨ch, hch, hdm, hat⟩ := he.ex
      have df : F1 d = none := G1.fh.free hd
      refine Zm.dc_zm (K := K) (a := b) (b := vl) (xs := ts.map V.ref) (ys := us) (by rw [List.length_map, rp.len]; omega) (fun i H' => ∃ (F' : Hp) (kvs : List (Key × V)) (ei : MM.Env), H' d = some (.dK kvs) ∧ F' d = none ∧ Gr [wl] F1 H1 F' H' ∧ H' wl = some (.lst ws) ∧ kvs.length ≤ i ∧ EnvR cP cC F' (kvs :: ch) ei ∧ ei.puts (ns.drop i) (xs.drop i) = env.puts ns xs)
        ⟨F1, [], env, upd_same, df, (Gr.refl G1.fh).loc hd _, by rw [upd_ne (ne_of_none hw1 hd)]; exact hw1, Nat.le_refl _, ((⟨hdm, hat⟩ : EnvR cP cC F ch env).new).same G1.ff, rfl⟩
        (fun i H' ⟨F', kvs, ei, _, _, G', _⟩ => ⟨SqT.of (G'.up (G'.mem (G1.mem h1))), SqL.of (G'.up (G'.mem (G1.mem hvl)))⟩) ?_ ?_
      · rintro i x u T' H' hx hui ⟨F', kvs, ei, ed, fd, G', hw', lk, er, pu⟩ hT'
        obtain ⟨t, hti, rfl⟩ : ∃ t, ts[i]? = some t ∧ V.ref t = x := by
          rw [List.getElem?_map] at hx
          exact Option.map_eq_some_iff.mp hx
        have hi : i < ts.length := (List.getElem?_eq_some_iff.mp hti).1
        have hti' := ht i t ns[i] ps_[i] hti (List.getElem?_eq_getElem (by omega)) (List.getElem?_eq_getElem (by omega))
        have ndT : d ≠ T' := ne_of_none ed hT'
        have G2 := G'.new hT' (.tup [.ref t, u])
        have fd2 : upd F' T' (.tup [.ref t, u]) d = none := by rw [upd_ne ndT]; exact fd
        refine ⟨T', _, rfl, SqT.of upd_same, rfl, _, _, rfl, t, _, rfl, SqT.of (G2.up (G2.mem (G1.mem hti'))), rfl, _, _, rfl, _, _, rfl, rfl, _, _, rfl, rfl, rfl, _, rfl, _, rfl, kvs, Sum.inl ns[i], rfl, by rw [upd_ne ndT]; exact ed, small1000 (by omega), ?_⟩
        have ndw : wl ≠ d := ne_of_none hw1 hd
        have hx3 : i < xs.length := by omega
        have rx := rp.at_ i u xs[i] hui (List.getElem?_eq_getElem hx3)
        have sm := same_upd (G'.fh.free hT') (.tup [.ref t, u])
        refine ⟨_, putK kvs (Sum.inl ns[i]) u, ei.put ns[i] xs[i], upd_same, fd2, G2.put fd2 (.inr hd) _, by rw [upd_ne ndw, upd_ne (ne_of_none hw' hT')]; exact hw', ?_, (er.same sm).put (rx.same (G1.ff.trans G2.ff)), ?_⟩
        · have := length_putK kvs (Sum.inl ns[i]) u; omega
        · rw [← pu, List.drop_eq_getElem_cons (show i < ns.length by omega), List.drop_eq_getElem_cons hx3] <;> rfl
      · rintro H2 ⟨F2, kvs, ei, ed, fd, G2', hw2, lk, er, pu⟩
        have e1 : ns.drop (ts.map V.ref).length = [] := List.drop_eq_nil_of_le (by rw [List.length_map]; omega)
        rw [e1] at pu
        have pu : ei = env.puts ns xs := pu
        have G2 := G1.trans G2'
        refine ⟨_, rfl, a, _, 2, _, rfl, rfl, SqT.of (G2.up (G2.mem h)), rfl, _, rfl, _, rfl, sz2, fun t1 h1' => ⟨sz3, fun t ht' => ?_⟩⟩
        have hd0 : H d = none := G1.back hd
        have G3 := ((G2.freeze ed fd hd0).new h1' (.tup [.ref d, .ref e])).new ht' (.tup [.str "begin", v, .ref t1])
        have nt1 : t1 ≠ t := (upd_none ht').2.symm
        have nd1 : d ≠ t1 := ne_of_none ed h1'
        have nd2 : d ≠ t := ne_of_none ed (upd_none ht').1
        have sm : Same F2 (upd (upd (upd F2 d (.dK kvs)) t1 (.tup [.ref d, .ref e])) t (.tup [.str "begin", v, .ref t1])) := by
          refine ((same_upd fd _).trans (same_upd ?_ _)).trans (same_upd ?_ _)
          · rw [upd_ne nd1.symm]; exact G2.fh.free h1'
          · rw [upd_ne nt1.symm, upd_ne nd2.symm]; exact G2.fh.free (upd_none ht').1
        refine k _ _ _ ws G3 (by rw [upd_ne (ne_of_none (by rw [upd_ne (ne_of_none hw2 h1')]; exact hw2) ht'), upd_ne (ne_of_none hw2 h1')]; exact hw2) ?_ ?_
        · rw [q]; exact hstk.same G3.ff
        · rw [q]
          show StAt cP cC _ _ (.beg c (env.puts ns xs))
          refine .beg upd_same ((hc.same G3.ff).mono fun n hn => MM.puts_dom ns xs env n (by omega) hn) (.mk' (.cons (d := d) (b := e) (by rw [upd_ne nt1, upd_same]) (by rw [upd_ne nd2, upd_ne nd1, upd_same]) (hch.same G3.ff)) ?_)
          rw [← pu]
          exact er.same sm
  | @call _ a b u as f ps h h1 l1 l2 hat hf hps =>
    refine ⟨_, rfl, a, _, 0, _, rfl, rfl, SqT.of (fh _ _ h), rfl, ?_⟩
    refine ⟨fun σ' H1 => ∃ (F1 : Hp) (pt : Addr) (pts : List V), σ' = [some (.ref pl), some (.ref fr), some (.ref vl), some (.ref a), some y, some (.ref e), some (.str "call"), some (.ref pt), none, none, none, none] ∧ Gr [wl] F H F1 H1 ∧ H1 wl = some (.lst ws) ∧ F1 wl = none ∧ F1 pt = some (.tup pts) ∧ PtsAt F1 (fun n => env.dom n = true) pts (MM.parts (.call f ps)), ?_, ?_⟩
    · refine ⟨_, rfl, rfl, _, rfl, iteF ⟨_, rfl, rfl, _, rfl, iteF ?_⟩⟩
      refine ⟨_, rfl, a, _, 1, _, rfl, rfl, SqT.of (fh _ _ h), rfl, sz1, fun t1 h1' => ?_⟩
      have G1 := G0.new h1' (.tup [u])
      refine ⟨_, rfl, a, _, 2, _, rfl, rfl, SqT.of (G1.up (G1.mem h)), rfl, t1, b, [u], as, rfl, rfl, SqT.of upd_same, SqT.of (G1.up (G1.mem h1)), by simp, Nat.le_of_lt (small1000 (by rw [List.length_singleton]; omega)), fun z => ?_, fun _ p hp' => ?_⟩
      · refine ⟨_, t1, u :: as, rfl, G1, by rw [upd_ne (ne_of_none hwl h1')]; exact hwl, by rw [upd_ne (ne_of_none hwl h1')]; exact fw, by rw [z]; exact upd_same, (PtsAt.cons hf (PtsAt.mk l1 hps)).same G1.ff⟩
      · have G2 := G1.new hp' (.tup (u :: as))
        have w1 : upd H t1 (.tup [u]) wl = some (.lst ws) := by rw [upd_ne (ne_of_none hwl h1')]; exact hwl
        refine ⟨_, p, u :: as, rfl, G2, by rw [upd_ne (ne_of_none w1 hp')]; exact w1, by rw [upd_ne (ne_of_none w1 hp'), upd_ne (ne_of_none hwl h1')]; exact fw, upd_same, (PtsAt.cons hf (PtsAt.mk l1 hps)).same G2.ff⟩
    · rintro σ' H1 ⟨F1, pt, pts, rfl, G1, hw1, fw1, hpt, hp⟩
      refine ⟨_, rfl, vl, _, rfl, .inl (SqL.of (G1.up (G1.mem hvl))), _, rfl, pt, _, rfl, .inr (SqT.of (G1.up hpt)), _, _, rfl, rfl, _, rfl, ite2 (fun cc => ?_) (fun cc => ?_)⟩
      · have lt : us.length < pts.length := by have := of_decide_eq_true cc; omega
        obtain ⟨pv, epv, kk⟩ := push F1 H1 pt pts G1 hw1 fw1 hp lt
        refine ⟨_, rfl, pl, cL, dx, _, _, rfl, G1.keep pl _ (fun z => npw (List.mem_singleton.mp z)) hpl, O.fL.cl, O.nWaiting, pl_waiting _ _ _ _, .inl ⟨rfl, _, SqL.of hw1⟩, _, rfl, _, rfl, _, rfl, sz3, fun t1 h1 => ?_⟩
        refine ⟨wl, _, _, rfl, rfl, by rw [upd_ne (ne_of_none hw1 h1)]; exact hw1, small1000 (by omega), ?_⟩
        have npt : pt ≠ wl := fun z => by rw [z, fw1] at hpt; cases hpt
        have nvl : vl ≠ wl := fun z => by rw [z, fw] at hvl; cases hvl
        have G2 := (G1.loc h1 (.tup [.ref a, .ref vl, .ref e])).put fw1 (.inl List.mem_cons_self) (.lst (ws ++ [.ref t1]))
        refine ⟨_, rfl, _, rfl, vl, _, rfl, .inl (SqL.of (G2.up (G1.mem hvl))), pt, _, _, pv, rfl, rfl, SqT.of (G2.up hpt), at_of (j := us.length) rfl epv, _, rfl, sz3, fun t ht => kk t1 h1 t ht⟩
      have nlt : ¬ us.length < pts.length := by have := of_decide_eq_false (Bool.eq_false_iff.mpr cc); omega
      obtain ⟨q, lq⟩ := full (by rw [← hp.len]; exact nlt)
      obtain ⟨x0, xs', rfl⟩ : ∃ x r, xs = x :: r := by
        cases xs with
        | nil => simp [MM.parts] at lq
        | cons x r => exact ⟨x, r, rfl⟩
      obtain ⟨u0, us', rfl⟩ : ∃ x r, us = x :: r := by
        have := rp.len
        cases us with
        | nil => simp at this
        | cons x r => exact ⟨x, r, rfl⟩
      obtain ⟨r0, rps⟩ := rp.tail
      have hv1 := SqL.of (K := K) (G1.up (G1.mem hvl))
      refine ⟨_, rfl, rfl, _, rfl, iteF ⟨_, rfl, rfl, _, rfl, iteF ?_⟩⟩
      refine ⟨_, rfl, pl, dx, _, rfl, G1.keep pl _ (fun z => npw (List.mem_singleton.mp z)) hpl, pl_no _ _ _ _ (by decide +kernel) (by decide +kernel) (by decide +kernel) (by decide +kernel), _, rfl, vl, _, 0, _, rfl, rfl, hv1, at_of (j := 0) rfl rfl, _, rfl, _, rfl, vl, _, rfl, hv1, fun l2 hl2 => ?_⟩
      rw [cut1]
      have G2 := G1.loc hl2 (.lst us')
      refine ⟨pl, l2, u0, x0, us', xs', F1, rfl, G2.fh, r0.same G1.ff, upd_same, rps.same G1.ff, fun v F' H' G ho => ?_⟩
      have G3 := G2.trans (G.mono fun _ z => nomatch z)
      refine k _ _ _ ws G3 (G.keep wl _ (fun z => nomatch z) (by rw [upd_ne (ne_of_none hw1 hl2)]; exact hw1)) ?_ ?_
      · rw [q]; exact hstk.same G3.ff
      · rw [q]; exact ho
end
end AF
/-! ## C14 -/
namespace AF
open PySem L2
def gk (g : MM.G) : List Key := [Sum.inr (mstr g.mo), Sum.inr (nstr g.na)]
def GlbP (cP cC : Addr) (F : Hp) (kvs : List (List Key × V)) (gs : MM.Gs) : Prop := ∀ g : MM.G, (valV kvs (gk g)).isSome = (gs g).isSome ∧ ∀ u x, valV kvs (gk g) = some u → gs g = some x → RepP cP cC F u x
theorem GlbP.same {cP cC : Addr} {F F' : Hp} {kvs : List (List Key × V)} {gs : MM.Gs} (s : Same F F') (h : GlbP cP cC F kvs gs) : GlbP cP cC F' kvs gs := fun g => ⟨(h g).1, fun u x e1 e2 => ((h g).2 u x e1 e2).same s⟩
section
variable {P : Program} {w : World} {K : PySem.W.Frag} {mg : Str → Option Value} {base : Heap} {cP cC cL : Addr}
/-! ### Plain.begin -/
def spBegin (cP cC cL : Addr) : Sp := fun vs H Q _ => ∃ (pl wl gd e dx : Addr) (m s vc : V) (c : MM.Core) (env : MM.Env) (ws : List V) (stk : List MM.Fr) (kvs : List (List Key × V)) (gs : MM.Gs) (F : Hp), vs = [.ref pl, vc, .ref e] ∧ H pl = some (.ins cL dx (plF m s (.ref gd) (.ref wl))) ∧ Same F H ∧
  F wl = none ∧ H wl = some (.lst ws) ∧ StkAt cP cC F ws stk ∧ ws.length ≤ 500 ∧ H gd = some (.dT kvs) ∧ GlbP cP cC F kvs gs ∧ CoreAt F (fun n => env.dom n = true) vc c ∧ EnvP cP cC F e env ∧
  ∀ v F' H' ws', Gr [wl] F H F' H' → H' wl = some (.lst ws') → StkAt cP cC F' ws' (MM.begin_ gs c env stk).2 → StAt cP cC F' v (MM.begin_ gs c env stk).1 → Q v H'
theorem ok_begin (D_begin : Mf K cL "begin" "Plain.begin" s_Plain_begin p_Plain_begin) (D_resume : Mf K cL "resume" "Plain.resume" s_Plain_resume p_Plain_resume) (D_call : Mf K cL "call" "Plain.call" s_Plain_call p_Plain_call) (T : Txt K mg) (O : Own K mg cP cC cL) (U : Glb K w mg)
    (D_apply_prim : Df K mg "apply_prim" s_apply_prim p_apply_prim) (D_computed : Df K mg "computed" s_computed p_computed) (D_Pair : Ini K cP "Pair.__init__" s_Pair_init p_Pair_init) (D_Closure : Ini K cC "Closure.__init__" s_Closure_init p_Closure_init)
    (D_value_of : Df K mg "value_of" s_value_of p_value_of) : FnOk P w K mg base CX0 6 D_begin.f D_begin.fd p_Plain_begin (spBegin cP cC cL) := by
  have G_resume := ok_resume (P := P) (w := w) (base := base) D_resume D_call T O U D_apply_prim D_computed D_Pair
  have G_Closure := ok_closI (P := P) (w := w) (base := base) D_Closure O
  have G_value_of := ok_value_of (P := P) (w := w) (base := base) D_value_of
  refine D_begin.F.ok sc_Plain_begin (fun vs H Q E h => ?_) (fun cdv A outer s H vs Q E hr h => ?_)
  · obtain ⟨pl, wl, gd, e, dx, m, s, vc, c, env, ws, stk, kvs, gs, F, rfl, _⟩ := h
    rfl
  obtain ⟨pl, wl, gd, e, dx, m, sv, vc, c, env, ws, stk, kvs, gs, F, rfl, hpl, fh, fw, hwl, hstk, lws, hgd, glb, hc, he, k⟩ := h
  have nd := sc_Plain_begin.nd
  have hu := hu_of hr
  refine ⟨_, (pss_cons (ps_set (i := 3) nd rfl (Or.inl rfl) (pe_ix ix_tup (pv 1) pe_int (fun _ _ => rfl)))
    (pss_cons (ps_if (pt_cmpR op_eq (pv 3) pe_str (nomark _)) (pss_one (ps_ret (pe_tup (pa_cons pe_str (pa_cons (pe_ix ix_tup (pv 1) pe_int (fun _ _ => rfl)) pa_nil))))) pss_nil)
    (pss_cons (ps_if (pt_cmpR op_eq (pv 3) pe_str (nomark _)) (pss_one (ps_ret (pe_tup (pa_cons pe_str (pa_cons (pe_call G_value_of (hr.mono (by omega)) rfl D_value_of.m D_value_of.F.kp D_value_of.b .nil pass0 (pa_cons (pe_ix ix_tup (pv 1) pe_int (fun _ _ => rfl)) (pa_cons (pv 2) pa_nil))) pa_nil))))) pss_nil)
    (pss_cons (ps_if (pt_cmpR op_eq (pv 3) pe_str (nomark _)) (pss_cons (ps_if (pt_cmp (pc_din hu (pe_slice sl_tup (pv 1) (po_some pe_int) po_none) (pe_fld (pv 0) rfl))) (pss_one (ps_ret (pe_tup (pa_cons pe_str (pa_cons (pe_dget hu (pe_fld (pv 0) rfl) (pe_slice sl_tup (pv 1) (po_some pe_int) po_none) (fun _ _ => rfl)) pa_nil))))) pss_nil)
    (pss_one (ps_ret (pe_tup (pa_cons pe_str (pa_cons pe_str pa_nil)))))) pss_nil)
    (pss_cons (ps_if (pt_cmpR op_eq (pv 3) pe_str (nomark _)) (pss_one (ps_ret (pe_tup (pa_cons pe_str (pa_cons (pv 1) pa_nil))))) pss_nil)
    (pss_cons (ps_if (pt_cmpR op_eq (pv 3) pe_str (nomark _)) (pss_one (ps_ret (pe_tup (pa_cons pe_str (pa_cons (pe_make D_Closure.M G_Closure (hr.mono (by omega)) rfl O.mgClosure D_Closure.b .nil pass0 (pa_cons (pe_ix ix_tup (pv 1) pe_int (fun _ _ => rfl)) (pa_cons (pe_ix ix_tup (pv 1) pe_int (fun _ _ => rfl)) (pa_cons (pv 2) pa_nil)))) pa_nil))))) pss_nil)
    (pss_one (ps_ret (pe_meth (pv 0) O.fL.cl D_resume.M G_resume (hr.mono (by omega)) D_resume.b .nil pass0 (pa_cons (pe_tup (pa_cons (pv 1) (pa_cons (pe_lst pa_nil) (pa_cons (pv 2) pa_nil)))) (pa_cons (pe_lst pa_nil) pa_nil))))))))))), ?_⟩
  have G0 : Gr [wl] F H F H := Gr.refl fh
  have npw : pl ≠ wl := ne_of hpl hwl (by intro z; cases z)
  obtain ⟨ch, hch, hdm, hat⟩ := he.ex
  -- a value
  have val : ∀ (F1 H1 : Hp) (u : V) (x : MM.Val), MM.begin_ gs c env stk = (.val x, stk) → Gr [wl] F H F1 H1 → H1 wl = some (.lst ws) → RepP cP cC F1 u x → ∀ t, H1 t = none → Q (.ref t) (upd H1 t (.tup [.str "value", u])) := fun F1 H1 u x q G1 hw1 r t ht => by
    have G2 := G1.new ht (.tup [.str "value", u])
    refine k _ _ _ ws G2 (by rw [upd_ne (ne_of_none hw1 ht)]; exact hw1) ?_ ?_
    · rw [q]; exact hstk.same G2.ff
    · rw [q]; exact .val upd_same (r.same (same_upd (G1.fh.free ht) _))
  -- a compound part
  have comp : ∀ (a : Addr) (ha : vc = .ref a), ¬ c.atom → MM.begin_ gs c env stk = MM.resume c [] env stk → ∀ l1, H l1 = none → ∀ fr, upd H l1 (.lst []) fr = none → ∀ l2, upd (upd H l1 (.lst [])) fr (.tup [.ref a, .ref l1, .ref e]) l2 = none →
      spResume cP cC cL [.ref pl, .ref fr, .ref l2] (upd (upd (upd H l1 (.lst [])) fr (.tup [.ref a, .ref l1, .ref e])) l2 (.lst [])) Q E0 := fun a ha na q l1 h1 fr h2 l2 h3 => by
    subst ha
    have G3 := ((G0.loc h1 (.lst [])).new h2 (.tup [.ref a, .ref l1, .ref e])).new h3 (.lst [])
    have w1 : upd H l1 (.lst []) wl = some (.lst ws) := by rw [upd_ne (ne_of_none hwl h1)]; exact hwl
    have w2 : upd (upd H l1 (.lst [])) fr (.tup [.ref a, .ref l1, .ref e]) wl = some (.lst ws) := by rw [upd_ne (ne_of_none w1 h2)]; exact w1
    have n32 : l2 ≠ fr := (upd_none h3).2
    refine ⟨pl, fr, l2, wl, e, dx, m, sv, .ref gd, .ref a, .ref l1, c, env, [], [], ws, stk, _, rfl, G3.keep pl _ (fun z => npw (List.mem_singleton.mp z)) hpl, G3.fh, G3.fresh wl (some_ne hwl) fw, by rw [upd_ne (ne_of_none w2 h3)]; exact w2,
      hstk.same G3.ff, lws, by rw [upd_ne n32.symm, upd_same], hc.same G3.ff, na, he.same G3.ff, upd_same, .nil, Nat.zero_le _, fun v F' H' ws' G hw' hs ho => ?_⟩
    exact k v F' H' ws' (G3.trans G) hw' (by rw [q]; exact hs) (by rw [q]; exact ho)
  cases hc with
  | @int _ a j h h1 h2 =>
    exact ⟨_, rfl, a, _, 0, _, rfl, rfl, SqT.of (fh _ _ h), rfl, _, rfl, rfl, _, rfl, iteT ⟨_, rfl, a, _, 1, _, rfl, rfl, SqT.of (fh _ _ h), rfl, sz2, fun t ht => val F H _ _ rfl G0 hwl (.int h1 h2) t ht⟩⟩
  | @loc _ a n h h1 =>
    obtain ⟨u, hu⟩ : ∃ u, chV ch n = some u := by
      have q := hdm n
      have h1 : env.dom n = true := h1
      rw [h1] at q
      exact Option.isSome_iff_exists.mp q.symm
    refine ⟨_, rfl, a, _, 0, _, rfl, rfl, SqT.of (fh _ _ h), rfl, _, rfl, rfl, _, rfl, iteF ⟨_, rfl, rfl, _, rfl, iteT ?_⟩⟩
    exact ⟨_, rfl, a, _, 1, _, rfl, rfl, SqT.of (fh _ _ h), rfl, _, rfl, n, e, ch, u, F, rfl, fh, hch, hu, sz2, fun t ht => val F H _ _ rfl G0 hwl (hat n u hu) t ht⟩
  | @glob _ a g h =>
    refine ⟨_, rfl, a, _, 0, _, rfl, rfl, SqT.of (fh _ _ h), rfl, _, rfl, rfl, _, rfl, iteF ⟨_, rfl, rfl, _, rfl, iteF ⟨_, rfl, rfl, _, rfl, iteT ?_⟩⟩⟩
    refine ⟨_, rfl, _, rfl, a, _, rfl, SqT.of (fh _ _ h), fun q => absurd q.1 (by show ¬ HT.sIx 3 0 (some 1) = 0; decide), fun p hp => ?_⟩
    have G1 := G0.new hp (.tup [V.str (mstr g.mo), .str (nstr g.na)])
    have hw1 : upd H p (.tup [V.str (mstr g.mo), .str (nstr g.na)]) wl = some (.lst ws) := by rw [upd_ne (ne_of_none hwl hp)]; exact hwl
    have hg1 : upd H p (.tup [V.str (mstr g.mo), .str (nstr g.na)]) gd = some (.dT kvs) := by rw [upd_ne (ne_of_none hgd hp)]; exact hgd
    have hp1 : upd H p (.tup [V.str (mstr g.mo), .str (nstr g.na)]) pl = some (.ins cL dx (plF m sv (.ref gd) (.ref wl))) := by rw [upd_ne (ne_of_none hpl hp)]; exact hpl
    have dg : DGet (upd H p (.tup [V.str (mstr g.mo), .str (nstr g.na)])) gd (.ref p) (valV kvs (gk g)) := DGet.t (k := gk g) hg1 upd_same
    refine ⟨_, rfl, pl, cL, dx, _, _, rfl, hp1, O.fL.cl, O.nGlobals, pl_globals _ _ _ _, gd, _, rfl, dg, _, rfl, ?_⟩
    obtain ⟨t1, t2⟩ := glb g
    cases hv : valV kvs (gk g) with
    | none =>
      rw [hv] at t1
      have gn : gs g = none := by
        cases e : gs g with
        | none => rfl
        | some x => rw [e] at t1; cases t1
      have q : MM.begin_ gs (.glob g) env stk = (.err .early, stk) := by
        show ((match gs g with | some v => MM.St.val v | none => .err .early), stk) = _
        rw [gn]
      refine iteF ⟨sz2, fun t ht => ?_⟩
      have G2 := G1.new ht (.tup [.str "error", .str "early"])
      refine k _ _ _ ws G2 (by rw [upd_ne (ne_of_none hw1 ht)]; exact hw1) ?_ ?_
      · rw [q]; exact hstk.same G2.ff
      · rw [q]; exact .err upd_same
    | some u =>
      rw [hv] at t1
      obtain ⟨x, gx⟩ : ∃ x, gs g = some x := Option.isSome_iff_exists.mp t1.symm
      have q : MM.begin_ gs (.glob g) env stk = (.val x, stk) := by
        show ((match gs g with | some v => MM.St.val v | none => .err .early), stk) = _
        rw [gx]
      refine iteT ⟨_, rfl, pl, cL, dx, _, _, rfl, hp1, O.fL.cl, O.nGlobals, pl_globals _ _ _ _, _, rfl, _, rfl, a, _, rfl, SqT.of (G1.up (G1.mem h)), fun q => absurd q.1 (by show ¬ HT.sIx 3 0 (some 1) = 0; decide), fun p2 hp2 => ?_⟩
      have G2 := G1.new hp2 (.tup [V.str (mstr g.mo), .str (nstr g.na)])
      have dg2 : DGet (upd (upd H p (.tup [V.str (mstr g.mo), .str (nstr g.na)])) p2 (.tup [V.str (mstr g.mo), .str (nstr g.na)])) gd (.ref p2) (some u) := by
        rw [← hv]
        exact DGet.t (k := gk g) (by rw [upd_ne (ne_of_none hg1 hp2)]; exact hg1) upd_same
      exact ⟨gd, _, rfl, dg2, sz2, fun t ht => val _ _ _ _ q G2 (by rw [upd_ne (ne_of_none hw1 hp2)]; exact hw1) ((t2 u x hv gx).same G2.ff) t ht⟩
  | @prim _ a p h =>
    exact ⟨_, rfl, a, _, 0, _, rfl, rfl, SqT.of (fh _ _ h), rfl, _, rfl, rfl, _, rfl, iteF ⟨_, rfl, rfl, _, rfl, iteF ⟨_, rfl, rfl, _, rfl, iteF ⟨_, rfl, rfl, _, rfl, iteT ⟨_, rfl, sz2, fun t ht => val F H _ _ rfl G0 hwl (.prim h) t ht⟩⟩⟩⟩⟩
  | @fn _ a b v ns c h h1 num hc' =>
    refine ⟨_, rfl, a, _, 0, _, rfl, rfl, SqT.of (fh _ _ h), rfl, _, rfl, rfl, _, rfl, iteF ⟨_, rfl, rfl, _, rfl, iteF ⟨_, rfl, rfl, _, rfl, iteF ⟨_, rfl, rfl, _, rfl, iteF ⟨_, rfl, rfl, _, rfl, iteT ?_⟩⟩⟩⟩⟩
    refine ⟨_, rfl, a, _, 1, _, rfl, rfl, SqT.of (fh _ _ h), rfl, _, rfl, a, _, 2, _, rfl, rfl, SqT.of (fh _ _ h), rfl, _, rfl, ?_⟩
    intro x dx' nx ndx ne
    refine ⟨x, dx', _, _, _, rfl, upd_same, ⟨rfl, ?_⟩⟩
    rw [upd_upd, upd_upd, upd_upd]
    have G2 := G0.ins (o := .ins cC dx' (closF (.ref b) v (.ref e))) nx ndx ne
    have hw2 : upd (upd H dx' (.own x)) x (.ins cC dx' (closF (.ref b) v (.ref e))) wl = some (.lst ws) := by rw [upd_ne (ne_of_none hwl nx), upd_ne (ne_of_none hwl ndx)]; exact hwl
    exact ⟨sz2, fun t ht => val _ _ _ _ rfl G2 hw2 (.fn upd_same (G2.mem h1) num (hch.same G2.ff) (hc'.same G2.ff) hdm fun n u q => (hat n u q).same G2.ff) t ht⟩
  | @ite _ a u v w' x y z h hx hy hz =>
    refine ⟨_, rfl, a, _, 0, _, rfl, rfl, SqT.of (fh _ _ h), rfl, _, rfl, rfl, _, rfl, iteF ⟨_, rfl, rfl, _, rfl, iteF ⟨_, rfl, rfl, _, rfl, iteF ⟨_, rfl, rfl, _, rfl, iteF ⟨_, rfl, rfl, _, rfl, iteF ?_⟩⟩⟩⟩⟩
    exact ⟨_, rfl, pl, dx, _, rfl, hpl, pl_no _ _ _ _ (by decide +kernel) (by decide +kernel) (by decide +kernel) (by decide +kernel), _, rfl, sz0, fun l1 h1 => ⟨_, rfl, sz3, fun fr h2 => ⟨sz0, fun l2 h3 => comp a rfl (fun q => q) rfl l1 h1 fr h2 l2 h3⟩⟩⟩
  | @lett _ a b v ts ns ps_ ps c h h1 l1 l2 l3 num ht hps hc =>
    refine ⟨_, rfl, a, _, 0, _, rfl, rfl, SqT.of (fh _ _ h), rfl, _, rfl, rfl, _, rfl, iteF ⟨_, rfl, rfl, _, rfl, iteF ⟨_, rfl, rfl, _, rfl, iteF ⟨_, rfl, rfl, _, rfl, iteF ⟨_, rfl, rfl, _, rfl, iteF ?_⟩⟩⟩⟩⟩
    exact ⟨_, rfl, pl, dx, _, rfl, hpl, pl_no _ _ _ _ (by decide +kernel) (by decide +kernel) (by decide +kernel) (by decide +kernel), _, rfl, sz0, fun l1 h1 => ⟨_, rfl, sz3, fun fr h2 => ⟨sz0, fun l2 h3 => comp a rfl (fun q => q) rfl l1 h1 fr h2 l2 h3⟩⟩⟩
  | @call _ a b u as f ps h h1 l1 l2 hat_ hf hps =>
    refine ⟨_, rfl, a, _, 0, _, rfl, rfl, SqT.of (fh _ _ h), rfl, _, rfl, rfl, _, rfl, iteF ⟨_, rfl, rfl, _, rfl, iteF ⟨_, rfl, rfl, _, rfl, iteF ⟨_, rfl, rfl, _, rfl, iteF ⟨_, rfl, rfl, _, rfl, iteF ?_⟩⟩⟩⟩⟩
    exact ⟨_, rfl, pl, dx, _, rfl, hpl, pl_no _ _ _ _ (by decide +kernel) (by decide +kernel) (by decide +kernel) (by decide +kernel), _, rfl, sz0, fun l1 h1 => ⟨_, rfl, sz3, fun fr h2 => ⟨sz0, fun l2 h3 => comp a rfl (fun q => q) rfl l1 h1 fr h2 l2 h3⟩⟩⟩
end
end AF
/-! ## C15 -/
namespace AF
open PySem L2
theorem parts_le {F : Hp} {D : Int → Prop} {v : V} {c : MM.Core} (h : CoreAt F D v c) : (MM.parts c).length ≤ 20 := by
  cases h with
  | @lett _ a b v ts ns ws ps c _ _ _ _ l3 num _ _ _ =>
    have := num.1
    show ps.length ≤ 20
    omega
  | @call _ a b u ws f ps _ _ l1 l2 _ _ _ =>
    show (f :: ps).length ≤ 20
    rw [List.length_cons]
    omega
  | ite _ _ _ _ => exact (by decide : 1 ≤ 20)
  | _ => exact Nat.zero_le _
theorem resume_len (c : MM.Core) (xs : List MM.Val) (e : MM.Env) (stk : List MM.Fr) : (MM.resume c xs e stk).2.length ≤ stk.length + 1 := by
  unfold MM.resume
  split
  · exact Nat.le_refl _
  · exact Nat.le_succ _
theorem begin_len (g : MM.Gs) (c : MM.Core) (e : MM.Env) (stk : List MM.Fr) : (MM.begin_ g c e stk).2.length ≤ stk.length + 1 := by
  unfold MM.begin_
  split <;> first | exact Nat.le_succ _ | exact resume_len _ _ _ _
theorem Gr.inner' {X Y : List Addr} {F H F1 H1 F2 H2 : Hp} (a : Gr X F H F1 H1) (b : Gr Y F1 H1 F2 H2) (h : ∀ p ∈ Y, p ∈ X ∨ H p = none) : Gr X F H F2 H2 :=
  ⟨a.ff.trans b.ff, b.fh, fun c o n q => b.keep c o (fun z => by
    rcases h c z with e | e
    · exact n e
    · rw [e] at q; cases q) (a.keep c o n q), fun c n q => b.fresh c (a.live c n) (a.fresh c n q), fun c n => b.live c (a.live c n)⟩
section
variable {P : Program} {w : World} {K : PySem.W.Frag} {mg : Str → Option Value} {base : Heap} {cP cC cL : Addr}
/-! ### Plain.carry_out -/
def spCarry (cP cC cL : Addr) : Sp := fun vs H Q _ => ∃ (pl gd dx : Addr) (wl0 vc : V) (most s : Nat) (c : MM.Core) (kvs : List (List Key × V)) (gs : MM.Gs) (F : Hp), vs = [.ref pl, vc] ∧ H pl = some (.ins cL dx (plF (.int most) (.int s) (.ref gd) wl0)) ∧ Same F H ∧ F pl = none ∧ H gd = some (.dT kvs) ∧ GlbP cP cC F kvs gs ∧
  CoreAt F (fun _ => False) vc c ∧ most ≤ 200 ∧ s ≤ most ∧
  ∀ v F' H' wl', Gr [pl] F H F' H' → H' pl = some (.ins cL dx (plF (.int most) (.int ((most - (MM.ev gs c .nil (most - s)).2 : Nat) : Int)) (.ref gd) wl')) → OutP cP cC F' v (MM.ev gs c .nil (most - s)).1 → Q v H'
theorem ok_carry (D_carry_out : Mf K cL "carry_out" "Plain.carry_out" s_Plain_carry_out p_Plain_carry_out) (D_begin : Mf K cL "begin" "Plain.begin" s_Plain_begin p_Plain_begin) (D_resume : Mf K cL "resume" "Plain.resume" s_Plain_resume p_Plain_resume) (D_call : Mf K cL "call" "Plain.call" s_Plain_call p_Plain_call) (T : Txt K mg) (O : Own K mg cP cC cL) (U : Glb K w mg)
    (D_apply_prim : Df K mg "apply_prim" s_apply_prim p_apply_prim) (D_computed : Df K mg "computed" s_computed p_computed) (D_Pair : Ini K cP "Pair.__init__" s_Pair_init p_Pair_init) (D_Closure : Ini K cC "Closure.__init__" s_Closure_init p_Closure_init)
    (D_value_of : Df K mg "value_of" s_value_of p_value_of) : FnOk P w K mg base CX0 7 D_carry_out.f D_carry_out.fd p_Plain_carry_out (spCarry cP cC cL) := by
  have G_begin := ok_begin (P := P) (w := w) (base := base) D_begin D_resume D_call T O U D_apply_prim D_computed D_Pair D_Closure D_value_of
  have G_resume := ok_resume (P := P) (w := w) (base := base) D_resume D_call T O U D_apply_prim D_computed D_Pair
  refine D_carry_out.F.ok sc_Plain_carry_out (fun vs H Q E h => ?_) (fun cdv A outer s H vs Q E hr h => ?_)
  · obtain ⟨pl, gd, dx, wl0, vc, most, s, c, kvs, gs, F, rfl, _⟩ := h
    rfl
  obtain ⟨pl, gd, dx, wl0, vc, most, s0, c, kvs, gs, F, rfl, hpl, fh, fp, hgd, glb, hc, lm, ls, k⟩ := h
  have nd := sc_Plain_carry_out.nd
  have hu := hu_of hr
  refine ⟨_, (pss_cons (ps_fld (pv 0) (pe_lst pa_nil) rfl)
    (pss_cons (ps_set (i := 2) nd rfl (Or.inl rfl) (pe_tup (pa_cons pe_str (pa_cons (pv 1) (pa_cons (pe_tup (pa_cons pe_dnewK (pa_cons pe_non pa_nil))) pa_nil)))))
    (pss_one (ps_while PassesOwn.never (pt_val pe_bl)
    (pss_one (ps_if (pt_cmpR op_eq (pe_ix ix_tup (pv 2) pe_int (fun _ _ => rfl)) pe_str (nomark _)) (pss_cons (ps_if (pt_cmpR op_ge (pe_fld (pv 0) rfl) (pe_fld (pv 0) rfl) (nomark _)) (pss_one (ps_ret (pe_tup (pa_cons pe_str pa_nil)))) pss_nil)
    (pss_cons (ps_fldaug (pv 0) pe_int in_add)
    (pss_one (ps_set (i := 2) nd rfl (Or.inl rfl) (pe_meth (pv 0) O.fL.cl D_begin.M G_begin (hr.mono (by omega)) D_begin.b .nil pass0 (pa_cons (pe_ix ix_tup (pv 2) pe_int (fun _ _ => rfl)) (pa_cons (pe_ix ix_tup (pv 2) pe_int (fun _ _ => rfl)) pa_nil))))))) (pss_one (ps_if (PW.pt (pw_or (pt_cmpR op_eq (pe_ix ix_tup (pv 2) pe_int (fun _ _ => rfl)) pe_str (nomark _)) (pw_or1 (pt_not (pt_truth (pe_fld (pv 0) rfl) (by intro _; rfl)))))) (pss_one (ps_ret (pv 2))) (pss_cons (ps_set (i := 3) nd rfl (Or.inl rfl) (pe_bm0 PySem.F.plainAttrs_list PySem.F.slot_list_pop PySem.F.type_list_pop mt_pop (pe_fld (pv 0) rfl)))
    (pss_one (ps_set (i := 2) nd rfl (Or.inl rfl) (pe_meth (pv 0) O.fL.cl D_resume.M G_resume (hr.mono (by omega)) D_resume.b .nil pass0 (pa_cons (pv 3) (pa_cons (pe_op op_cat (pe_ix ix_tup (pv 3) pe_int (fun _ _ => rfl)) (pe_lst (pa_cons (pe_ix ix_tup (pv 2) pe_int (fun _ _ => rfl)) pa_nil))) pa_nil)))))))))))))), ?_⟩
  have npg : gd ≠ pl := ne_of hgd hpl (by intro z; cases z)
  have G0 : Gr [pl] F H F H := Gr.refl fh
  -- self.waiting = []
  refine ⟨sz0, fun wl hwl => ?_⟩
  have npw : pl ≠ wl := ne_of_none hpl hwl
  refine ⟨_, rfl, pl, cL, dx, _, rfl, by rw [upd_ne npw]; exact hpl, O.fL.cl, O.nWaiting, pl_len _ _ _ _, ?_⟩
  rw [pl_putW]
  have G1 := (G0.loc hwl (.lst [])).put fp (.inl List.mem_cons_self) (.ins cL dx (plF (.int most) (.int s0) (.ref gd) (.ref wl)))
  have w1 : upd (upd H wl (.lst [])) pl (.ins cL dx (plF (.int most) (.int s0) (.ref gd) (.ref wl))) wl = some (.lst []) := by rw [upd_ne npw.symm, upd_same]
  generalize hH1 : upd (upd H wl (.lst [])) pl (.ins cL dx (plF (.int most) (.int s0) (.ref gd) (.ref wl))) = H1 at G1 w1
  have p1 : H1 pl = some (.ins cL dx (plF (.int most) (.int s0) (.ref gd) (.ref wl))) := by rw [← hH1, upd_same]
  clear hH1
  have fwl : F wl = none := fh.free hwl
  refine ⟨_, rfl, fun d hd => ⟨sz2, fun t1 h1 => ⟨sz3, fun t ht => ?_⟩⟩⟩
  have G2 := ((G1.new hd (.dK [])).new h1 (.tup [.ref d, .non])).new ht (.tup [.str "begin", vc, .ref t1])
  have nd1 : d ≠ t1 := (upd_none h1).2.symm
  have nd2 : d ≠ t := (upd_none (upd_none ht).1).2.symm
  have nt1 : t1 ≠ t := (upd_none ht).2.symm
  have k1 : ∀ (x : Addr) (o : HO), H1 x = some o → upd (upd (upd H1 d (.dK [])) t1 (.tup [.ref d, .non])) t (.tup [.str "begin", vc, .ref t1]) x = some o := fun x o z => by
    have z1 : upd H1 d (.dK []) x = some o := by rw [upd_ne (ne_of_none z hd)]; exact z
    have z2 : upd (upd H1 d (.dK [])) t1 (.tup [.ref d, .non]) x = some o := by rw [upd_ne (ne_of_none z1 h1)]; exact z1
    rw [upd_ne (ne_of_none z2 ht)]; exact z2
  have eP : EnvP cP cC (upd (upd (upd F d (.dK [])) t1 (.tup [.ref d, .non])) t (.tup [.str "begin", vc, .ref t1])) t1 MM.Env.nil := ⟨[[]], .nil (d := d) (by rw [upd_ne nt1, upd_same]) (by rw [upd_ne nd2, upd_ne nd1, upd_same]), fun n => rfl, fun n u z => (nomatch z)⟩
  obtain ⟨fuel, hfuel⟩ := MM.carry gs most s0 c ls
  refine ⟨fun m σ' H' => ∃ (F1 : Hp) (wv : List V) (st : MM.St) (stk : List MM.Fr) (s1 : Nat) (sv : V) (fv : Option V), σ' = [some (.ref pl), some vc, some sv, fv] ∧ MM.loop gs most m st stk s1 = some ((MM.ev gs c .nil (most - s0)).1, most - (MM.ev gs c .nil (most - s0)).2) ∧ Gr [pl] F H F1 H' ∧
      H' pl = some (.ins cL dx (plF (.int most) (.int s1) (.ref gd) (.ref wl))) ∧ F1 wl = none ∧ H' wl = some (.lst wv) ∧ StkAt cP cC F1 wv stk ∧ stk.length ≤ s1 ∧ s1 ≤ most ∧ StAt cP cC F1 sv st,
    ⟨fuel, _, [], .beg c .nil, [], s0, _, none, rfl, hfuel, G2, k1 _ _ p1, by rw [upd_ne (ne_of_none w1 (upd_none (upd_none ht).1).1), upd_ne (ne_of_none w1 (upd_none h1).1), upd_ne (ne_of_none w1 hd)]; exact fwl, k1 _ _ w1, .nil, Nat.zero_le _, ls, .beg upd_same ((hc.same G2.ff).mono fun n z => z.elim) eP⟩, ?_⟩
  rintro m σ' H' ⟨F1, wv, st, stk, s1, sv, fv, rfl, hl, G, hp, fw, hw, hs, ln, lsm, hst⟩
  have npw' : pl ≠ wl := npw
  have xw : ∀ p ∈ [wl], p ∈ [pl] ∨ H p = none := fun p z => .inr (by rw [List.mem_singleton.mp z]; exact hwl)
  have xp : ∀ p ∈ [pl], p ∈ [pl] ∨ H p = none := fun p z => .inl z
  have fp1 : F1 pl = none := G.fresh pl (some_ne hpl) fp
  have hgd1 : H' gd = some (.dT kvs) := G.keep gd _ (fun z => npg (List.mem_singleton.mp z)) hgd
  refine ⟨_, rfl, iteT ?_⟩
  refine ⟨_, fun _ _ z => z, ?_⟩
  cases m with
  | zero => cases hl
  | succ m =>
    cases hst with
    | @beg a e v c' env h2 hcc hee =>
      refine ⟨_, rfl, a, _, 0, _, rfl, rfl, SqT.of (G.up h2), rfl, rfl, _, rfl, iteT ?_⟩
      refine ⟨_, rfl, pl, cL, dx, _, _, rfl, hp, O.fL.cl, O.nSteps, pl_steps _ _ _ _, _, rfl, pl, cL, dx, _, _, rfl, hp, O.fL.cl, O.nMost, pl_most _ _ _ _, _, _, rfl, rfl, _, rfl, ite2 (fun cc => ?_) (fun cc => ?_)⟩
      · have cc' : ((most : Nat) : Int) ≤ (s1 : Int) := of_decide_eq_true cc
        rw [MM.loop, if_pos (by omega)] at hl
        simp only [Option.some.injEq, Prod.mk.injEq] at hl
        obtain ⟨q1, q2⟩ := hl
        refine ⟨sz1, fun t ht => k _ _ _ (.ref wl) (G.new ht _) ?_ ?_⟩
        · rw [← q2, upd_ne (ne_of_none hp ht)]; exact hp
        · rw [← q1]; exact .steps upd_same
      · have cc' : ¬ ((most : Nat) : Int) ≤ (s1 : Int) := of_decide_eq_false (Bool.eq_false_iff.mpr cc)
        rw [MM.loop, if_neg (by omega)] at hl
        refine ⟨_, rfl, pl, cL, dx, _, _, rfl, hp, O.fL.cl, O.nSteps, pl_steps _ _ _ _, _, _, rfl, rfl, dx, _, hp, pl_len _ _ _ _, ?_⟩
        rw [pl_putS]
        have e1 : ((s1 : Nat) : Int) + 1 = ((s1 + 1 : Nat) : Int) := by omega
        rw [e1]
        have Gp := (Gr.refl (X := [pl]) G.fh).put fp1 (.inl List.mem_cons_self) (.ins cL dx (plF (.int most) (.int ((s1 + 1 : Nat) : Int)) (.ref gd) (.ref wl)))
        have hw2 : upd H' pl (.ins cL dx (plF (.int most) (.int ((s1 + 1 : Nat) : Int)) (.ref gd) (.ref wl))) wl = some (.lst wv) := by rw [upd_ne npw.symm]; exact hw
        have hg2 : upd H' pl (.ins cL dx (plF (.int most) (.int ((s1 + 1 : Nat) : Int)) (.ref gd) (.ref wl))) gd = some (.dT kvs) := by rw [upd_ne npg]; exact hgd1
        refine ⟨_, rfl, pl, dx, _, rfl, upd_same, pl_no _ _ _ _ (by decide +kernel) (by decide +kernel) (by decide +kernel) (by decide +kernel), _, rfl, a, _, 1, _, rfl, rfl, SqT.of (Gp.up h2), rfl, _, rfl, a, _, 2, _, rfl, rfl, SqT.of (Gp.up h2), rfl, ?_⟩
        refine ⟨pl, wl, gd, e, dx, .int most, .int ((s1 + 1 : Nat) : Int), v, c', env, wv, stk, kvs, gs, F1, rfl, upd_same, Gp.fh, fw, hw2, hs, by rw [hs.len]; omega, hg2, glb.same G.ff, hcc, hee, fun v' F2 H2 ws' G2 hw3 hs3 ho => ?_⟩
        have G3 := (G.trans Gp).inner' G2 xw
        refine ⟨m, Nat.lt_succ_self _, F2, ws', _, _, s1 + 1, v', fv, rfl, hl, G3, G2.keep pl _ (fun z => npw (List.mem_singleton.mp z)) upd_same, G2.fresh wl (some_ne hw2) fw, hw3, hs3, ?_, by omega, ho⟩
        have := begin_len gs c' env stk
        omega
    | @err a er h2 =>
      refine ⟨_, rfl, a, _, 0, _, rfl, rfl, SqT.of (G.up h2), rfl, rfl, _, rfl, iteF ?_⟩
      refine ⟨_, rfl, a, _, 0, _, rfl, rfl, SqT.of (G.up h2), rfl, rfl, _, rfl, iteT (iteT ⟨_, rfl, ?_⟩)⟩
      rw [MM.loop] at hl
      simp only [Option.some.injEq, Prod.mk.injEq] at hl
      obtain ⟨q1, q2⟩ := hl
      refine k _ _ _ (.ref wl) G ?_ ?_
      · rw [← q2]; exact hp
      · rw [← q1]; exact .err h2
    | @val a u x h2 r =>
      refine ⟨_, rfl, a, _, 0, _, rfl, rfl, SqT.of (G.up h2), rfl, rfl, _, rfl, iteF ?_⟩
      refine ⟨_, rfl, a, _, 0, _, rfl, rfl, SqT.of (G.up h2), rfl, rfl, _, rfl, iteF ?_⟩
      refine ⟨_, rfl, pl, cL, dx, _, _, rfl, hp, O.fL.cl, O.nWaiting, pl_waiting _ _ _ _, !wv.isEmpty, .inl ⟨wv, SqL.of hw, rfl⟩, ?_⟩
      cases hs with
      | nil =>
        refine iteT ⟨_, rfl, ?_⟩
        rw [MM.loop] at hl
        simp only [Option.some.injEq, Prod.mk.injEq] at hl
        obtain ⟨q1, q2⟩ := hl
        refine k _ _ _ (.ref wl) G ?_ ?_
        · rw [← q2]; exact hp
        · rw [← q1]; exact .val h2 r
      | @snoc ws stk v f hs hf =>
        have ne : (ws ++ [v]).isEmpty = false := by cases ws <;> rfl
        rw [ne]
        refine iteF ?_
        rw [MM.loop] at hl
        cases hf with
        | @mk fa vl e vc' cc us xs env f1 f2 f3 f4 f5 f6 f7 =>
          have lst : (ws ++ [V.ref fa])[(ws ++ [V.ref fa]).length - 1]? = some (.ref fa) := by
            rw [List.length_append, List.length_singleton, Nat.add_sub_cancel, List.getElem?_append_right (Nat.le_refl _), Nat.sub_self] <;> rfl
          refine ⟨_, rfl, pl, cL, dx, _, _, rfl, hp, O.fL.cl, O.nWaiting, pl_waiting _ _ _ _, .inl ⟨rfl, _, SqL.of hw⟩, wl, _, _, rfl, rfl, hw, lst, ?_⟩
          rw [List.dropLast_concat]
          have Gp := (Gr.refl (X := [wl]) G.fh).put fw (.inl List.mem_cons_self) (.lst ws)
          have hp2 : upd H' wl (.lst ws) pl = some (.ins cL dx (plF (.int most) (.int s1) (.ref gd) (.ref wl))) := by rw [upd_ne npw]; exact hp
          refine ⟨_, rfl, pl, dx, _, rfl, hp2, pl_no _ _ _ _ (by decide +kernel) (by decide +kernel) (by decide +kernel) (by decide +kernel), _, rfl, _, rfl, fa, _, 1, _, rfl, rfl, SqT.of (Gp.up f1), rfl, _, rfl, a, _, 1, _, rfl, rfl, SqT.of (Gp.up h2), rfl, sz1, fun l1 hl1 => ?_⟩
          have Gl := Gp.loc hl1 (.lst [u])
          have lp : xs.length ≤ (MM.parts cc).length := Nat.le_of_lt f7
          refine ⟨vl, l1, us, [u], rfl, rfl, Gl.up f4, upd_same, Nat.le_of_lt (small1000 (by have e1 := f5.len; have e2 := parts_le f2; rw [List.length_singleton]; omega)), fun l2 hl2 => ?_⟩
          have Gn := Gl.new hl2 (.lst (us ++ [u]))
          have hw4 : upd (upd (upd H' wl (.lst ws)) l1 (.lst [u])) l2 (.lst (us ++ [u])) wl = some (.lst ws) := by
            have z1 : upd (upd H' wl (.lst ws)) l1 (.lst [u]) wl = some (.lst ws) := by rw [upd_ne (ne_of_none upd_same hl1), upd_same]
            rw [upd_ne (ne_of_none z1 hl2)]; exact z1
          have hp4 := Gn.keep pl _ (fun z => npw (List.mem_singleton.mp z)) hp
          refine ⟨pl, fa, l2, wl, e, dx, _, _, _, vc', .ref vl, cc, env, us ++ [u], xs ++ [x], ws, stk, _, rfl, hp4, Gn.fh, Gn.fresh wl (some_ne hw) fw, hw4, hs.same Gn.ff, ?_, Gn.mem f1, f2.same Gn.ff, f3, f6.same Gn.ff, upd_same, (f5.same Gn.ff).snoc (r.same Gn.ff), by rw [List.length_append, List.length_singleton]; omega, fun v' F2 H2 ws' G2 hw3 hs3 ho => ?_⟩
          · have := hs.len
            rw [List.length_cons] at ln
            omega
          have G3 := (G.inner' Gn xw).inner' G2 xw
          refine ⟨m, Nat.lt_succ_self _, F2, ws', _, _, s1, v', _, rfl, hl, G3, G2.keep pl _ (fun z => npw (List.mem_singleton.mp z)) hp4, G2.fresh wl (some_ne hw4) (Gn.fresh wl (some_ne hw) fw), hw3, hs3, ?_, lsm, ho⟩
          rw [List.length_cons] at ln
          exact Nat.le_trans (resume_len cc (xs ++ [x]) env stk) (by omega)
end
end AF
/-! ## C16 -/
namespace AF
open PySem L2
theorem gk_inj {a b : MM.G} (h : gk a = gk b) : a = b := by
  obtain ⟨a1, a2⟩ := a
  obtain ⟨b1, b2⟩ := b
  injection h with h1 h2
  injection h2 with h2 _
  obtain rfl := mstr_inj (Sum.inr.inj h1)
  obtain rfl := nstr_inj (Sum.inr.inj h2)
  rfl
theorem GlbP.nil {cP cC : Addr} {F : Hp} : GlbP cP cC F [] gnil := fun g => ⟨rfl, fun u x z => nomatch z⟩
theorem GlbP.put {cP cC : Addr} {F : Hp} {kvs : List (List Key × V)} {gs : MM.Gs} (h : GlbP cP cC F kvs gs) {g : MM.G} {u : V} {x : MM.Val} (r : RepP cP cC F u x) : GlbP cP cC F (putK kvs (gk g) u) (gs.put g x) := fun g' => by
  rw [valV_put]
  show _ = (if g' = g then some x else gs g').isSome ∧ ∀ v y, _ → (if g' = g then some x else gs g') = some y → _
  by_cases e : g' = g
  · subst e
    rw [if_pos rfl, if_pos rfl]
    refine ⟨rfl, fun v y e1 e2 => ?_⟩
    cases e1
    cases e2
    exact r
  · rw [if_neg e, if_neg (fun z => e (gk_inj z))]
    exact h g'
section
variable {P : Program} {w : World} {K : PySem.W.Frag} {mg : Str → Option Value} {base : Heap} {cP cC cL : Addr}
def spPlainI (cL : Addr) : Sp := fun vs H Q _ => ∃ (x dx : Addr) (m : V) (F : Hp), vs = [.ref x, m] ∧ Same F H ∧ F x = none ∧ H x = some (.ins cL dx []) ∧
  ∀ (gd wl : Addr) (H' : Hp), Gr [x] F H F H' → H' x = some (.ins cL dx (plF m (.int 0) (.ref gd) (.ref wl))) → H' gd = some (.dT []) → H gd = none → Q .non H'
theorem ok_plainI (D : Ini K cL "Plain.__init__" s_Plain_init p_Plain_init) (O : Own K mg cP cC cL) : FnOk P w K mg base CX0 1 D.f D.fd p_Plain_init (spPlainI cL) := by
  refine D.F.ok sc_Plain_init (fun vs H Q E h => ?_) (fun cdv A outer s H vs Q E hr h => ?_)
  · obtain ⟨x, dx, m, F, rfl, _⟩ := h
    rfl
  obtain ⟨x, dx, m, F, rfl, fh, fx, hx, k⟩ := h
  refine ⟨_, (pss_cons (ps_fld (pv 0) (pv 1) rfl)
    (pss_cons (ps_fld (pv 0) pe_int rfl)
    (pss_cons (ps_fld (pv 0) pe_dnewT rfl)
    (pss_one (ps_fld (pv 0) (pe_lst pa_nil) rfl))))), ?_⟩
  have G0 : Gr [x] F H F H := Gr.refl fh
  refine ⟨_, rfl, _, rfl, x, cL, dx, [], rfl, hx, O.fL.cl, O.nMost, (by show 0 < 1000; decide), _, rfl, x, cL, dx, _, rfl, upd_same, O.fL.cl, O.nSteps, (by show 1 < 1000; decide), fun gd hgd => ?_⟩
  rw [upd_upd] at hgd ⊢
  have l2 : (putF "steps" (V.int 0) (putF "most" m [])).length < 1000 := by
    show (putF "steps" (V.int 0) [(("most" : Str), m)]).length < 1000
    rw [putF_ne (by decide +kernel)]
    show 2 < 1000
    decide
  have l3 : ∀ g : V, (putF "globals" g (putF "steps" (V.int 0) (putF "most" m []))).length < 1000 := fun g => by
    show (putF "globals" g (putF "steps" (V.int 0) [(("most" : Str), m)])).length < 1000
    rw [putF_ne (by decide +kernel)]
    show (putF "globals" g [(("most" : Str), m), ("steps", V.int 0)]).length < 1000
    rw [putF_ne (by decide +kernel), putF_ne (by decide +kernel)]
    show 3 < 1000
    decide
  have nxg : x ≠ gd := (upd_none hgd).2.symm
  have gd0 : H gd = none := (upd_none hgd).1
  refine ⟨_, rfl, x, cL, dx, _, rfl, by rw [upd_ne nxg]; exact upd_same, O.fL.cl, O.nGlobals, l2, sz0, fun wl hwl => ?_⟩
  have nxw : x ≠ wl := (upd_none hwl).2.symm
  have gw : gd ≠ wl := by
    have z := (upd_none hwl).1
    exact (upd_none z).2.symm
  refine ⟨_, rfl, x, cL, dx, _, rfl, by rw [upd_ne nxw]; exact upd_same, O.fL.cl, O.nWaiting, l3 _, ?_⟩
  have e := pl_mk m (.int 0) (.ref gd) (.ref wl)
  rw [e]
  have G1 := ((((G0.put fx (.inl List.mem_cons_self) (.ins cL dx (putF "steps" (.int 0) (putF "most" m [])))).loc hgd (.dT [])).put fx (.inl List.mem_cons_self) (.ins cL dx (putF "globals" (.ref gd) (putF "steps" (.int 0) (putF "most" m []))))).loc hwl (.lst [])).put fx (.inl List.mem_cons_self) (.ins cL dx (plF m (.int 0) (.ref gd) (.ref wl)))
  exact k gd wl _ G1 upd_same (by rw [upd_ne nxg.symm, upd_ne gw, upd_ne nxg.symm, upd_same]) gd0
end
end AF
/-! ## C17 -/
namespace AF
open PySem L2
section
variable {P : Program} {w : World} {K : PySem.W.Frag} {mg : Str → Option Value} {base : Heap} {cP cC cL : Addr}
/-! ### run_plain -/
def spRunPlain : Sp := fun vs H Q _ => ∃ (dl : Addr) (vc : V) (most : Nat) (ds : MM.Defs) (c : MM.Core) (F : Hp), vs = [.ref dl, vc, .int most] ∧ Same F H ∧ DefsAt F dl ds ∧ ds.length ≤ 4 ∧ CoreAt F (fun _ => False) vc c ∧ most ≤ 200 ∧
  ∀ t ov F' H', Gr [] F H F' H' → F' t = some (.tup [ov, .int ((most - (MM.due gnil ds c most).2 : Nat) : Int)]) → ShO F' ov (MM.due gnil ds c most).1 → Q (.ref t) H'
theorem ok_run_plain (D_run_plain : Df K mg "run_plain" s_run_plain p_run_plain) (D_Plain : Ini K cL "Plain.__init__" s_Plain_init p_Plain_init) (D_show : Df K mg "show" s_show p_show) (D_show_within : Df K mg "show_within" s_show_within p_show_within)
    (D_carry_out : Mf K cL "carry_out" "Plain.carry_out" s_Plain_carry_out p_Plain_carry_out) (D_begin : Mf K cL "begin" "Plain.begin" s_Plain_begin p_Plain_begin) (D_resume : Mf K cL "resume" "Plain.resume" s_Plain_resume p_Plain_resume) (D_call : Mf K cL "call" "Plain.call" s_Plain_call p_Plain_call) (T : Txt K mg) (O : Own K mg cP cC cL) (U : Glb K w mg)
    (D_apply_prim : Df K mg "apply_prim" s_apply_prim p_apply_prim) (D_computed : Df K mg "computed" s_computed p_computed) (D_Pair : Ini K cP "Pair.__init__" s_Pair_init p_Pair_init) (D_Closure : Ini K cC "Closure.__init__" s_Closure_init p_Closure_init)
    (D_value_of : Df K mg "value_of" s_value_of p_value_of) : FnOk P w K mg base CX0 63 D_run_plain.f D_run_plain.fd p_run_plain spRunPlain := by
  have G_carry_out := ok_carry (P := P) (w := w) (base := base) D_carry_out D_begin D_resume D_call T O U D_apply_prim D_computed D_Pair D_Closure D_value_of
  have G_Plain := ok_plainI (P := P) (w := w) (base := base) D_Plain O
  have G_show := ok_show (P := P) (base := base) D_show D_show_within T O U
  refine D_run_plain.F.ok sc_run_plain (fun vs H Q E h => ?_) (fun cdv A outer s H vs Q E hr h => ?_)
  · obtain ⟨dl, vc, most, ds, c, F, rfl, _⟩ := h
    rfl
  obtain ⟨dl, vc, most, ds, c, F, rfl, fh, hds, lds, hc, lm, k⟩ := h
  have nd := sc_run_plain.nd
  have hu := hu_of hr
  refine ⟨_, (pss_cons (ps_set (i := 3) nd rfl (Or.inl rfl) (pe_make D_Plain.M G_Plain (hr.mono (by omega)) rfl O.mgPlain D_Plain.b .nil pass0 (pa_cons (pv 2) pa_nil)))
    (pss_cons (ps_for PassesOwn.never rfl (pi_list (pv 0)) (pg_tup rfl (pgs_cons (pg_name (i := 4) nd rfl (Or.inl rfl)) (pgs_cons (pg_name (i := 5) nd rfl (Or.inl rfl)) (pgs_cons (pg_name (i := 6) nd rfl (Or.inl rfl)) pgs_nil))))
    (pss_cons (ps_set (i := 7) nd rfl (Or.inl rfl) (pe_meth (pv 3) O.fL.cl D_carry_out.M G_carry_out (hr.mono (by omega)) D_carry_out.b .nil pass0 (pa_cons (pv 6) pa_nil)))
    (pss_cons (ps_if (pt_cmpR op_ne (pe_ix ix_tup (pv 7) pe_int (fun _ _ => rfl)) pe_str (nomark _)) (pss_one (ps_ret (pe_tup (pa_cons (pv 7) (pa_cons (pe_fld (pv 3) rfl) pa_nil))))) pss_nil)
    (pss_one (ps_dput hu (pe_fld (pv 3) rfl) (pe_tup (pa_cons (pv 4) (pa_cons (pv 5) pa_nil))) (pe_ix ix_tup (pv 7) pe_int (fun _ _ => rfl)) rfl)))))
    (pss_cons (ps_set (i := 7) nd rfl (Or.inl rfl) (pe_meth (pv 3) O.fL.cl D_carry_out.M G_carry_out (hr.mono (by omega)) D_carry_out.b .nil pass0 (pa_cons (pv 1) pa_nil)))
    (pss_cons (ps_if (pt_cmpR op_eq (pe_ix ix_tup (pv 7) pe_int (fun _ _ => rfl)) pe_str (nomark _)) (pss_one (ps_set (i := 7) nd rfl (Or.inl rfl) (pe_tup (pa_cons pe_str (pa_cons (pe_call G_show (hr.mono (by omega)) rfl D_show.m D_show.F.kp D_show.b .nil pass0 (pa_cons (pe_ix ix_tup (pv 7) pe_int (fun _ _ => rfl)) pa_nil)) pa_nil))))) pss_nil)
    (pss_one (ps_ret (pe_tup (pa_cons (pv 7) (pa_cons (pe_fld (pv 3) rfl) pa_nil))))))))), ?_⟩
  obtain ⟨ts, hdl, lts, hts⟩ := hds
  -- plain = Plain(most)
  refine ⟨_, rfl, ?_⟩
  intro pl dx npl ndx ne
  have Gi : Gr [] F H F (upd (upd H dx (.own pl)) pl (.ins cL dx [])) := ((Gr.refl fh).loc ndx (.own pl)).loc (by rw [upd_ne ne.symm]; exact npl) _
  have fpl : F pl = none := fh.free npl
  refine ⟨pl, dx, .int most, F, rfl, Gi.fh, fpl, upd_same, fun gd wl H1 G1' hp1 hg1 gd0 => ⟨rfl, ?_⟩⟩
  have hgd0 : H gd = none := (upd_none (upd_none gd0).1).1
  have xp : ∀ p ∈ [pl], p ∈ ([] : List Addr) ∨ H p = none := fun p z => .inr (by rw [List.mem_singleton.mp z]; exact npl)
  have G1 := Gi.inner' G1' xp
  have npg : gd ≠ pl := ne_of hg1 hp1 (by intro z; cases z)
  have fgd : F gd = none := fh.free hgd0
  refine ⟨_, rfl, dl, rfl, ⟨_, SqL.of (G1.up hdl)⟩, for_list (K := K) (a := dl) (xs := ts.map V.ref) (fun i σ' H' => ∃ (v4 v5 v6 v7 : Option V) (F' : Hp) (s : Nat) (gs : MM.Gs) (kvs : List (List Key × V)) (wlv : V), σ' = [some (.ref dl), some vc, some (.int most), some (.ref pl), v4, v5, v6, v7] ∧ Gr [] F H F' H' ∧ F' pl = none ∧ F' gd = none ∧
      H' pl = some (.ins cL dx (plF (.int most) (.int s) (.ref gd) wlv)) ∧ H' gd = some (.dT kvs) ∧ kvs.length ≤ i ∧ GlbP cP cC F' kvs gs ∧ s ≤ most ∧ MM.due gs (ds.drop i) c (most - s) = MM.due gnil ds c most)
    ⟨none, none, none, none, F, 0, gnil, [], .ref wl, rfl, G1, fpl, fgd, hp1, hg1, Nat.le_refl _, .nil, Nat.zero_le _, rfl⟩ (fun i σ' H' _ ⟨_, _, _, _, _, _, _, _, _, _, G, _⟩ => SqL.of (G.up (G.mem hdl))) ?_ ?_⟩
  · rintro i tv σ' H' hti ⟨v4, v5, v6, v7, F', s1, gs, kvs, wlv, rfl, G, fp1, fg1, hp, hg, lk, glb, l1, hdue⟩
    obtain ⟨t, ht, rfl⟩ : ∃ t, ts[i]? = some t ∧ V.ref t = tv := by
      rw [List.getElem?_map] at hti
      exact Option.map_eq_some_iff.mp hti
    have hi : i < ts.length := (List.getElem?_eq_some_iff.mp ht).1
    have hi2 : i < ds.length := by omega
    obtain ⟨vb, hft, hcb⟩ := hts i t ds[i] ht (List.getElem?_eq_getElem hi2)
    have dr : ds.drop i = ds[i] :: ds.drop (i + 1) := List.drop_eq_getElem_cons hi2
    generalize hdi : ds[i] = di at hft hcb dr
    obtain ⟨g, b⟩ := di
    refine ⟨t, _, rfl, SqT.of (G.up (G.mem hft)), rfl, _, _, rfl, _, _, rfl, _, _, rfl, rfl, ?_⟩
    refine ⟨_, rfl, pl, dx, _, rfl, hp, pl_no _ _ _ _ (by decide +kernel) (by decide +kernel) (by decide +kernel) (by decide +kernel), _, rfl, ?_⟩
    refine ⟨pl, gd, dx, wlv, vb, most, s1, b, kvs, gs, F', rfl, hp, G.fh, fp1, hg, glb, hcb.same G.ff, lm, l1, fun v F2 H2 wl' G2' hp2 ho => ?_⟩
    have G2 := G.inner' G2' xp
    have le := MM.ev_le gs b .nil (most - s1)
    have fp2 := G2'.fresh pl (some_ne hp) fp1
    have hg2 := G2'.keep gd _ (fun z => npg (List.mem_singleton.mp z)) hg
    have fg2 := G2'.fresh gd (some_ne hg) fg1
    generalize hev : MM.ev gs b .nil (most - s1) = r at ho hp2 le
    obtain ⟨o, L1⟩ := r
    have le : L1 ≤ most - s1 := le
    rw [dr] at hdue
    have stop : ∀ o, MM.due gs ((g, b) :: ds.drop (i + 1)) c (most - s1) = (o, L1) → ShO F2 v o → ∀ t, H2 t = none → Q (.ref t) (upd H2 t (.tup [v, .int ((most - L1 : Nat) : Int)])) := fun o q ho t ht => by
      have q2 := hdue.symm.trans q
      have G3 := G2.new ht (.tup [v, .int ((most - L1 : Nat) : Int)])
      refine k t v _ _ G3 ?_ ?_
      · rw [q2]; exact upd_same
      · rw [q2]; exact ho.same (same_upd (G2.fh.free ht) _)
    cases ho with
    | err h2 =>
      refine ⟨_, rfl, _, _, 0, _, rfl, rfl, SqT.of (G2.up h2), rfl, rfl, _, rfl, iteT ?_⟩
      exact ⟨_, rfl, _, rfl, pl, cL, dx, _, _, rfl, hp2, O.fL.cl, O.nSteps, pl_steps _ _ _ _, sz2, fun t ht => stop _ (due_err hev) (.err h2) t ht⟩
    | steps h2 =>
      refine ⟨_, rfl, _, _, 0, _, rfl, rfl, SqT.of (G2.up h2), rfl, rfl, _, rfl, iteT ?_⟩
      exact ⟨_, rfl, _, rfl, pl, cL, dx, _, _, rfl, hp2, O.fL.cl, O.nSteps, pl_steps _ _ _ _, sz2, fun t ht => stop _ (due_steps hev) (.steps h2) t ht⟩
    | @val a u x h2 r =>
      refine ⟨_, rfl, _, _, 0, _, rfl, rfl, SqT.of (G2.up h2), rfl, rfl, _, rfl, iteF ?_⟩
      refine ⟨_, rfl, a, _, 1, _, rfl, rfl, SqT.of (G2.up h2), rfl, _, rfl, pl, cL, dx, _, _, rfl, hp2, O.fL.cl, O.nGlobals, pl_globals _ _ _ _, _, rfl, _, rfl, sz2, fun t' ht' => ?_⟩
      have G3 := G2.new ht' (.tup [.str (mstr g.mo), .str (nstr g.na)])
      have ngt : gd ≠ t' := ne_of_none hg2 ht'
      have fg3 : upd F2 t' (.tup [V.str (mstr g.mo), .str (nstr g.na)]) gd = none := by rw [upd_ne ngt]; exact fg2
      have fp3 : upd F2 t' (.tup [V.str (mstr g.mo), .str (nstr g.na)]) pl = none := by rw [upd_ne (ne_of_none hp2 ht')]; exact fp2
      have G4 := G3.put fg3 (.inr hgd0) (.dT (putK kvs (gk g) u))
      have sm := same_upd (G2.fh.free ht') (.tup [V.str (mstr g.mo), .str (nstr g.na)])
      refine ⟨gd, _, rfl, DPut.t (k := gk g) (by rw [upd_ne ngt]; exact hg2) upd_same (small1000 (by omega)), ?_⟩
      refine ⟨_, _, _, _, _, most - L1, gs.put g x, putK kvs (gk g) u, wl', rfl, G4, fp3, fg3, by rw [upd_ne npg.symm, upd_ne (ne_of_none hp2 ht')]; exact hp2, upd_same, ?_, (glb.same (G2'.ff.trans sm)).put (r.same sm), by omega, ?_⟩
      · have := length_putK kvs (gk g) u; omega
      · rw [← hdue, due_val hev, show most - (most - L1) = L1 by omega]
  · rintro σ' H' ⟨v4, v5, v6, v7, F', s1, gs, kvs, wlv, rfl, G, fp1, fg1, hp, hg, lk, glb, l1, hdue⟩
    have e0 : ds.drop (ts.map V.ref).length = [] := List.drop_eq_nil_of_le (by rw [List.length_map]; omega)
    rw [e0] at hdue
    have hdue : MM.ev gs c .nil (most - s1) = MM.due gnil ds c most := hdue
    refine ⟨_, rfl, pl, dx, _, rfl, hp, pl_no _ _ _ _ (by decide +kernel) (by decide +kernel) (by decide +kernel) (by decide +kernel), _, rfl, ?_⟩
    refine ⟨pl, gd, dx, wlv, vc, most, s1, c, kvs, gs, F', rfl, hp, G.fh, fp1, hg, glb, hc.same G.ff, lm, l1, fun v F2 H2 wl' G2' hp2 ho => ?_⟩
    have G2 := G.inner' G2' xp
    rw [hdue] at hp2 ho
    have stop : ∀ (v : V) (F3 H3 : Hp), Gr [] F H F3 H3 → ShO F3 v (MM.due gnil ds c most).1 → ∀ t, H3 t = none → Q (.ref t) (upd H3 t (.tup [v, .int ((most - (MM.due gnil ds c most).2 : Nat) : Int)])) := fun v F3 H3 G3 ho t ht => k t v _ _ (G3.new ht _) upd_same (ho.same (same_upd (G3.fh.free ht) _))
    generalize hdd : MM.due gnil ds c most = r at ho hp2 stop
    obtain ⟨o, L1⟩ := r
    cases ho with
    | err h2 =>
      refine ⟨_, rfl, _, _, 0, _, rfl, rfl, SqT.of (G2.up h2), rfl, rfl, _, rfl, iteF ?_⟩
      exact ⟨_, rfl, _, rfl, pl, cL, dx, _, _, rfl, hp2, O.fL.cl, O.nSteps, pl_steps _ _ _ _, sz2, fun t ht => stop _ _ _ G2 (.err h2) t ht⟩
    | steps h2 =>
      refine ⟨_, rfl, _, _, 0, _, rfl, rfl, SqT.of (G2.up h2), rfl, rfl, _, rfl, iteF ?_⟩
      exact ⟨_, rfl, _, rfl, pl, cL, dx, _, _, rfl, hp2, O.fL.cl, O.nSteps, pl_steps _ _ _ _, sz2, fun t ht => stop _ _ _ G2 (.steps h2) t ht⟩
    | @val a u x h2 r =>
      refine ⟨_, rfl, _, _, 0, _, rfl, rfl, SqT.of (G2.up h2), rfl, rfl, _, rfl, iteT ?_⟩
      refine ⟨_, rfl, a, _, 1, _, rfl, rfl, SqT.of (G2.up h2), rfl, u, x, F2, rfl, G2.fh, r, fun v' F3 H3 G3 hsh => ⟨sz2, fun t1 h1 => ?_⟩⟩
      have G4 := G2.trans G3
      have hp3 : upd H3 t1 (.tup [.str "value", v']) pl = some (.ins cL dx (plF (.int most) (.int ((most - L1 : Nat) : Int)) (.ref gd) wl')) := by
        have z := G3.keep pl _ (fun z => nomatch z) hp2
        rw [upd_ne (ne_of_none z h1)]; exact z
      exact ⟨_, rfl, _, rfl, pl, cL, dx, _, _, rfl, hp3, O.fL.cl, O.nSteps, pl_steps _ _ _ _, sz2, fun t ht => stop _ _ _ (G4.new h1 _) (.val upd_same (hsh.same (same_upd (G4.fh.free h1) _))) t ht⟩
end
end AF
/-! ## C18 -/
namespace AF
open PySem L2
theorem gkey_inj {a b : MM.G} (h : gkey a = gkey b) : a = b := by
  obtain ⟨a1, a2⟩ := a
  obtain ⟨b1, b2⟩ := b
  revert h
  cases a1 <;> cases a2 <;> cases b1 <;> cases b2 <;> first | (intro _; rfl) | (intro z; exact absurd z (by decide +kernel))
theorem TabL.nil {F : Hp} : TabL F [] gnil := fun g => ⟨rfl, fun u x z => nomatch z⟩
theorem TabL.put {F : Hp} {kvs : List (Key × V)} {gs : MM.Gs} (h : TabL F kvs gs) {g : MM.G} {u : V} {x : MM.Val} (r : RepL F u x) : TabL F (putK kvs (Sum.inr (gkey g)) u) (gs.put g x) := fun g' => by
  rw [valV_put]
  show _ = (if g' = g then some x else gs g').isSome ∧ ∀ v y, _ → (if g' = g then some x else gs g') = some y → _
  by_cases e : g' = g
  · subst e
    rw [if_pos rfl, if_pos rfl]
    refine ⟨rfl, fun v y e1 e2 => ?_⟩
    cases e1
    cases e2
    exact r
  · rw [if_neg e, if_neg (fun z => e (gkey_inj (Sum.inr.inj z)))]
    exact h g'
theorem wl_mk (L : Nat) (tb : Addr) (dp : Int) : mergeK [] (wl L tb dp) = wl L tb dp := by
  show putK (putK (putK [] (Sum.inr "left" : Key) (V.int L)) (Sum.inr "table") (.ref tb)) (Sum.inr "deepest") (.int dp) = _
  have n1 : valV [((Sum.inr "left" : Key), V.int L)] (Sum.inr "table") = none := by rw [valV_neg (key_ne (by decide +kernel))] <;> rfl
  have n2 : valV [((Sum.inr "left" : Key), V.int L), (Sum.inr "table", .ref tb)] (Sum.inr "deepest") = none := by rw [valV_neg (key_ne (by decide +kernel)), valV_neg (key_ne (by decide +kernel))] <;> rfl
  have e0 : putK [] (Sum.inr "left" : Key) (V.int L) = [((Sum.inr "left" : Key), V.int L)] := putK_new _ rfl
  rw [e0, putK_new _ n1]
  exact putK_new _ n2
section
variable {P : Program} {w : World} {K : PySem.W.Frag} {mg : Str → Option Value} {base : Heap}
/-! ### _law_due -/
def spDue : Sp := fun vs H Q _ => ∃ (dl : Addr) (vc : V) (most : Nat) (ds : MM.Defs) (c : MM.Core) (F : Hp), vs = [.ref dl, vc, .int most] ∧ Same F H ∧ DefsAt F dl ds ∧ ds.length ≤ 4 ∧ CoreAt F (fun _ => False) vc c ∧ most ≤ 150 ∧
  ∀ t ov dp F' H', Gr [] F H F' H' → F' t = some (.tup [ov, .int ((most - (MM.due gnil ds c most).2 : Nat) : Int), .int dp]) → ShO F' ov (MM.due gnil ds c most).1 → Q (.ref t) H'
theorem ok_due (D_law_due : Df K mg "_law_due" s__law_due p__law_due) (D_law_run : Df K mg "_law_run" s__law_run p__law_run) (T : Txt K mg) (D_law_all : Df K mg "_law_all" s__law_all p__law_all) (D_law_call : Df K mg "_law_call" s__law_call p__law_call) (D_law_with : Df K mg "_law_with" s__law_with p__law_with)
    (D_law_prim : Df K mg "_law_prim" s__law_prim p__law_prim) (D_law_shown : Df K mg "_law_shown" s__law_shown p__law_shown) : FnOk P w K mg base CX0 104 D_law_due.f D_law_due.fd p__law_due spDue := by
  have G_law_run := FnR.ok (k := 103) (ok_runs (P := P) (w := w) (base := base) D_law_run T D_law_all D_law_call D_law_with D_law_prim 151).1 (by decide)
  have G_law_shown := ok_shown (P := P) (w := w) (base := base) D_law_shown T 60
  refine D_law_due.F.ok sc__law_due (fun vs H Q E h => ?_) (fun cdv A outer s H vs Q E hr h => ?_)
  · obtain ⟨dl, vc, most, ds, c, F, rfl, _⟩ := h
    rfl
  obtain ⟨dl, vc, most, ds, c, F, rfl, fh, hds, lds, hc, lm, k⟩ := h
  have nd := sc__law_due.nd
  have hu := hu_of hr
  refine ⟨_, (pss_cons (ps_set (i := 3) nd rfl (Or.inl rfl) (pe_disp (pps_cons pe_str (pv 2) (pps_cons pe_str pe_dnewK (pps_cons pe_str pe_int pps_nil))) (by rfl) (by rfl) (fun z => by cases z) (by decide)))
    (pss_cons (ps_for PassesOwn.never rfl (pi_list (pv 0)) (pg_tup rfl (pgs_cons (pg_name (i := 4) nd rfl (Or.inl rfl)) (pgs_cons (pg_name (i := 5) nd rfl (Or.inl rfl)) (pgs_cons (pg_name (i := 6) nd rfl (Or.inl rfl)) pgs_nil))))
    (pss_cons (ps_set (i := 7) nd rfl (Or.inl rfl) (pe_call G_law_run (hr.mono (by omega)) rfl D_law_run.m D_law_run.F.kp D_law_run.b .nil pass0 (pa_cons (pv 6) (pa_cons pe_dnewK (pa_cons (pv 3) (pa_cons pe_int (pa_cons pe_bl pa_nil)))))))
    (pss_cons (ps_if (pt_cmpR op_ne (pe_ix ix_tup (pv 7) pe_int (fun _ _ => rfl)) pe_str (nomark _)) (pss_one (ps_ret (pe_tup (pa_cons (pv 7) (pa_cons (pe_op op_sub (pv 2) (pe_dget hu (pv 3) pe_str (fun _ _ => rfl))) (pa_cons (pe_dget hu (pv 3) pe_str (fun _ _ => rfl)) pa_nil)))))) pss_nil)
    (pss_cons (ps_set (i := 8) nd rfl (Or.inl rfl) (pe_dget hu (pv 3) pe_str (fun _ _ => rfl)))
    (pss_one (ps_dput hu (pv 8) (pe_op op_add_str (pe_op op_add_str (pv 4) pe_str) (pv 5)) (pe_ix ix_tup (pv 7) pe_int (fun _ _ => rfl)) rfl))))))
    (pss_cons (ps_set (i := 7) nd rfl (Or.inl rfl) (pe_call G_law_run (hr.mono (by omega)) rfl D_law_run.m D_law_run.F.kp D_law_run.b .nil pass0 (pa_cons (pv 1) (pa_cons pe_dnewK (pa_cons (pv 3) (pa_cons pe_int (pa_cons pe_bl pa_nil)))))))
    (pss_cons (ps_if (pt_cmpR op_eq (pe_ix ix_tup (pv 7) pe_int (fun _ _ => rfl)) pe_str (nomark _)) (pss_one (ps_set (i := 7) nd rfl (Or.inl rfl) (pe_tup (pa_cons pe_str (pa_cons (pe_call G_law_shown (hr.mono (by omega)) rfl D_law_shown.m D_law_shown.F.kp D_law_shown.b .nil pass0 (pa_cons (pe_ix ix_tup (pv 7) pe_int (fun _ _ => rfl)) (pa_cons pe_int (pa_cons (pe_lst (pa_cons pe_int pa_nil)) pa_nil)))) pa_nil))))) pss_nil)
    (pss_one (ps_ret (pe_tup (pa_cons (pv 7) (pa_cons (pe_op op_sub (pv 2) (pe_dget hu (pv 3) pe_str (fun _ _ => rfl))) (pa_cons (pe_dget hu (pv 3) pe_str (fun _ _ => rfl)) pa_nil)))))))))), ?_⟩
  obtain ⟨ts, hdl, lts, hts⟩ := hds
  intro wd hwd
  refine ⟨_, rfl, fun tb htb => ?_⟩
  have nwt : wd ≠ tb := (upd_none htb).2.symm
  have tb0 : H tb = none := (upd_none htb).1
  refine ⟨by rw [upd_ne nwt]; exact upd_same, wl most tb 1, rfl, (by show 3 ≤ 15; decide), ?_⟩
  rw [wl_mk]
  have fwd : F wd = none := fh.free hwd
  have ftb : F tb = none := fh.free tb0
  have G1 : Gr [] F H F (upd (upd (upd H wd (.dK [])) tb (.dK [])) wd (.dK (wl most tb 1))) := (((Gr.refl fh).loc hwd (.dK [])).loc htb (.dK [])).put fwd (.inr hwd) _
  have w1 : upd (upd (upd H wd (.dK [])) tb (.dK [])) wd (.dK (wl most tb 1)) wd = some (.dK (wl most tb 1)) := upd_same
  have t1 : upd (upd (upd H wd (.dK [])) tb (.dK [])) wd (.dK (wl most tb 1)) tb = some (.dK []) := by rw [upd_ne nwt.symm, upd_same]
  generalize upd (upd (upd H wd (.dK [])) tb (.dK [])) wd (.dK (wl most tb 1)) = H1 at G1 w1 t1
  have xp : ∀ p ∈ [wd], p ∈ ([] : List Addr) ∨ H p = none := fun p z => .inr (by rw [List.mem_singleton.mp z]; exact hwd)
  have ntw : tb ∉ [wd] := fun z => nwt (List.mem_singleton.mp z).symm
  have dgl : ∀ {H' : Hp} {L : Nat} {dp : Int}, H' wd = some (.dK (wl L tb dp)) → DGet H' wd (V.str "left") (some (.int L)) := fun h => by
    have q := DGet.k (k := Sum.inr "left") h
    rw [wl_left] at q
    exact q
  have dgt : ∀ {H' : Hp} {L : Nat} {dp : Int}, H' wd = some (.dK (wl L tb dp)) → DGet H' wd (V.str "table") (some (.ref tb)) := fun h => by
    have q := DGet.k (k := Sum.inr "table") h
    rw [wl_table] at q
    exact q
  have dgd : ∀ {H' : Hp} {L : Nat} {dp : Int}, H' wd = some (.dK (wl L tb dp)) → DGet H' wd (V.str "deepest") (some (.int dp)) := fun h => by
    have q := DGet.k (k := Sum.inr "deepest") h
    rw [wl_deepest] at q
    exact q
  have fin : ∀ (ov : V) (o : MM.Out) (L1 : Nat) (dp : Int) (F2 H2 : Hp), MM.due gnil ds c most = (o, L1) → Gr [] F H F2 H2 → ShO F2 ov o → ∀ t, H2 t = none → Q (.ref t) (upd H2 t (.tup [ov, .int ((most : Int) - (L1 : Int)), .int dp])) := fun ov o L1 dp F2 H2 q G2 ho t ht => by
    have le := MM.due_le ds gnil c most
    rw [q] at le
    have le : L1 ≤ most := le
    have e : ((most : Int) - (L1 : Int)) = ((most - L1 : Nat) : Int) := by omega
    rw [e]
    refine k t ov dp _ _ (G2.new ht _) ?_ ?_
    · rw [q]; exact upd_same
    · rw [q]; exact ho.same (same_upd (G2.fh.free ht) _)
  have eN : ∀ {F2 : Hp} {d : Addr}, F2 d = some (.dK []) → EnvL F2 d MM.Env.nil := fun h => ⟨[], h, KvOk.nil, fun n => rfl, fun n u z => nomatch z⟩
  refine ⟨_, rfl, dl, rfl, ⟨_, SqL.of (G1.up hdl)⟩, for_list (K := K) (a := dl) (xs := ts.map V.ref) (fun i σ' H' => ∃ (v4 v5 v6 v7 v8 : Option V) (F' : Hp) (L : Nat) (gs : MM.Gs) (kvs : List (Key × V)), σ' = [some (.ref dl), some vc, some (.int most), some (.ref wd), v4, v5, v6, v7, v8] ∧ Gr [] F H F' H' ∧ Ws wd tb L gs F' H' ∧ F' tb = none ∧
      H' tb = some (.dK kvs) ∧ kvs.length ≤ i ∧ TabL F' kvs gs ∧ L ≤ most ∧ MM.due gs (ds.drop i) c L = MM.due gnil ds c most)
    ⟨none, none, none, none, none, F, most, gnil, [], rfl, G1, ⟨G1.fh, fwd, ⟨1, w1⟩, nwt.symm, [], t1, TabL.nil⟩, ftb, t1, Nat.le_refl _, TabL.nil, Nat.le_refl _, rfl⟩ (fun i σ' H' _ ⟨_, _, _, _, _, _, _, _, _, _, G, _⟩ => SqL.of (G.up (G.mem hdl))) ?_ ?_⟩
  · rintro i tv σ' H' hti ⟨v4, v5, v6, v7, v8, F', L, gs, kvs, rfl, G, S, ft, ht_, lk, tab, lL, hdue⟩
    obtain ⟨t, ht, rfl⟩ : ∃ t, ts[i]? = some t ∧ V.ref t = tv := by
      rw [List.getElem?_map] at hti
      exact Option.map_eq_some_iff.mp hti
    have hi : i < ts.length := (List.getElem?_eq_some_iff.mp ht).1
    have hi2 : i < ds.length := by omega
    obtain ⟨vb, hft, hcb⟩ := hts i t ds[i] ht (List.getElem?_eq_getElem hi2)
    have dr : ds.drop i = ds[i] :: ds.drop (i + 1) := List.drop_eq_getElem_cons hi2
    generalize hdi : ds[i] = di at hft hcb dr
    obtain ⟨g, b⟩ := di
    rw [dr] at hdue
    refine ⟨t, _, rfl, SqT.of (G.up (G.mem hft)), rfl, _, _, rfl, _, _, rfl, _, _, rfl, rfl, ?_⟩
    refine ⟨_, rfl, fun e he => ⟨_, rfl, ?_⟩⟩
    have Ge := (Gr.refl (X := [wd]) G.fh).new he (.dK [])
    have Se := S.newF he (.dK [])
    refine ⟨vb, e, wd, tb, 1, true, b, .nil, L, gs, _, rfl, .inr (by omega), Se, eN upd_same, (hcb.same (G.ff.trans Ge.ff)).mono fun n z => z.elim, fun v F2 H2 G2' S2 ho => ?_⟩
    have G2 := G.inner' (Ge.trans G2') xp
    have le := MM.ev_le gs b .nil L
    have ntb2 := (Ge.trans G2').keep tb _ ntw ht_
    have ftb2 := (Ge.trans G2').fresh tb (some_ne ht_) ft
    generalize hev : MM.ev gs b .nil L = r at ho S2 le
    obtain ⟨o, L1⟩ := r
    have le : L1 ≤ L := le
    obtain ⟨dp2, hw2⟩ := S2.hw
    cases ho with
    | err h2 =>
      refine ⟨_, rfl, _, _, 0, _, rfl, rfl, SqT.of (G2.up h2), rfl, rfl, _, rfl, iteT ?_⟩
      exact ⟨_, rfl, _, rfl, _, rfl, wd, _, rfl, dgl hw2, _, _, rfl, rfl, _, rfl, wd, _, rfl, dgd hw2, sz3, fun t ht => fin _ _ L1 dp2 _ _ (hdue.symm.trans (due_err hev)) G2 (.err h2) t ht⟩
    | steps h2 =>
      refine ⟨_, rfl, _, _, 0, _, rfl, rfl, SqT.of (G2.up h2), rfl, rfl, _, rfl, iteT ?_⟩
      exact ⟨_, rfl, _, rfl, _, rfl, wd, _, rfl, dgl hw2, _, _, rfl, rfl, _, rfl, wd, _, rfl, dgd hw2, sz3, fun t ht => fin _ _ L1 dp2 _ _ (hdue.symm.trans (due_steps hev)) G2 (.steps h2) t ht⟩
    | @val a u x h2 r =>
      refine ⟨_, rfl, _, _, 0, _, rfl, rfl, SqT.of (G2.up h2), rfl, rfl, _, rfl, iteF ?_⟩
      have s1 : (mstr g.mo).length + 1 ≤ sizeLine := Nat.le_of_lt (small1000 (by have := gkey_len g; omega))
      have s2 : (mstr g.mo ++ ".").length + (nstr g.na).length ≤ sizeLine := by
        rw [mlen g.mo]
        exact Nat.le_of_lt (small1000 (by have := gkey_len g; omega))
      refine ⟨_, rfl, wd, _, rfl, dgt hw2, ?_⟩
      refine ⟨_, rfl, a, _, 1, _, rfl, rfl, SqT.of (G2.up h2), rfl, _, rfl, _, rfl, _, _, rfl, rfl, s1, _, rfl, _, _, rfl, rfl, s2, tb, _, rfl, DPut.k (k := Sum.inr (gkey g)) ntb2 (small1000 (by omega)), ?_⟩
      have G4 := G2.put ftb2 (.inr tb0) (.dK (putK kvs (Sum.inr (gkey g)) u))
      have tab2 := (tab.same (Ge.trans G2').ff).put (g := g) r
      have S4 : Ws wd tb L1 (gs.put g x) F2 (upd H2 tb (.dK (putK kvs (Sum.inr (gkey g)) u))) := ⟨G4.fh, S2.wf, ⟨dp2, by rw [upd_ne nwt]; exact hw2⟩, nwt.symm, _, upd_same, tab2⟩
      refine ⟨_, _, _, _, _, F2, L1, gs.put g x, _, rfl, G4, S4, ftb2, upd_same, ?_, tab2, by omega, ?_⟩
      · have := length_putK kvs (Sum.inr (gkey g)) u; omega
      · rw [← hdue, due_val hev]
  · rintro σ' H' ⟨v4, v5, v6, v7, v8, F', L, gs, kvs, rfl, G, S, ft, ht_, lk, tab, lL, hdue⟩
    have e0 : ds.drop (ts.map V.ref).length = [] := List.drop_eq_nil_of_le (by rw [List.length_map]; omega)
    rw [e0] at hdue
    have hdue : MM.ev gs c .nil L = MM.due gnil ds c most := hdue
    refine ⟨_, rfl, fun e he => ⟨_, rfl, ?_⟩⟩
    have Ge := (Gr.refl (X := [wd]) G.fh).new he (.dK [])
    have Se := S.newF he (.dK [])
    refine ⟨vc, e, wd, tb, 1, true, c, .nil, L, gs, _, rfl, .inr (by omega), Se, eN upd_same, (hc.same (G.ff.trans Ge.ff)).mono fun n z => z.elim, fun v F2 H2 G2' S2 ho => ?_⟩
    have G2 := G.inner' (Ge.trans G2') xp
    rw [hdue] at S2 ho
    generalize hdd : MM.due gnil ds c most = r at ho S2 fin
    obtain ⟨o, L1⟩ := r
    obtain ⟨dp2, hw2⟩ := S2.hw
    cases ho with
    | err h2 =>
      refine ⟨_, rfl, _, _, 0, _, rfl, rfl, SqT.of (G2.up h2), rfl, rfl, _, rfl, iteF ?_⟩
      exact ⟨_, rfl, _, rfl, _, rfl, wd, _, rfl, dgl hw2, _, _, rfl, rfl, _, rfl, wd, _, rfl, dgd hw2, sz3, fun t ht => fin _ _ L1 dp2 _ _ rfl G2 (.err h2) t ht⟩
    | steps h2 =>
      refine ⟨_, rfl, _, _, 0, _, rfl, rfl, SqT.of (G2.up h2), rfl, rfl, _, rfl, iteF ?_⟩
      exact ⟨_, rfl, _, rfl, _, rfl, wd, _, rfl, dgl hw2, _, _, rfl, rfl, _, rfl, wd, _, rfl, dgd hw2, sz3, fun t ht => fin _ _ L1 dp2 _ _ rfl G2 (.steps h2) t ht⟩
    | @val a u x h2 r =>
      refine ⟨_, rfl, _, _, 0, _, rfl, rfl, SqT.of (G2.up h2), rfl, rfl, _, rfl, iteT ?_⟩
      refine ⟨_, rfl, a, _, 1, _, rfl, rfl, SqT.of (G2.up h2), rfl, sz1, fun lft hlft => ?_⟩
      have nl := ne_of_none hw2 hlft
      have G3 := (Gr.refl (X := []) G2.fh).loc hlft (.lst [.int 300])
      refine ⟨u, 0, lft, x, 300, F2, rfl, by decide, G3.fh, G2.fh.free hlft, upd_same, r, fun v' F3 H3 G3' hl3 hsh => ⟨sz2, fun t1 h1 => ?_⟩⟩
      have G4 := (Gr.refl (X := []) G2.fh).loc hlft (.lst [.int 300]) |>.inner G3' hlft
      have G5 := G2.trans G4
      have hw5 : upd H3 t1 (.tup [.str "value", v']) wd = some (.dK (wl L1 tb dp2)) := by
        have z := G4.keep wd _ (fun z => nomatch z) hw2
        rw [upd_ne (ne_of_none z h1)]; exact z
      exact ⟨_, rfl, _, rfl, _, rfl, wd, _, rfl, dgl hw5, _, _, rfl, rfl, _, rfl, wd, _, rfl, dgd hw5, sz3, fun t ht => fin _ _ L1 dp2 _ _ rfl (G5.new h1 _) (.val upd_same (hsh.same (same_upd (G5.fh.free h1) _))) t ht⟩
end
end AF
/-! ## R11 -/
namespace AF
open PySem L2
/-- the same data, less deep than n -/
inductive SameD (F : Hp) : Nat → V → V → Prop where
  | int {n : Nat} {k : Int} : SameD F n (.int k) (.int k)
  | str {n : Nat} {x : Str} : SameD F n (.str x) (.str x)
  | tup {n : Nat} {a b : Addr} {us ws : List V} : F a = some (.tup us) → F b = some (.tup ws) → us.length = ws.length → us.length ≤ 1000 → (∀ (i : Nat) (u v : V), us[i]? = some u → ws[i]? = some v → SameD F n u v) → SameD F (n + 1) (.ref a) (.ref b)
theorem SameD.two {F : Hp} {n : Nat} {a b : Addr} {u1 u2 w1 w2 : V} (h1 : F a = some (.tup [u1, u2])) (h2 : F b = some (.tup [w1, w2])) (s1 : SameD F n u1 w1) (s2 : SameD F n u2 w2) : SameD F (n + 1) (.ref a) (.ref b) := by
  refine .tup h1 h2 rfl (by show 2 ≤ 1000; decide) fun i u v e1 e2 => ?_
  match i, e1, e2 with
  | 0, e1, e2 => cases e1; cases e2; exact s1
  | 1, e1, e2 => cases e1; cases e2; exact s2
  | i + 2, e1, e2 => simp at e1
theorem SameD.three {F : Hp} {n : Nat} {a b : Addr} {u1 u2 u3 w1 w2 w3 : V} (h1 : F a = some (.tup [u1, u2, u3])) (h2 : F b = some (.tup [w1, w2, w3])) (s1 : SameD F n u1 w1) (s2 : SameD F n u2 w2) (s3 : SameD F n u3 w3) : SameD F (n + 1) (.ref a) (.ref b) := by
  refine .tup h1 h2 rfl (by show 3 ≤ 1000; decide) fun i u v e1 e2 => ?_
  match i, e1, e2 with
  | 0, e1, e2 => cases e1; cases e2; exact s1
  | 1, e1, e2 => cases e1; cases e2; exact s2
  | 2, e1, e2 => cases e1; cases e2; exact s3
  | i + 3, e1, e2 => simp at e1
theorem SameD.one {F : Hp} {n : Nat} {a b : Addr} {u1 w1 : V} (h1 : F a = some (.tup [u1])) (h2 : F b = some (.tup [w1])) (s1 : SameD F n u1 w1) : SameD F (n + 1) (.ref a) (.ref b) := by
  refine .tup h1 h2 rfl (by show 1 ≤ 1000; decide) fun i u v e1 e2 => ?_
  match i, e1, e2 with
  | 0, e1, e2 => cases e1; cases e2; exact s1
  | i + 1, e1, e2 => simp at e1
theorem SameD.mono {F : Hp} {n : Nat} {u v : V} (h : SameD F n u v) : ∀ {m : Nat}, n ≤ m → SameD F m u v := by
  induction h with
  | int => exact fun _ => .int
  | str => exact fun _ => .str
  | @tup n a b us ws h1 h2 h3 h4 _ ih =>
    intro m hm
    obtain ⟨m, rfl⟩ : ∃ k, m = k + 1 := ⟨m - 1, by omega⟩
    exact .tup h1 h2 h3 h4 fun i u v e1 e2 => ih i u v e1 e2 (by omega)
def deep : MM.Sh → Nat
  | .pair a b => max (deep a) (deep b) + 1
  | _ => 0
theorem deep_show : ∀ (n : Nat) (x : MM.Val) (l : Nat), deep (MM.show_ n x l).1 ≤ n
  | n, .int k, l => by cases n <;> exact Nat.zero_le _
  | n, .prim p, l => by cases n <;> exact Nat.zero_le _
  | n, .fn _ _ _ _, l => by cases n <;> exact Nat.zero_le _
  | 0, .pair _ _, l => Nat.le_refl _
  | n + 1, .pair _ _, 0 => Nat.zero_le _
  | n + 1, .pair a b, l + 1 => by
    show max (deep (MM.show_ n a l).1) (deep (MM.show_ n b (MM.show_ n a l).2).1) + 1 ≤ n + 1
    have h1 := deep_show n a l
    have h2 := deep_show n b (MM.show_ n a l).2
    omega
theorem ShAt.sameD {F : Hp} {u v : V} {x : MM.Sh} (h1 : ShAt F u x) (h2 : ShAt F v x) : SameD F (deep x) u v := by
  induction h1 generalizing v with
  | int => cases h2; exact .int
  | fn => cases h2; exact .str
  | more => cases h2; exact .str
  | @pair a u1 u2 x y h _ _ i1 i2 =>
    cases h2 with
    | pair h' s1 s2 => exact .three h h' .str ((i1 s1).mono (Nat.le_max_left _ _)) ((i2 s2).mono (Nat.le_max_right _ _))
theorem ShO.sameD {F : Hp} {u v : V} {o : MM.Out} (h1 : ShO F u o) (h2 : ShO F v o) : SameD F 61 u v := by
  cases h1 with
  | val a s =>
    cases h2 with
    | val b t => exact .two a b .str ((s.sameD t).mono (deep_show 60 _ 300))
  | err a => cases h2 with | err b => exact (SameD.two (n := 0) a b .str .str).mono (by decide)
  | steps a => cases h2 with | steps b => exact (SameD.one (n := 0) a b .str).mono (by decide)
def spSame (n : Nat) : Sp := fun vs H Q _ => ∃ (u v : V) (F : Hp), vs = [u, v] ∧ Same F H ∧ SameD F n u v ∧ ∀ H', Gr [] F H F H' → Q (.bl true) H'
end AF
/-! ## C19 -/
namespace AF
open PySem L2
section
variable {P : Program} {w : World} {K : PySem.W.Frag} {mg : Str → Option Value} {base : Heap}
/-! ### _law_same -/
theorem kit_ib {K : PySem.W.Frag} : PySem.W.kitOne K (.type "int") (.type "bool") = some false := kit_ty (by decide +kernel)
theorem kit_il {K : PySem.W.Frag} : PySem.W.kitOne K (.type "int") (.type "list") = some false := kit_ty (by decide +kernel)
theorem kit_sl {K : PySem.W.Frag} : PySem.W.kitOne K (.type "str") (.type "list") = some false := kit_ty (by decide +kernel)
theorem kit_st {K : PySem.W.Frag} : PySem.W.kitOne K (.type "str") (.type "tuple") = some false := kit_ty (by decide +kernel)
theorem kit_si {K : PySem.W.Frag} : PySem.W.kitOne K (.type "str") (.type "int") = some false := kit_ty (by decide +kernel)
theorem kit_ss {K : PySem.W.Frag} : PySem.W.kitOne K (.type "str") (.type "str") = some true := kit_ty (by decide +kernel)
theorem kit_tl {K : PySem.W.Frag} : PySem.W.kitOne K (.type "tuple") (.type "list") = some false := kit_ty (by decide +kernel)
theorem any_i {K : PySem.W.Frag} : PySem.W.kitAny K (.type "int") [.type "list", .type "tuple"] = some false := kitAny_cons kit_il (fun _ => kitAny_cons kit_it (fun _ => kitAny_nil) fun z => nomatch z) fun z => nomatch z
theorem any_s {K : PySem.W.Frag} : PySem.W.kitAny K (.type "str") [.type "list", .type "tuple"] = some false := kitAny_cons kit_sl (fun _ => kitAny_cons kit_st (fun _ => kitAny_nil) fun z => nomatch z) fun z => nomatch z
theorem any_t {K : PySem.W.Frag} : PySem.W.kitAny K (.type "tuple") [.type "list", .type "tuple"] = some true := kitAny_cons kit_tl (fun _ => kitAny_cons kit_tt (fun z => nomatch z) fun _ => rfl) fun z => nomatch z
theorem ok_same1 {l n : Nat} (D_law_same : Df K mg "_law_same" s__law_same p__law_same) (T : Txt K mg) {sp : Sp} (G_law_same : FnOk P w K mg base CX0 l D_law_same.f D_law_same.fd p__law_same sp) (hG : ∀ m, n = m + 1 → ∀ vs H Q E, spSame m vs H Q E → sp vs H Q E) :
    FnOk P w K mg base CX0 (l + 1) D_law_same.f D_law_same.fd p__law_same (spSame n) := by
  refine D_law_same.F.ok sc__law_same (fun vs H Q E h => ?_) (fun cdv A outer s H vs Q E hr h => ?_)
  · obtain ⟨u, v, F, rfl, _⟩ := h
    rfl
  obtain ⟨u, v, F, rfl, fh, sd, k⟩ := h
  have nd := sc__law_same.nd
  refine ⟨_, (pss_cons (ps_if (PW.pt (pw_and (pt_val (pe_callB call_isiT (by rfl) T.isinstance (by decide +kernel) (pa_cons (pv 0) (pa_cons (pe_tup (pa_cons (pe_bltn (v := .ty "list") (u := .type "list") (by rfl) T.list (by decide +kernel) rfl) (pa_cons (pe_bltn (v := .ty "tuple") (u := .type "tuple") (by rfl) T.tuple (by decide +kernel) rfl) pa_nil))) pa_nil)))) (pw_and1 (pt_val (pe_callB call_isiT (by rfl) T.isinstance (by decide +kernel) (pa_cons (pv 1) (pa_cons (pe_tup (pa_cons (pe_bltn (v := .ty "list") (u := .type "list") (by rfl) T.list (by decide +kernel) rfl) (pa_cons (pe_bltn (v := .ty "tuple") (u := .type "tuple") (by rfl) T.tuple (by decide +kernel) rfl) pa_nil))) pa_nil))))))) (pss_cons (ps_if (PW.pt (pw_or (pt_cmpR op_ne (pe_callB call_isi (by rfl) T.isinstance (by decide +kernel) (pa_cons (pv 0) (pa_cons (pe_bltn (v := .ty "list") (u := .type "list") (by rfl) T.list (by decide +kernel) rfl) pa_nil))) (pe_callB call_isi (by rfl) T.isinstance (by decide +kernel) (pa_cons (pv 1) (pa_cons (pe_bltn (v := .ty "list") (u := .type "list") (by rfl) T.list (by decide +kernel) rfl) pa_nil))) (nomark _)) (pw_or1 (pt_cmpR op_ne (pe_callB call_len_seq (by rfl) T.len PySem.boot_len (pa_cons (pv 0) pa_nil)) (pe_callB call_len_seq (by rfl) T.len PySem.boot_len (pa_cons (pv 1) pa_nil)) (nomark _))))) (pss_one (ps_ret pe_bl)) pss_nil)
    (pss_one (ps_ret (pe_cmpR op_eq (pe_callB call_len_seq (by rfl) T.len PySem.boot_len (pa_cons (pe_lc (own := [("_law_k", 2)]) (g := gName 2) (tt := tNot (tB (tCall sp [] E0 (tCons (tOp (rIxT K) (tVar 0) (tVar 2)) (tCons (tOp (rIxT K) (tVar 1) (tVar 2)) tNil))))) (te := tVar 2) rfl nd (pi_range1 rfl T.range (pa_cons (pe_callB call_len_seq (by rfl) T.len PySem.boot_len (pa_cons (pv 0) pa_nil)) pa_nil)) (blkOk_by (own := [("_law_k", 2)]) (N := N__law_same) (sc := defScope s__law_same) (by decide +kernel)) (fun _ _ _ _ _ => (pg_name (i := 2) nd rfl (Or.inl rfl))) (fun _ _ _ _ _ => (pts_one (pt_not (pt_val (pe_call G_law_same (hr.mono (by omega)) rfl D_law_same.m D_law_same.F.kp D_law_same.b .nil pass0 (pa_cons (pe_ix ix_tup (pv 0) (pv 2) (fun _ _ => rfl)) (pa_cons (pe_ix ix_tup (pv 1) (pv 2) (fun _ _ => rfl)) pa_nil))))))) (fun _ _ _ _ _ => (pv 2))) pa_nil)) pe_int (nomark _))))) pss_nil)
    (pss_cons (ps_if (PW.pt (pw_and (pt_val (pe_callB call_isi (by rfl) T.isinstance (by decide +kernel) (pa_cons (pv 0) (pa_cons (pe_bltn (v := .ty "int") (u := .type "int") (by rfl) T.int (by decide +kernel) rfl) pa_nil)))) (pw_and1 (pt_val (pe_callB call_isi (by rfl) T.isinstance (by decide +kernel) (pa_cons (pv 1) (pa_cons (pe_bltn (v := .ty "int") (u := .type "int") (by rfl) T.int (by decide +kernel) rfl) pa_nil))))))) (pss_one (ps_ret (pe_and (pe_not (pe_callB call_isi (by rfl) T.isinstance (by decide +kernel) (pa_cons (pv 0) (pa_cons (pe_bltn (v := .ty "bool") (u := .type "bool") (by rfl) T.bool (by decide +kernel) rfl) pa_nil)))) (pe_and (pe_not (pe_callB call_isi (by rfl) T.isinstance (by decide +kernel) (pa_cons (pv 1) (pa_cons (pe_bltn (v := .ty "bool") (u := .type "bool") (by rfl) T.bool (by decide +kernel) rfl) pa_nil)))) (pe_one (pe_cmpR op_eq (pv 0) (pv 1) (nomark _))))))) pss_nil)
    (pss_one (ps_ret (pe_and (pe_callB call_isi (by rfl) T.isinstance (by decide +kernel) (pa_cons (pv 0) (pa_cons (pe_bltn (v := .ty "str") (u := .type "str") (by rfl) T.str (by decide +kernel) rfl) pa_nil))) (pe_and (pe_callB call_isi (by rfl) T.isinstance (by decide +kernel) (pa_cons (pv 1) (pa_cons (pe_bltn (v := .ty "str") (u := .type "str") (by rfl) T.str (by decide +kernel) rfl) pa_nil))) (pe_one (pe_cmpR op_eq (pv 0) (pv 1) (nomark _))))))))), ?_⟩
  have G0 : Gr [] F H F H := Gr.refl fh
  cases sd with
  | @int _ i =>
    refine ⟨_, rfl, sz2, fun tp htp => ⟨_, tp, _, _, _, _, rfl, upd_same, .cons (.ty _) (.cons (.ty _) .nil), .base (.int _), any_i, _, rfl, iteF (iteF ?_)⟩⟩
    have G1 := G0.loc htp (.tup [.ty "list", .ty "tuple"])
    refine ⟨_, rfl, _, _, _, _, _, rfl, .ty _, .base (.int _), kit_ii, _, rfl, iteT ⟨_, rfl, _, _, _, _, _, rfl, .ty _, .base (.int _), kit_ii, _, rfl, iteT ?_⟩⟩
    refine ⟨_, rfl, _, _, _, _, _, rfl, .ty _, .base (.int _), kit_ib, _, rfl, _, rfl, iteT ⟨_, rfl, _, _, _, _, _, rfl, .ty _, .base (.int _), kit_ib, _, rfl, _, rfl, iteT ⟨_, rfl, _, rfl, rfl, ?_⟩⟩⟩
    have e : decide (V.int i = V.int i) = true := decide_eq_true rfl
    show Q (V.bl (decide (V.int i = V.int i))) _
    rw [e]
    exact k _ G1
  | @str _ x =>
    refine ⟨_, rfl, sz2, fun tp htp => ⟨_, tp, _, _, _, _, rfl, upd_same, .cons (.ty _) (.cons (.ty _) .nil), .base (.str _), any_s, _, rfl, iteF (iteF ?_)⟩⟩
    have G1 := G0.loc htp (.tup [.ty "list", .ty "tuple"])
    refine ⟨_, rfl, _, _, _, _, _, rfl, .ty _, .base (.str _), kit_si, _, rfl, iteF (iteF ?_)⟩
    refine ⟨_, rfl, _, _, _, _, _, rfl, .ty _, .base (.str _), kit_ss, _, rfl, iteT ⟨_, rfl, _, _, _, _, _, rfl, .ty _, .base (.str _), kit_ss, _, rfl, iteT ⟨_, rfl, _, rfl, rfl, ?_⟩⟩⟩
    have e : decide (V.str x = V.str x) = true := decide_eq_true rfl
    show Q (V.bl (decide (V.str x = V.str x))) _
    rw [e]
    exact k _ G1
  | @tup n a b us ws h1 h2 ll l1 hs =>
    refine ⟨_, rfl, sz2, fun tp htp => ⟨_, tp, _, _, _, _, rfl, upd_same, .cons (.ty _) (.cons (.ty _) .nil), .base (.tup (((G0.loc htp _)).up h1)), any_t, _, rfl, iteT ?_⟩⟩
    have G1 := G0.loc htp (.tup [.ty "list", .ty "tuple"])
    refine ⟨_, rfl, sz2, fun tq htq => ⟨_, tq, _, _, _, _, rfl, upd_same, .cons (.ty _) (.cons (.ty _) .nil), .base (.tup ((G1.loc htq _).up h2)), any_t, _, rfl, iteT ?_⟩⟩
    have G2 := G1.loc htq (.tup [.ty "list", .ty "tuple"])
    refine ⟨_, rfl, _, _, _, _, _, rfl, .ty _, .base (.tup (G2.up h1)), kit_tl, _, rfl, _, _, _, _, _, rfl, .ty _, .base (.tup (G2.up h2)), kit_tl, rfl, _, rfl, iteF ?_⟩
    refine ⟨_, rfl, a, _, rfl, .inr (SqT.of (G2.up h1)), _, rfl, b, _, rfl, .inr (SqT.of (G2.up h2)), rfl, _, rfl, ?_⟩
    have e : (!decide (V.int ((us.length : Nat) : Int) = V.int ((ws.length : Nat) : Int))) = false := by rw [ll]; simp
    refine ite2 (fun cc => absurd (cc.symm.trans e) (by decide)) (fun _ => ?_)
    refine ⟨_, rfl, a, _, rfl, .inr (SqT.of (G2.up h1)), ((us.length : Nat) : Int), rfl, by omega, by omega, fun D hD => ?_⟩
    have Df : F D = none := G2.fh.free hD
    refine lc_range (lo := 0) (n := ((us.length : Nat) : Int).toNat) (fun i H' => H' D = some (.lst []) ∧ Gr [] F H F H') ⟨upd_same, G2.loc hD _⟩ ?_ ?_
    · rintro i H' hi ⟨eD, G'⟩
      have hi1 : i < us.length := by omega
      have hi2 : i < ws.length := by omega
      refine ⟨rfl, _, rfl, _, rfl, a, _, _, us[i], rfl, rfl, SqT.of (G'.up h1), at_of (j := i) (by omega) (List.getElem?_eq_getElem hi1), _, rfl, _, rfl, b, _, _, ws[i], rfl, rfl, SqT.of (G'.up h2), at_of (j := i) (by omega) (List.getElem?_eq_getElem hi2), ?_⟩
      refine hG n rfl _ _ _ _ ⟨us[i], ws[i], F, rfl, G'.fh, hs i _ _ (List.getElem?_eq_getElem hi1) (List.getElem?_eq_getElem hi2), fun H3 G3 => ⟨_, rfl, iteF ?_⟩⟩
      exact ⟨G3.keep D _ (fun z => nomatch z) eD, G'.trans G3⟩
    · rintro H' ⟨eD, G'⟩
      refine ⟨D, _, rfl, .inl (SqL.of eD), rfl, ?_⟩
      have e2 : decide (V.int ((([] : List V).length : Nat) : Int) = V.int 0) = true := decide_eq_true rfl
      show Q (V.bl (decide (V.int ((([] : List V).length : Nat) : Int) = V.int 0))) _
      rw [e2]
      exact k _ G'
end
end AF
/-! ## C20 -/
namespace AF
open PySem L2
section
variable {P : Program} {w : World} {K : PySem.W.Frag} {mg : Str → Option Value} {base : Heap}
theorem ok_sames (D_law_same : Df K mg "_law_same" s__law_same p__law_same) (T : Txt K mg) : ∀ n : Nat, FnOk P w K mg base CX0 (n + 1) D_law_same.f D_law_same.fd p__law_same (spSame n)
  | 0 => ok_same1 D_law_same T (ok_nope (k := 0)) fun m z => by omega
  | n + 1 => ok_same1 D_law_same T (ok_sames D_law_same T n) fun m z vs H Q E q => by
    obtain rfl : n = m := by omega
    exact q
/-! ### law -/
def spLaw (K : PySem.W.Frag) : Sp := fun vs H Q _ => ∃ (a : Addr) (ns : List Int), vs = [.ref a] ∧ SqL K H a (ns.map V.int) ∧ ∀ H', Q (.bl true) H'
theorem ok_law (D : Df K mg "law" s_law p_law) (T : Txt K mg) (D_law_state : Df K mg "_law_state" s__law_state p__law_state) (D_law_program : Df K mg "_law_program" s__law_program p__law_program) (G_law_program : FnOk P w K mg base CX0 33 D_law_program.f D_law_program.fd p__law_program spProgram)
    (D_law_due : Df K mg "_law_due" s__law_due p__law_due) (G_law_due : FnOk P w K mg base CX0 104 D_law_due.f D_law_due.fd p__law_due spDue) (D_run_plain : Df K mg "run_plain" s_run_plain p_run_plain) (G_run_plain : FnOk P w K mg base CX0 63 D_run_plain.f D_run_plain.fd p_run_plain spRunPlain)
    (D_law_same : Df K mg "_law_same" s__law_same p__law_same) : FnOk P w K mg base CX0 105 D.f D.fd p_law (spLaw K) := by
  have G_law_state := ok_state (P := P) (w := w) (base := base) D_law_state T
  have G_law_same := ok_sames (P := P) (w := w) (base := base) D_law_same T 62
  refine D.F.ok sc_law (fun vs H Q E h => ?_) (fun cdv A outer s H vs Q E hr h => ?_)
  · obtain ⟨a, ns, rfl, _⟩ := h
    rfl
  obtain ⟨a, ns, rfl, hS, k⟩ := h
  have nd := sc_law.nd
  refine ⟨_, (pss_cons (ps_set (i := 1) nd rfl (Or.inl rfl) (pe_call G_law_state (hr.mono (by omega)) rfl D_law_state.m D_law_state.F.kp D_law_state.b .nil pass0 (pa_cons (pv 0) pa_nil)))
    (pss_cons (ps_asg (pe_call G_law_program (hr.mono (by omega)) rfl D_law_program.m D_law_program.F.kp D_law_program.b .nil pass0 (pa_cons (pv 1) pa_nil)) (pg_tup rfl (pgs_cons (pg_name (i := 2) nd rfl (Or.inl rfl)) (pgs_cons (pg_name (i := 3) nd rfl (Or.inl rfl)) pgs_nil))))
    (pss_cons (ps_asg (pe_call G_law_due (hr.mono (by omega)) rfl D_law_due.m D_law_due.F.kp D_law_due.b .nil pass0 (pa_cons (pv 2) (pa_cons (pv 3) (pa_cons pe_int pa_nil)))) (pg_tup rfl (pgs_cons (pg_name (i := 4) nd rfl (Or.inl rfl)) (pgs_cons (pg_name (i := 5) nd rfl (Or.inl rfl)) (pgs_cons (pg_name (i := 6) nd rfl (Or.inl rfl)) pgs_nil)))))
    (pss_cons (ps_set (i := 7) nd rfl (Or.inl rfl) (pe_callTy call_list_of (by rfl) T.list (by decide +kernel) (pa_cons (pv 2) pa_nil)))
    (pss_cons (ps_if (PW.pt (pw_or (pt_not (pt_val (pe_call G_law_same (hr.mono (by omega)) rfl D_law_same.m D_law_same.F.kp D_law_same.b .nil pass0 (pa_cons (pe_call G_run_plain (hr.mono (by omega)) rfl D_run_plain.m D_run_plain.F.kp D_run_plain.b .nil pass0 (pa_cons (pv 7) (pa_cons (pv 3) (pa_cons pe_int pa_nil)))) (pa_cons (pe_tup (pa_cons (pv 4) (pa_cons (pv 5) pa_nil))) pa_nil))))) (pw_or1 (pt_cmpR (op_neSame hr.units0) (pv 7) (pv 2) (nomark _))))) (pss_one (ps_ret pe_bl)) pss_nil)
    (pss_cons (ps_if (pt_cmpR (op_eqS hr.units0) (pv 4) (pe_tup (pa_cons pe_str pa_nil)) (nomark _)) (pss_one (ps_ret (pe_and (pe_cmpR op_eq (pv 5) pe_int (nomark _)) (pe_one (pe_call G_law_same (hr.mono (by omega)) rfl D_law_same.m D_law_same.F.kp D_law_same.b .nil pass0 (pa_cons (pe_call G_run_plain (hr.mono (by omega)) rfl D_run_plain.m D_run_plain.F.kp D_run_plain.b .nil pass0 (pa_cons (pv 2) (pa_cons (pv 3) (pa_cons pe_int pa_nil)))) (pa_cons (pe_tup (pa_cons (pe_tup (pa_cons pe_str pa_nil)) (pa_cons pe_int pa_nil))) pa_nil))))))) pss_nil)
    (pss_cons (ps_if (pt_not (pt_val (pe_call G_law_same (hr.mono (by omega)) rfl D_law_same.m D_law_same.F.kp D_law_same.b .nil pass0 (pa_cons (pe_call G_run_plain (hr.mono (by omega)) rfl D_run_plain.m D_run_plain.F.kp D_run_plain.b .nil pass0 (pa_cons (pv 2) (pa_cons (pv 3) (pa_cons (pv 5) pa_nil)))) (pa_cons (pe_tup (pa_cons (pv 4) (pa_cons (pv 5) pa_nil))) pa_nil))))) (pss_one (ps_ret pe_bl)) pss_nil)
    (pss_one (ps_ret (pe_call G_law_same (hr.mono (by omega)) rfl D_law_same.m D_law_same.F.kp D_law_same.b .nil pass0 (pa_cons (pe_call G_run_plain (hr.mono (by omega)) rfl D_run_plain.m D_run_plain.F.kp D_run_plain.b .nil pass0 (pa_cons (pv 2) (pa_cons (pv 3) (pa_cons (pe_op op_sub (pv 5) pe_int) pa_nil)))) (pa_cons (pe_tup (pa_cons (pe_tup (pa_cons pe_str pa_nil)) (pa_cons (pe_op op_sub (pv 5) pe_int) pa_nil))) pa_nil)))))))))))), ?_⟩
  refine ⟨_, rfl, a, ns, rfl, hS, fun p q H1 D1 => ?_⟩
  refine ⟨_, rfl, p, q, _, rfl, D1, fun t dl v ds c F H2 s2 hds lds hc ht => ?_⟩
  refine ⟨t, _, rfl, SqT.of (s2 _ _ ht), rfl, _, _, rfl, _, _, rfl, rfl, ?_⟩
  refine ⟨_, rfl, _, rfl, dl, v, 150, ds, c, F, rfl, s2, hds, lds, hc, by decide, fun t1 ov dp F1 H3 G1 ht1 ho => ?_⟩
  refine ⟨t1, _, rfl, SqT.of (G1.up ht1), rfl, _, _, rfl, _, _, rfl, _, _, rfl, rfl, ?_⟩
  obtain ⟨ts, hdl, lts, hts⟩ := hds
  refine ⟨_, rfl, dl, _, rfl, .inl (SqL.of (G1.up (G1.mem hdl))), fun l hl => ?_⟩
  have G2 := G1.new hl (.lst (ts.map V.ref))
  have hdl2 : DefsAt (upd F1 l (.lst (ts.map V.ref))) l ds := ⟨ts, upd_same, lts, fun j t d e1 e2 => let ⟨v', q1, q2⟩ := hts j t d e1 e2; ⟨v', G2.mem q1, q2.same G2.ff⟩⟩
  have hl2 : upd H3 l (.lst (ts.map V.ref)) l = some (.lst (ts.map V.ref)) := upd_same
  have ho2 := ho.same (same_upd (G1.fh.free hl) (.lst (ts.map V.ref)))
  have fl2 : upd F1 l (.lst (ts.map V.ref)) l = some (.lst (ts.map V.ref)) := upd_same
  generalize upd F1 l (.lst (ts.map V.ref)) = F2 at G2 hdl2 ho2 fl2
  generalize upd H3 l (.lst (ts.map V.ref)) = H4 at G2 hl2
  have hds0 : DefsAt F dl ds := ⟨ts, hdl, lts, hts⟩
  have st : ∀ (F' : Hp) (x : Addr) (n : Int), F' x = some (.tup [V.str "steps"]) → ShO F' (.ref x) .steps := fun F' x n h => .steps h
  -- the first run
  refine ⟨_, rfl, _, rfl, l, v, 150, ds, c, F2, rfl, G2.fh, hdl2, lds, hc.same G2.ff, by decide, fun t2 ov2 F3 H5 G3 ht2 ho3 => ?_⟩
  refine ⟨_, rfl, _, rfl, sz2, fun t3 ht3 => ?_⟩
  have G4 := G3.new ht3 (.tup [ov, .int ((150 - (MM.due gnil ds c 150).2 : Nat) : Int)])
  have s34 := same_upd (G3.fh.free ht3) (.tup [ov, .int ((150 - (MM.due gnil ds c 150).2 : Nat) : Int)])
  refine ⟨.ref t2, .ref t3, _, rfl, G4.fh, .two (s34 _ _ ht2) upd_same ((ho3.same s34).sameD (ho2.same G4.ff)) .int, fun H6 G5 => ⟨_, rfl, ?_⟩⟩
  have G6 := G2.trans (G4.trans G5)
  have hl6 := (G4.trans G5).keep l _ (fun z => nomatch z) hl2
  have ho6 := ho2.same G4.ff
  generalize upd F3 t3 (.tup [ov, .int ((150 - (MM.due gnil ds c 150).2 : Nat) : Int)]) = F6 at G6 ho6
  refine iteF ⟨_, rfl, _, rfl, l, dl, ts, rfl, rfl, hl6, G6.up (G6.mem hdl), _, rfl, iteF ?_⟩
  generalize hdd : MM.due gnil ds c 150 = r at ho6
  obtain ⟨o, L1⟩ := r
  rcases MM.due_law hdd with ⟨rfl, rfl⟩ | ⟨no, lt, d1, d2⟩
  · cases ho6 with
    | @steps a0 h6 =>
      refine ⟨_, rfl, sz1, fun t5 ht5 => ?_⟩
      have G7 := G6.new ht5 (.tup [.str "steps"])
      have h7 := (same_upd (G6.fh.free ht5) (.tup [.str "steps"])) _ _ h6
      refine ⟨a0, t5, "steps", "steps", [], rfl, rfl, G7.up h7, upd_same, .inl ⟨rfl, rfl, _, rfl, iteT ?_⟩⟩
      refine ⟨_, rfl, rfl, _, rfl, ite2 (fun _ => ?_) (fun cc => absurd (decide_eq_true rfl) cc)⟩
      refine ⟨_, rfl, _, rfl, dl, v, 0, ds, c, _, rfl, G7.fh, hds0.same G7.ff, lds, hc.same G7.ff, by decide, fun t7 ov7 F8 H8 G8 ht7 ho7 => ?_⟩
      rw [MM.due_zero] at ht7 ho7
      refine ⟨sz1, fun t8 ht8 => ⟨sz2, fun t9 ht9 => ?_⟩⟩
      have G9 := (G8.new ht8 (.tup [.str "steps"])).new ht9 (.tup [.ref t8, .int 0])
      have n89 : t8 ≠ t9 := (upd_none ht9).2.symm
      have sm : Same F8 (upd (upd F8 t8 (.tup [.str "steps"])) t9 (.tup [.ref t8, .int 0])) := (same_upd (G8.fh.free ht8) _).trans (same_upd ((G8.new ht8 (.tup [.str "steps"])).fh.free ht9) _)
      refine ⟨.ref t7, .ref t9, _, rfl, G9.fh, .two (sm _ _ ht7) upd_same ((ho7.same sm).sameD (.steps (by rw [upd_ne n89, upd_same]))) .int, fun H10 G10 => k H10⟩
  · obtain ⟨a0, s0, r0, rfl, h6, ne⟩ : ∃ a0 s0 r0, ov = .ref a0 ∧ F6 a0 = some (.tup (.str s0 :: r0)) ∧ ¬ s0 = ("steps" : Str) := by
      cases ho6 with
      | val h _ => exact ⟨_, _, _, rfl, h, by decide +kernel⟩
      | err h => exact ⟨_, _, _, rfl, h, by decide +kernel⟩
      | steps _ => exact absurd rfl no
    refine ⟨_, rfl, sz1, fun t5 ht5 => ?_⟩
    have G7 := G6.new ht5 (.tup [.str "steps"])
    have s67 := same_upd (G6.fh.free ht5) (.tup [.str "steps"])
    refine ⟨a0, t5, s0, "steps", r0, rfl, rfl, G7.up (s67 _ _ h6), upd_same, .inr ⟨ne, _, rfl, iteF ?_⟩⟩
    have ho7 := ho6.same s67
    generalize upd F6 t5 (.tup [V.str "steps"]) = F7 at G7 ho7
    -- as many steps as it took
    refine ⟨_, rfl, _, rfl, _, rfl, dl, v, 150 - L1, ds, c, F7, rfl, G7.fh, hds0.same G7.ff, lds, hc.same G7.ff, by omega, fun t7 ov7 F8 H8 G8 ht7 ho8 => ?_⟩
    rw [d1] at ht7 ho8
    refine ⟨_, rfl, _, rfl, sz2, fun t9 ht9 => ?_⟩
    have s89 := same_upd (G8.fh.free ht9) (.tup [.ref a0, .int ((150 - L1 : Nat) : Int)])
    have G9 := G8.new ht9 (.tup [.ref a0, .int ((150 - L1 : Nat) : Int)])
    refine ⟨.ref t7, .ref t9, _, rfl, G9.fh, .two (s89 _ _ ht7) upd_same ((ho8.same s89).sameD (ho7.same G9.ff)) .int, fun H10 G10 => ⟨_, rfl, iteF ?_⟩⟩
    have G11 := G7.trans (G9.trans G10)
    have e1 : (((150 - L1 : Nat) : Int) - 1) = ((150 - L1 - 1 : Nat) : Int) := by omega
    -- one step less
    refine ⟨_, rfl, _, rfl, _, rfl, _, _, rfl, rfl, dl, v, 150 - L1 - 1, ds, c, _, by rw [← e1] <;> rfl, G11.fh, hds0.same G11.ff, lds, hc.same G11.ff, by omega, fun t12 ov12 F12 H12 G12 ht12 ho12 => ?_⟩
    rw [d2] at ht12 ho12
    refine ⟨sz1, fun t13 ht13 => ⟨_, rfl, _, _, rfl, rfl, sz2, fun t14 ht14 => ?_⟩⟩
    have n14 : t13 ≠ t14 := (upd_none ht14).2.symm
    have G14 := (G12.new ht13 (.tup [.str "steps"])).new ht14 (.tup [.ref t13, .int (((150 - L1 : Nat) : Int) - 1)])
    have sm : Same F12 (upd (upd F12 t13 (.tup [.str "steps"])) t14 (.tup [.ref t13, .int (((150 - L1 : Nat) : Int) - 1)])) := (same_upd (G12.fh.free ht13) _).trans (same_upd ((G12.new ht13 (.tup [.str "steps"])).fh.free ht14) _)
    refine ⟨.ref t12, .ref t14, _, rfl, G14.fh, .two (sm _ _ ht12) upd_same ((ho12.same sm).sameD (.steps (by rw [upd_ne n14, upd_same]))) (by rw [e1]; exact .int), fun H15 G15 => k H15⟩
end
end AF
/-! ## FINB -/
namespace AF
open PySem L2
/-! ### what the top has written -/
theorem all_mk {l : PySem.W.OpenLaw} {w : World} {K : PySem.W.Frag} {h : Heap} {mg : Str → Option Value} {fa : Addr} (X : K.In h) (G : h.Ns mainGlobals mg) (hfa : mg "law" = some (.ref fa))
    {f1 : Addr} {od1 an1 : Option Addr} {sl1 : Array (Option Value)} {oc1 kV1 dc1 pm1 cd1 ct1 : Value}
    {f2 : Addr} {od2 an2 : Option Addr} {sl2 : Array (Option Value)} {oc2 kV2 dc2 pm2 cd2 ct2 : Value}
    {f3 : Addr} {od3 an3 : Option Addr} {sl3 : Array (Option Value)} {oc3 kV3 dc3 pm3 cd3 ct3 : Value}
    {f4 : Addr} {od4 an4 : Option Addr} {sl4 : Array (Option Value)} {oc4 kV4 dc4 pm4 cd4 ct4 : Value}
    {f5 : Addr} {od5 an5 : Option Addr} {sl5 : Array (Option Value)} {oc5 kV5 dc5 pm5 cd5 ct5 : Value}
    {f6 : Addr} {od6 an6 : Option Addr} {sl6 : Array (Option Value)} {oc6 kV6 dc6 pm6 cd6 ct6 : Value}
    {f7 : Addr} {od7 an7 : Option Addr} {sl7 : Array (Option Value)} {oc7 kV7 dc7 pm7 cd7 ct7 : Value}
    {f8 : Addr} {od8 an8 : Option Addr} {sl8 : Array (Option Value)} {oc8 kV8 dc8 pm8 cd8 ct8 : Value}
    {f9 : Addr} {od9 an9 : Option Addr} {sl9 : Array (Option Value)} {oc9 kV9 dc9 pm9 cd9 ct9 : Value}
    {f10 : Addr} {od10 an10 : Option Addr} {sl10 : Array (Option Value)} {oc10 kV10 dc10 pm10 cd10 ct10 : Value}
    {f11 : Addr} {od11 an11 : Option Addr} {sl11 : Array (Option Value)} {oc11 kV11 dc11 pm11 cd11 ct11 : Value}
    {f12 : Addr} {od12 an12 : Option Addr} {sl12 : Array (Option Value)} {oc12 kV12 dc12 pm12 cd12 ct12 : Value}
    {f13 : Addr} {od13 an13 : Option Addr} {sl13 : Array (Option Value)} {oc13 kV13 dc13 pm13 cd13 ct13 : Value}
    {f14 : Addr} {od14 an14 : Option Addr} {sl14 : Array (Option Value)} {oc14 kV14 dc14 pm14 cd14 ct14 : Value}
    {f15 : Addr} {od15 an15 : Option Addr} {sl15 : Array (Option Value)} {oc15 kV15 dc15 pm15 cd15 ct15 : Value}
    {f16 : Addr} {od16 an16 : Option Addr} {sl16 : Array (Option Value)} {oc16 kV16 dc16 pm16 cd16 ct16 : Value}
    {f17 : Addr} {od17 an17 : Option Addr} {sl17 : Array (Option Value)} {oc17 kV17 dc17 pm17 cd17 ct17 : Value}
    {f18 : Addr} {od18 an18 : Option Addr} {sl18 : Array (Option Value)} {oc18 kV18 dc18 pm18 cd18 ct18 : Value}
    {f19 : Addr} {od19 an19 : Option Addr} {sl19 : Array (Option Value)} {oc19 kV19 dc19 pm19 cd19 ct19 : Value}
    {f20 : Addr} {od20 an20 : Option Addr} {sl20 : Array (Option Value)} {oc20 kV20 dc20 pm20 cd20 ct20 : Value}
    {f21 : Addr} {od21 an21 : Option Addr} {sl21 : Array (Option Value)} {oc21 kV21 dc21 pm21 cd21 ct21 : Value}
    {f22 : Addr} {od22 an22 : Option Addr} {sl22 : Array (Option Value)} {oc22 kV22 dc22 pm22 cd22 ct22 : Value}
    {f23 : Addr} {od23 an23 : Option Addr} {sl23 : Array (Option Value)} {oc23 kV23 dc23 pm23 cd23 ct23 : Value}
    {f24 : Addr} {od24 an24 : Option Addr} {sl24 : Array (Option Value)} {oc24 kV24 dc24 pm24 cd24 ct24 : Value}
    {f25 : Addr} {od25 an25 : Option Addr} {sl25 : Array (Option Value)} {oc25 kV25 dc25 pm25 cd25 ct25 : Value}
    {f26 : Addr} {od26 an26 : Option Addr} {sl26 : Array (Option Value)} {oc26 kV26 dc26 pm26 cd26 ct26 : Value}
    {f27 : Addr} {od27 an27 : Option Addr} {sl27 : Array (Option Value)} {oc27 kV27 dc27 pm27 cd27 ct27 : Value}
    {f28 : Addr} {od28 an28 : Option Addr} {sl28 : Array (Option Value)} {oc28 kV28 dc28 pm28 cd28 ct28 : Value}
    {f29 : Addr} {od29 an29 : Option Addr} {sl29 : Array (Option Value)} {oc29 kV29 dc29 pm29 cd29 ct29 : Value}
    {f30 : Addr} {od30 an30 : Option Addr} {sl30 : Array (Option Value)} {oc30 kV30 dc30 pm30 cd30 ct30 : Value}
    {f31 : Addr} {od31 an31 : Option Addr} {sl31 : Array (Option Value)} {oc31 kV31 dc31 pm31 cd31 ct31 : Value}
    {f32 : Addr} {od32 an32 : Option Addr} {sl32 : Array (Option Value)} {oc32 kV32 dc32 pm32 cd32 ct32 : Value}
    {f33 : Addr} {od33 an33 : Option Addr} {sl33 : Array (Option Value)} {oc33 kV33 dc33 pm33 cd33 ct33 : Value}
    {cP cC cL aR : Addr} {tS tP : Tok} {es : Array DictEntry} {nn : Nat}
    {t_add t_sub t_mul t_lt t_eq t_pair t_first t_second : Tok}
    (a1 : PySem.W.nsIn K mainGlobals "show_within" = some (some (.ref f1))) (l1 : K.lookup f1 = some ⟨oc1, od1, .func (PySem.W.fnOf "show_within" "show_within" (defArgs s_show_within) (defBody s_show_within) (defScope s_show_within) .none kV1 dc1 pm1 an1 cd1 ct1), sl1⟩) (c1 : PySem.W.codeIn K cd1 "show_within" = true) (k1 : PySem.W.keepIn K (.ref f1) = true)
    (a2 : PySem.W.nsIn K mainGlobals "show" = some (some (.ref f2))) (l2 : K.lookup f2 = some ⟨oc2, od2, .func (PySem.W.fnOf "show" "show" (defArgs s_show) (defBody s_show) (defScope s_show) .none kV2 dc2 pm2 an2 cd2 ct2), sl2⟩) (c2 : PySem.W.codeIn K cd2 "show" = true) (k2 : PySem.W.keepIn K (.ref f2) = true)
    (a3 : PySem.W.nsIn K mainGlobals "computed" = some (some (.ref f3))) (l3 : K.lookup f3 = some ⟨oc3, od3, .func (PySem.W.fnOf "computed" "computed" (defArgs s_computed) (defBody s_computed) (defScope s_computed) .none kV3 dc3 pm3 an3 cd3 ct3), sl3⟩) (c3 : PySem.W.codeIn K cd3 "computed" = true) (k3 : PySem.W.keepIn K (.ref f3) = true)
    (a4 : PySem.W.nsIn K mainGlobals "apply_prim" = some (some (.ref f4))) (l4 : K.lookup f4 = some ⟨oc4, od4, .func (PySem.W.fnOf "apply_prim" "apply_prim" (defArgs s_apply_prim) (defBody s_apply_prim) (defScope s_apply_prim) .none kV4 dc4 pm4 an4 cd4 ct4), sl4⟩) (c4 : PySem.W.codeIn K cd4 "apply_prim" = true) (k4 : PySem.W.keepIn K (.ref f4) = true)
    (a5 : PySem.W.nsIn K mainGlobals "value_of" = some (some (.ref f5))) (l5 : K.lookup f5 = some ⟨oc5, od5, .func (PySem.W.fnOf "value_of" "value_of" (defArgs s_value_of) (defBody s_value_of) (defScope s_value_of) .none kV5 dc5 pm5 an5 cd5 ct5), sl5⟩) (c5 : PySem.W.codeIn K cd5 "value_of" = true) (k5 : PySem.W.keepIn K (.ref f5) = true)
    (a6 : PySem.W.nsIn K mainGlobals "run_plain" = some (some (.ref f6))) (l6 : K.lookup f6 = some ⟨oc6, od6, .func (PySem.W.fnOf "run_plain" "run_plain" (defArgs s_run_plain) (defBody s_run_plain) (defScope s_run_plain) .none kV6 dc6 pm6 an6 cd6 ct6), sl6⟩) (c6 : PySem.W.codeIn K cd6 "run_plain" = true) (k6 : PySem.W.keepIn K (.ref f6) = true)
    (a7 : PySem.W.nsIn K mainGlobals "_law_mixed" = some (some (.ref f7))) (l7 : K.lookup f7 = some ⟨oc7, od7, .func (PySem.W.fnOf "_law_mixed" "_law_mixed" (defArgs s__law_mixed) (defBody s__law_mixed) (defScope s__law_mixed) .none kV7 dc7 pm7 an7 cd7 ct7), sl7⟩) (c7 : PySem.W.codeIn K cd7 "_law_mixed" = true) (k7 : PySem.W.keepIn K (.ref f7) = true)
    (a8 : PySem.W.nsIn K mainGlobals "_law_take" = some (some (.ref f8))) (l8 : K.lookup f8 = some ⟨oc8, od8, .func (PySem.W.fnOf "_law_take" "_law_take" (defArgs s__law_take) (defBody s__law_take) (defScope s__law_take) .none kV8 dc8 pm8 an8 cd8 ct8), sl8⟩) (c8 : PySem.W.codeIn K cd8 "_law_take" = true) (k8 : PySem.W.keepIn K (.ref f8) = true)
    (a9 : PySem.W.nsIn K mainGlobals "_law_state" = some (some (.ref f9))) (l9 : K.lookup f9 = some ⟨oc9, od9, .func (PySem.W.fnOf "_law_state" "_law_state" (defArgs s__law_state) (defBody s__law_state) (defScope s__law_state) .none kV9 dc9 pm9 an9 cd9 ct9), sl9⟩) (c9 : PySem.W.codeIn K cd9 "_law_state" = true) (k9 : PySem.W.keepIn K (.ref f9) = true)
    (a10 : PySem.W.nsIn K mainGlobals "_law_same" = some (some (.ref f10))) (l10 : K.lookup f10 = some ⟨oc10, od10, .func (PySem.W.fnOf "_law_same" "_law_same" (defArgs s__law_same) (defBody s__law_same) (defScope s__law_same) .none kV10 dc10 pm10 an10 cd10 ct10), sl10⟩) (c10 : PySem.W.codeIn K cd10 "_law_same" = true) (k10 : PySem.W.keepIn K (.ref f10) = true)
    (a11 : PySem.W.nsIn K mainGlobals "_law_locals" = some (some (.ref f11))) (l11 : K.lookup f11 = some ⟨oc11, od11, .func (PySem.W.fnOf "_law_locals" "_law_locals" (defArgs s__law_locals) (defBody s__law_locals) (defScope s__law_locals) .none kV11 dc11 pm11 an11 cd11 ct11), sl11⟩) (c11 : PySem.W.codeIn K cd11 "_law_locals" = true) (k11 : PySem.W.keepIn K (.ref f11) = true)
    (a12 : PySem.W.nsIn K mainGlobals "_law_numbers" = some (some (.ref f12))) (l12 : K.lookup f12 = some ⟨oc12, od12, .func (PySem.W.fnOf "_law_numbers" "_law_numbers" (defArgs s__law_numbers) (defBody s__law_numbers) (defScope s__law_numbers) .none kV12 dc12 pm12 an12 cd12 ct12), sl12⟩) (c12 : PySem.W.codeIn K cd12 "_law_numbers" = true) (k12 : PySem.W.keepIn K (.ref f12) = true)
    (a13 : PySem.W.nsIn K mainGlobals "_law_small" = some (some (.ref f13))) (l13 : K.lookup f13 = some ⟨oc13, od13, .func (PySem.W.fnOf "_law_small" "_law_small" (defArgs s__law_small) (defBody s__law_small) (defScope s__law_small) .none kV13 dc13 pm13 an13 cd13 ct13), sl13⟩) (c13 : PySem.W.codeIn K cd13 "_law_small" = true) (k13 : PySem.W.keepIn K (.ref f13) = true)
    (a14 : PySem.W.nsIn K mainGlobals "_law_function" = some (some (.ref f14))) (l14 : K.lookup f14 = some ⟨oc14, od14, .func (PySem.W.fnOf "_law_function" "_law_function" (defArgs s__law_function) (defBody s__law_function) (defScope s__law_function) .none kV14 dc14 pm14 an14 cd14 ct14), sl14⟩) (c14 : PySem.W.codeIn K cd14 "_law_function" = true) (k14 : PySem.W.keepIn K (.ref f14) = true)
    (a15 : PySem.W.nsIn K mainGlobals "_law_strange" = some (some (.ref f15))) (l15 : K.lookup f15 = some ⟨oc15, od15, .func (PySem.W.fnOf "_law_strange" "_law_strange" (defArgs s__law_strange) (defBody s__law_strange) (defScope s__law_strange) .none kV15 dc15 pm15 an15 cd15 ct15), sl15⟩) (c15 : PySem.W.codeIn K cd15 "_law_strange" = true) (k15 : PySem.W.keepIn K (.ref f15) = true)
    (a16 : PySem.W.nsIn K mainGlobals "_law_let" = some (some (.ref f16))) (l16 : K.lookup f16 = some ⟨oc16, od16, .func (PySem.W.fnOf "_law_let" "_law_let" (defArgs s__law_let) (defBody s__law_let) (defScope s__law_let) .none kV16 dc16 pm16 an16 cd16 ct16), sl16⟩) (c16 : PySem.W.codeIn K cd16 "_law_let" = true) (k16 : PySem.W.keepIn K (.ref f16) = true)
    (a17 : PySem.W.nsIn K mainGlobals "_law_part" = some (some (.ref f17))) (l17 : K.lookup f17 = some ⟨oc17, od17, .func (PySem.W.fnOf "_law_part" "_law_part" (defArgs s__law_part) (defBody s__law_part) (defScope s__law_part) .none kV17 dc17 pm17 an17 cd17 ct17), sl17⟩) (c17 : PySem.W.codeIn K cd17 "_law_part" = true) (k17 : PySem.W.keepIn K (.ref f17) = true)
    (a18 : PySem.W.nsIn K mainGlobals "_law_program" = some (some (.ref f18))) (l18 : K.lookup f18 = some ⟨oc18, od18, .func (PySem.W.fnOf "_law_program" "_law_program" (defArgs s__law_program) (defBody s__law_program) (defScope s__law_program) .none kV18 dc18 pm18 an18 cd18 ct18), sl18⟩) (c18 : PySem.W.codeIn K cd18 "_law_program" = true) (k18 : PySem.W.keepIn K (.ref f18) = true)
    (a19 : PySem.W.nsIn K mainGlobals "_law_prim" = some (some (.ref f19))) (l19 : K.lookup f19 = some ⟨oc19, od19, .func (PySem.W.fnOf "_law_prim" "_law_prim" (defArgs s__law_prim) (defBody s__law_prim) (defScope s__law_prim) .none kV19 dc19 pm19 an19 cd19 ct19), sl19⟩) (c19 : PySem.W.codeIn K cd19 "_law_prim" = true) (k19 : PySem.W.keepIn K (.ref f19) = true)
    (a20 : PySem.W.nsIn K mainGlobals "_law_with" = some (some (.ref f20))) (l20 : K.lookup f20 = some ⟨oc20, od20, .func (PySem.W.fnOf "_law_with" "_law_with" (defArgs s__law_with) (defBody s__law_with) (defScope s__law_with) .none kV20 dc20 pm20 an20 cd20 ct20), sl20⟩) (c20 : PySem.W.codeIn K cd20 "_law_with" = true) (k20 : PySem.W.keepIn K (.ref f20) = true)
    (a21 : PySem.W.nsIn K mainGlobals "_law_all" = some (some (.ref f21))) (l21 : K.lookup f21 = some ⟨oc21, od21, .func (PySem.W.fnOf "_law_all" "_law_all" (defArgs s__law_all) (defBody s__law_all) (defScope s__law_all) .none kV21 dc21 pm21 an21 cd21 ct21), sl21⟩) (c21 : PySem.W.codeIn K cd21 "_law_all" = true) (k21 : PySem.W.keepIn K (.ref f21) = true)
    (a22 : PySem.W.nsIn K mainGlobals "_law_call" = some (some (.ref f22))) (l22 : K.lookup f22 = some ⟨oc22, od22, .func (PySem.W.fnOf "_law_call" "_law_call" (defArgs s__law_call) (defBody s__law_call) (defScope s__law_call) .none kV22 dc22 pm22 an22 cd22 ct22), sl22⟩) (c22 : PySem.W.codeIn K cd22 "_law_call" = true) (k22 : PySem.W.keepIn K (.ref f22) = true)
    (a23 : PySem.W.nsIn K mainGlobals "_law_run" = some (some (.ref f23))) (l23 : K.lookup f23 = some ⟨oc23, od23, .func (PySem.W.fnOf "_law_run" "_law_run" (defArgs s__law_run) (defBody s__law_run) (defScope s__law_run) .none kV23 dc23 pm23 an23 cd23 ct23), sl23⟩) (c23 : PySem.W.codeIn K cd23 "_law_run" = true) (k23 : PySem.W.keepIn K (.ref f23) = true)
    (a24 : PySem.W.nsIn K mainGlobals "_law_shown" = some (some (.ref f24))) (l24 : K.lookup f24 = some ⟨oc24, od24, .func (PySem.W.fnOf "_law_shown" "_law_shown" (defArgs s__law_shown) (defBody s__law_shown) (defScope s__law_shown) .none kV24 dc24 pm24 an24 cd24 ct24), sl24⟩) (c24 : PySem.W.codeIn K cd24 "_law_shown" = true) (k24 : PySem.W.keepIn K (.ref f24) = true)
    (a25 : PySem.W.nsIn K mainGlobals "_law_due" = some (some (.ref f25))) (l25 : K.lookup f25 = some ⟨oc25, od25, .func (PySem.W.fnOf "_law_due" "_law_due" (defArgs s__law_due) (defBody s__law_due) (defScope s__law_due) .none kV25 dc25 pm25 an25 cd25 ct25), sl25⟩) (c25 : PySem.W.codeIn K cd25 "_law_due" = true) (k25 : PySem.W.keepIn K (.ref f25) = true)
    (a26 : PySem.W.nsIn K mainGlobals "law" = some (some (.ref f26))) (l26 : K.lookup f26 = some ⟨oc26, od26, .func (PySem.W.fnOf "law" "law" (defArgs s_law) (defBody s_law) (defScope s_law) .none kV26 dc26 pm26 an26 cd26 ct26), sl26⟩) (c26 : PySem.W.codeIn K cd26 "law" = true) (k26 : PySem.W.keepIn K (.ref f26) = true)
    (aCcP : PySem.W.nsIn K mainGlobals "Pair" = some (some (.ref cP)))
    (pgcP : PySem.W.plainGet K cP Str.empty = true)
    (hdcP : PySem.W.hasDictIn K cP = true)
    (pocP : PySem.W.plainOver K cP = true)
    (sacP : PySem.W.findIn K (.ref cP) "__setattr__" = some (some (.builtin "object.__setattr__")))
    (mkcP : PySem.W.makesIn K cP = true)
    (kccP : PySem.W.keepIn K (.ref cP) = true)
    (cccP : PySem.W.findIn K (.ref cP) "__class__" = some (some (.builtin "object.__class__")))
    (cmcP : PySem.W.mroIn K cP (.type "object") = some true)
    (cecP : PySem.W.findIn K (.ref cP) "__eq__" = some (some (.builtin "object.__eq__")))
    (aCcC : PySem.W.nsIn K mainGlobals "Closure" = some (some (.ref cC)))
    (pgcC : PySem.W.plainGet K cC Str.empty = true)
    (hdcC : PySem.W.hasDictIn K cC = true)
    (pocC : PySem.W.plainOver K cC = true)
    (sacC : PySem.W.findIn K (.ref cC) "__setattr__" = some (some (.builtin "object.__setattr__")))
    (mkcC : PySem.W.makesIn K cC = true)
    (kccC : PySem.W.keepIn K (.ref cC) = true)
    (cccC : PySem.W.findIn K (.ref cC) "__class__" = some (some (.builtin "object.__class__")))
    (cmcC : PySem.W.mroIn K cC (.type "object") = some true)
    (cecC : PySem.W.findIn K (.ref cC) "__eq__" = some (some (.builtin "object.__eq__")))
    (aCcL : PySem.W.nsIn K mainGlobals "Plain" = some (some (.ref cL)))
    (pgcL : PySem.W.plainGet K cL Str.empty = true)
    (hdcL : PySem.W.hasDictIn K cL = true)
    (pocL : PySem.W.plainOver K cL = true)
    (sacL : PySem.W.findIn K (.ref cL) "__setattr__" = some (some (.builtin "object.__setattr__")))
    (mkcL : PySem.W.makesIn K cL = true)
    (kccL : PySem.W.keepIn K (.ref cL) = true)
    (cccL : PySem.W.findIn K (.ref cL) "__class__" = some (some (.builtin "object.__class__")))
    (cmcL : PySem.W.mroIn K cL (.type "object") = some true)
    (cecL : PySem.W.findIn K (.ref cL) "__eq__" = some (some (.builtin "object.__eq__")))
    (a27 : PySem.W.findIn K (.ref cP) "__init__" = some (some (.ref f27))) (i27 : PySem.W.isFn K (.ref f27) = true) (l27 : K.lookup f27 = some ⟨oc27, od27, .func (PySem.W.fnOf "__init__" "Pair.__init__" (defArgs s_Pair_init) (defBody s_Pair_init) (defScope s_Pair_init) .none kV27 dc27 pm27 an27 cd27 ct27), sl27⟩) (c27 : PySem.W.codeIn K cd27 "Pair.__init__" = true) (k27 : PySem.W.keepIn K (.ref f27) = true)
    (a28 : PySem.W.findIn K (.ref cC) "__init__" = some (some (.ref f28))) (i28 : PySem.W.isFn K (.ref f28) = true) (l28 : K.lookup f28 = some ⟨oc28, od28, .func (PySem.W.fnOf "__init__" "Closure.__init__" (defArgs s_Closure_init) (defBody s_Closure_init) (defScope s_Closure_init) .none kV28 dc28 pm28 an28 cd28 ct28), sl28⟩) (c28 : PySem.W.codeIn K cd28 "Closure.__init__" = true) (k28 : PySem.W.keepIn K (.ref f28) = true)
    (a29 : PySem.W.findIn K (.ref cL) "__init__" = some (some (.ref f29))) (i29 : PySem.W.isFn K (.ref f29) = true) (l29 : K.lookup f29 = some ⟨oc29, od29, .func (PySem.W.fnOf "__init__" "Plain.__init__" (defArgs s_Plain_init) (defBody s_Plain_init) (defScope s_Plain_init) .none kV29 dc29 pm29 an29 cd29 ct29), sl29⟩) (c29 : PySem.W.codeIn K cd29 "Plain.__init__" = true) (k29 : PySem.W.keepIn K (.ref f29) = true)
    (a30 : PySem.W.findIn K (.ref cL) "carry_out" = some (some (.ref f30))) (i30 : PySem.W.isFn K (.ref f30) = true) (l30 : K.lookup f30 = some ⟨oc30, od30, .func (PySem.W.fnOf "carry_out" "Plain.carry_out" (defArgs s_Plain_carry_out) (defBody s_Plain_carry_out) (defScope s_Plain_carry_out) .none kV30 dc30 pm30 an30 cd30 ct30), sl30⟩) (c30 : PySem.W.codeIn K cd30 "Plain.carry_out" = true) (k30 : PySem.W.keepIn K (.ref f30) = true)
    (a31 : PySem.W.findIn K (.ref cL) "begin" = some (some (.ref f31))) (i31 : PySem.W.isFn K (.ref f31) = true) (l31 : K.lookup f31 = some ⟨oc31, od31, .func (PySem.W.fnOf "begin" "Plain.begin" (defArgs s_Plain_begin) (defBody s_Plain_begin) (defScope s_Plain_begin) .none kV31 dc31 pm31 an31 cd31 ct31), sl31⟩) (c31 : PySem.W.codeIn K cd31 "Plain.begin" = true) (k31 : PySem.W.keepIn K (.ref f31) = true)
    (a32 : PySem.W.findIn K (.ref cL) "resume" = some (some (.ref f32))) (i32 : PySem.W.isFn K (.ref f32) = true) (l32 : K.lookup f32 = some ⟨oc32, od32, .func (PySem.W.fnOf "resume" "Plain.resume" (defArgs s_Plain_resume) (defBody s_Plain_resume) (defScope s_Plain_resume) .none kV32 dc32 pm32 an32 cd32 ct32), sl32⟩) (c32 : PySem.W.codeIn K cd32 "Plain.resume" = true) (k32 : PySem.W.keepIn K (.ref f32) = true)
    (a33 : PySem.W.findIn K (.ref cL) "call" = some (some (.ref f33))) (i33 : PySem.W.isFn K (.ref f33) = true) (l33 : K.lookup f33 = some ⟨oc33, od33, .func (PySem.W.fnOf "call" "Plain.call" (defArgs s_Plain_call) (defBody s_Plain_call) (defScope s_Plain_call) .none kV33 dc33 pm33 an33 cd33 ct33), sl33⟩) (c33 : PySem.W.codeIn K cd33 "Plain.call" = true) (k33 : PySem.W.keepIn K (.ref f33) = true)
    (n_first : PySem.W.findIn K (.ref cP) "first" = some none)
    (n_second : PySem.W.findIn K (.ref cP) "second" = some none)
    (n_numbers : PySem.W.findIn K (.ref cC) "numbers" = some none)
    (n_body : PySem.W.findIn K (.ref cC) "body" = some none)
    (n_around : PySem.W.findIn K (.ref cC) "around" = some none)
    (n_most : PySem.W.findIn K (.ref cL) "most" = some none)
    (n_steps : PySem.W.findIn K (.ref cL) "steps" = some none)
    (n_globals : PySem.W.findIn K (.ref cL) "globals" = some none)
    (n_waiting : PySem.W.findIn K (.ref cL) "waiting" = some none)
    (kPP : PySem.W.kitOne K (.ref cP) (.ref cP) = some true)
    (kCP : PySem.W.kitOne K (.ref cC) (.ref cP) = some false)
    (kCC : PySem.W.kitOne K (.ref cC) (.ref cC) = some true)
    (kPC : PySem.W.kitOne K (.ref cP) (.ref cC) = some false)
    (ktP : PySem.W.kitOne K (.type "tuple") (.ref cP) = some false)
    (ktC : PySem.W.kitOne K (.type "tuple") (.ref cC) = some false)
    (kiP : PySem.W.kitOne K (.type "int") (.ref cP) = some false)
    (kiC : PySem.W.kitOne K (.type "int") (.ref cC) = some false)
    (kPi : PySem.W.kitOne K (.ref cP) (.type "int") = some false)
    (kCi : PySem.W.kitOne K (.ref cC) (.type "int") = some false)
    (kPt : PySem.W.kitOne K (.ref cP) (.type "tuple") = some false)
    (z_len : PySem.W.nsIn K mainGlobals "len" = some none)
    (z_int : PySem.W.nsIn K mainGlobals "int" = some none)
    (z_abs : PySem.W.nsIn K mainGlobals "abs" = some none)
    (z_range : PySem.W.nsIn K mainGlobals "range" = some none)
    (z_list : PySem.W.nsIn K mainGlobals "list" = some none)
    (z_tuple : PySem.W.nsIn K mainGlobals "tuple" = some none)
    (z_sorted : PySem.W.nsIn K mainGlobals "sorted" = some none)
    (z_isinstance : PySem.W.nsIn K mainGlobals "isinstance" = some none)
    (z_str : PySem.W.nsIn K mainGlobals "str" = some none)
    (z_bool : PySem.W.nsIn K mainGlobals "bool" = some none)
    (z_dict : PySem.W.nsIn K mainGlobals "dict" = some none)
    (z_zip : PySem.W.nsIn K mainGlobals "zip" = some none)
    (z_max : PySem.W.nsIn K mainGlobals "max" = some none)
    (hn : PySem.W.specialIn K (.builtin "object.__class__") "__get__" = some (some (.builtin "getset_descriptor.__get__"))) (htk : PySem.W.takesIn K (.builtin "object.__class__") = some true)
    (gS : PySem.W.nsIn K mainGlobals "MOST_SHOWN" = some (some (.int 60 tS))) (gP : PySem.W.nsIn K mainGlobals "MOST_PAIRS" = some (some (.int 300 tP))) (gR : PySem.W.nsIn K mainGlobals "PRIMS" = some (some (.ref aR)))
    (lR : K.lookup aR = some ⟨.type "dict", none, .dict es nn, #[]⟩)
    (r_add : PySem.W.nsIn K aR "+" = some (some (.int 2 t_add)))
    (r_sub : PySem.W.nsIn K aR "-" = some (some (.int 2 t_sub)))
    (r_mul : PySem.W.nsIn K aR "*" = some (some (.int 2 t_mul)))
    (r_lt : PySem.W.nsIn K aR "<" = some (some (.int 2 t_lt)))
    (r_eq : PySem.W.nsIn K aR "=" = some (some (.int 2 t_eq)))
    (r_pair : PySem.W.nsIn K aR "pair" = some (some (.int 2 t_pair)))
    (r_first : PySem.W.nsIn K aR "first" = some (some (.int 1 t_first)))
    (r_second : PySem.W.nsIn K aR "second" = some (some (.int 1 t_second)))
    (hk : PySem.W.KeysLit w.params es.toList) (hG : ∃ t, mg "GREATEST" = some (.int MM.big t))
    : ∃ fd : FuncData, (∀ (s : Shared) (v : Value), BindsTo s fd ⟨[v], []⟩ [("_law_script", v)]) ∧ ∀ base : Heap, K.In base → base.Ns mainGlobals mg → FnOk l.prog w K mg base CX0 105 fa fd ["_law_script"] (spLaw K) := by
  have e := hfa.symm.trans (PySem.W.mg_of X G a26)
  cases e
  refine ⟨PySem.W.fnOf "law" "law" (defArgs s_law) (defBody s_law) (defScope s_law) .none kV26 dc26 pm26 an26 cd26 ct26, fun s v => .of_eq rfl, fun base _ _ => ?_⟩
  have D_show_within : Df K mg "show_within" s_show_within p_show_within := ⟨f1, _, fun_mk (st := s_show_within) l1 c1 k1, (fun_mk (st := s_show_within) l1 c1 k1).binds (ps := p_show_within) fun _ _ _ _ _ _ us hl => match us, hl with | [_, _, _], _ => rfl, PySem.W.mg_of X G a1⟩
  have D_show : Df K mg "show" s_show p_show := ⟨f2, _, fun_mk (st := s_show) l2 c2 k2, (fun_mk (st := s_show) l2 c2 k2).binds (ps := p_show) fun _ _ _ _ _ _ us hl => match us, hl with | [_], _ => rfl, PySem.W.mg_of X G a2⟩
  have D_computed : Df K mg "computed" s_computed p_computed := ⟨f3, _, fun_mk (st := s_computed) l3 c3 k3, (fun_mk (st := s_computed) l3 c3 k3).binds (ps := p_computed) fun _ _ _ _ _ _ us hl => match us, hl with | [_, _, _], _ => rfl, PySem.W.mg_of X G a3⟩
  have D_apply_prim : Df K mg "apply_prim" s_apply_prim p_apply_prim := ⟨f4, _, fun_mk (st := s_apply_prim) l4 c4 k4, (fun_mk (st := s_apply_prim) l4 c4 k4).binds (ps := p_apply_prim) fun _ _ _ _ _ _ us hl => match us, hl with | [_, _], _ => rfl, PySem.W.mg_of X G a4⟩
  have D_value_of : Df K mg "value_of" s_value_of p_value_of := ⟨f5, _, fun_mk (st := s_value_of) l5 c5 k5, (fun_mk (st := s_value_of) l5 c5 k5).binds (ps := p_value_of) fun _ _ _ _ _ _ us hl => match us, hl with | [_, _], _ => rfl, PySem.W.mg_of X G a5⟩
  have D_run_plain : Df K mg "run_plain" s_run_plain p_run_plain := ⟨f6, _, fun_mk (st := s_run_plain) l6 c6 k6, (fun_mk (st := s_run_plain) l6 c6 k6).binds (ps := p_run_plain) fun _ _ _ _ _ _ us hl => match us, hl with | [_, _, _], _ => rfl, PySem.W.mg_of X G a6⟩
  have D_law_mixed : Df K mg "_law_mixed" s__law_mixed p__law_mixed := ⟨f7, _, fun_mk (st := s__law_mixed) l7 c7 k7, (fun_mk (st := s__law_mixed) l7 c7 k7).binds (ps := p__law_mixed) fun _ _ _ _ _ _ us hl => match us, hl with | [_], _ => rfl, PySem.W.mg_of X G a7⟩
  have D_law_take : Df K mg "_law_take" s__law_take p__law_take := ⟨f8, _, fun_mk (st := s__law_take) l8 c8 k8, (fun_mk (st := s__law_take) l8 c8 k8).binds (ps := p__law_take) fun _ _ _ _ _ _ us hl => match us, hl with | [_, _], _ => rfl, PySem.W.mg_of X G a8⟩
  have D_law_state : Df K mg "_law_state" s__law_state p__law_state := ⟨f9, _, fun_mk (st := s__law_state) l9 c9 k9, (fun_mk (st := s__law_state) l9 c9 k9).binds (ps := p__law_state) fun _ _ _ _ _ _ us hl => match us, hl with | [_], _ => rfl, PySem.W.mg_of X G a9⟩
  have D_law_same : Df K mg "_law_same" s__law_same p__law_same := ⟨f10, _, fun_mk (st := s__law_same) l10 c10 k10, (fun_mk (st := s__law_same) l10 c10 k10).binds (ps := p__law_same) fun _ _ _ _ _ _ us hl => match us, hl with | [_, _], _ => rfl, PySem.W.mg_of X G a10⟩
  have D_law_locals : Df K mg "_law_locals" s__law_locals p__law_locals := ⟨f11, _, fun_mk (st := s__law_locals) l11 c11 k11, (fun_mk (st := s__law_locals) l11 c11 k11).binds (ps := p__law_locals) fun _ _ _ _ _ _ us hl => match us, hl with | [_, _], _ => rfl, PySem.W.mg_of X G a11⟩
  have D_law_numbers : Df K mg "_law_numbers" s__law_numbers p__law_numbers := ⟨f12, _, fun_mk (st := s__law_numbers) l12 c12 k12, (fun_mk (st := s__law_numbers) l12 c12 k12).binds (ps := p__law_numbers) fun _ _ _ _ _ _ us hl => match us, hl with | [_, _], _ => rfl, PySem.W.mg_of X G a12⟩
  have D_law_small : Df K mg "_law_small" s__law_small p__law_small := ⟨f13, _, fun_mk (st := s__law_small) l13 c13 k13, (fun_mk (st := s__law_small) l13 c13 k13).binds (ps := p__law_small) fun _ _ _ _ _ _ us hl => match us, hl with | [_], _ => rfl, PySem.W.mg_of X G a13⟩
  have D_law_function : Df K mg "_law_function" s__law_function p__law_function := ⟨f14, _, fun_mk (st := s__law_function) l14 c14 k14, (fun_mk (st := s__law_function) l14 c14 k14).binds (ps := p__law_function) fun _ _ _ _ _ _ us hl => match us, hl with | [_, _, _, _, _], _ => rfl, PySem.W.mg_of X G a14⟩
  have D_law_strange : Df K mg "_law_strange" s__law_strange p__law_strange := ⟨f15, _, fun_mk (st := s__law_strange) l15 c15 k15, (fun_mk (st := s__law_strange) l15 c15 k15).binds (ps := p__law_strange) fun _ _ _ _ _ _ us hl => match us, hl with | [_, _, _, _], _ => rfl, PySem.W.mg_of X G a15⟩
  have D_law_let : Df K mg "_law_let" s__law_let p__law_let := ⟨f16, _, fun_mk (st := s__law_let) l16 c16 k16, (fun_mk (st := s__law_let) l16 c16 k16).binds (ps := p__law_let) fun _ _ _ _ _ _ us hl => match us, hl with | [_, _, _, _], _ => rfl, PySem.W.mg_of X G a16⟩
  have D_law_part : Df K mg "_law_part" s__law_part p__law_part := ⟨f17, _, fun_mk (st := s__law_part) l17 c17 k17, (fun_mk (st := s__law_part) l17 c17 k17).binds (ps := p__law_part) fun _ _ _ _ _ _ us hl => match us, hl with | [_, _, _, _], _ => rfl, PySem.W.mg_of X G a17⟩
  have D_law_program : Df K mg "_law_program" s__law_program p__law_program := ⟨f18, _, fun_mk (st := s__law_program) l18 c18 k18, (fun_mk (st := s__law_program) l18 c18 k18).binds (ps := p__law_program) fun _ _ _ _ _ _ us hl => match us, hl with | [_], _ => rfl, PySem.W.mg_of X G a18⟩
  have D_law_prim : Df K mg "_law_prim" s__law_prim p__law_prim := ⟨f19, _, fun_mk (st := s__law_prim) l19 c19 k19, (fun_mk (st := s__law_prim) l19 c19 k19).binds (ps := p__law_prim) fun _ _ _ _ _ _ us hl => match us, hl with | [_, _], _ => rfl, PySem.W.mg_of X G a19⟩
  have D_law_with : Df K mg "_law_with" s__law_with p__law_with := ⟨f20, _, fun_mk (st := s__law_with) l20 c20 k20, (fun_mk (st := s__law_with) l20 c20 k20).binds (ps := p__law_with) fun _ _ _ _ _ _ us hl => match us, hl with | [_, _, _], _ => rfl, PySem.W.mg_of X G a20⟩
  have D_law_all : Df K mg "_law_all" s__law_all p__law_all := ⟨f21, _, fun_mk (st := s__law_all) l21 c21 k21, (fun_mk (st := s__law_all) l21 c21 k21).binds (ps := p__law_all) fun _ _ _ _ _ _ us hl => match us, hl with | [_, _, _, _], _ => rfl, PySem.W.mg_of X G a21⟩
  have D_law_call : Df K mg "_law_call" s__law_call p__law_call := ⟨f22, _, fun_mk (st := s__law_call) l22 c22 k22, (fun_mk (st := s__law_call) l22 c22 k22).binds (ps := p__law_call) fun _ _ _ _ _ _ us hl => match us, hl with | [_, _, _, _, _], _ => rfl, PySem.W.mg_of X G a22⟩
  have D_law_run : Df K mg "_law_run" s__law_run p__law_run := ⟨f23, _, fun_mk (st := s__law_run) l23 c23 k23, (fun_mk (st := s__law_run) l23 c23 k23).binds (ps := p__law_run) fun _ _ _ _ _ _ us hl => match us, hl with | [_, _, _, _, _], _ => rfl, PySem.W.mg_of X G a23⟩
  have D_law_shown : Df K mg "_law_shown" s__law_shown p__law_shown := ⟨f24, _, fun_mk (st := s__law_shown) l24 c24 k24, (fun_mk (st := s__law_shown) l24 c24 k24).binds (ps := p__law_shown) fun _ _ _ _ _ _ us hl => match us, hl with | [_, _, _], _ => rfl, PySem.W.mg_of X G a24⟩
  have D_law_due : Df K mg "_law_due" s__law_due p__law_due := ⟨f25, _, fun_mk (st := s__law_due) l25 c25 k25, (fun_mk (st := s__law_due) l25 c25 k25).binds (ps := p__law_due) fun _ _ _ _ _ _ us hl => match us, hl with | [_, _, _], _ => rfl, PySem.W.mg_of X G a25⟩
  have F_cP : ClsF K cP := ⟨⟨pgcP, hdcP, pocP, sacP⟩, cccP, cmcP, cecP⟩
  have F_cC : ClsF K cC := ⟨⟨pgcC, hdcC, pocC, sacC⟩, cccC, cmcC, cecC⟩
  have F_cL : ClsF K cL := ⟨⟨pgcL, hdcL, pocL, sacL⟩, cccL, cmcL, cecL⟩
  have D_Pair : Ini K cP "Pair.__init__" s_Pair_init p_Pair_init := ⟨f27, _, fun_mk (st := s_Pair_init) l27 c27 k27, (fun_mk (st := s_Pair_init) l27 c27 k27).binds (ps := p_Pair_init) fun _ _ _ _ _ _ us hl => match us, hl with | [_, _, _], _ => rfl, ⟨mkcP, a27, i27, kccP⟩⟩
  have D_Closure : Ini K cC "Closure.__init__" s_Closure_init p_Closure_init := ⟨f28, _, fun_mk (st := s_Closure_init) l28 c28 k28, (fun_mk (st := s_Closure_init) l28 c28 k28).binds (ps := p_Closure_init) fun _ _ _ _ _ _ us hl => match us, hl with | [_, _, _, _], _ => rfl, ⟨mkcC, a28, i28, kccC⟩⟩
  have D_Plain : Ini K cL "Plain.__init__" s_Plain_init p_Plain_init := ⟨f29, _, fun_mk (st := s_Plain_init) l29 c29 k29, (fun_mk (st := s_Plain_init) l29 c29 k29).binds (ps := p_Plain_init) fun _ _ _ _ _ _ us hl => match us, hl with | [_, _], _ => rfl, ⟨mkcL, a29, i29, kccL⟩⟩
  have D_carry_out : Mf K cL "carry_out" "Plain.carry_out" s_Plain_carry_out p_Plain_carry_out := ⟨f30, _, fun_mk (st := s_Plain_carry_out) l30 c30 k30, (fun_mk (st := s_Plain_carry_out) l30 c30 k30).binds (ps := p_Plain_carry_out) fun _ _ _ _ _ _ us hl => match us, hl with | [_, _], _ => rfl, ⟨a30, i30, k30⟩⟩
  have D_begin : Mf K cL "begin" "Plain.begin" s_Plain_begin p_Plain_begin := ⟨f31, _, fun_mk (st := s_Plain_begin) l31 c31 k31, (fun_mk (st := s_Plain_begin) l31 c31 k31).binds (ps := p_Plain_begin) fun _ _ _ _ _ _ us hl => match us, hl with | [_, _, _], _ => rfl, ⟨a31, i31, k31⟩⟩
  have D_resume : Mf K cL "resume" "Plain.resume" s_Plain_resume p_Plain_resume := ⟨f32, _, fun_mk (st := s_Plain_resume) l32 c32 k32, (fun_mk (st := s_Plain_resume) l32 c32 k32).binds (ps := p_Plain_resume) fun _ _ _ _ _ _ us hl => match us, hl with | [_, _, _], _ => rfl, ⟨a32, i32, k32⟩⟩
  have D_call : Mf K cL "call" "Plain.call" s_Plain_call p_Plain_call := ⟨f33, _, fun_mk (st := s_Plain_call) l33 c33 k33, (fun_mk (st := s_Plain_call) l33 c33 k33).binds (ps := p_Plain_call) fun _ _ _ _ _ _ us hl => match us, hl with | [_, _, _], _ => rfl, ⟨a33, i33, k33⟩⟩
  have O : Own K mg cP cC cL := ⟨F_cP, F_cC, F_cL, PySem.W.mg_of X G aCcP, PySem.W.mg_of X G aCcC, PySem.W.mg_of X G aCcL, n_first, n_second, n_numbers, n_body, n_around, n_most, n_steps, n_globals, n_waiting, kPP, kCP, kCC, kPC, ktP, ktC, kiP, kiC, kPi, kCi, kPt⟩
  have T : Txt K mg := ⟨PySem.W.mg_none_of X G z_len, PySem.W.mg_none_of X G z_int, PySem.W.mg_none_of X G z_abs, PySem.W.mg_none_of X G z_range, PySem.W.mg_none_of X G z_list, PySem.W.mg_none_of X G z_tuple, PySem.W.mg_none_of X G z_sorted, PySem.W.mg_none_of X G z_isinstance, PySem.W.mg_none_of X G z_str, PySem.W.mg_none_of X G z_bool, PySem.W.mg_none_of X G z_dict, PySem.W.mg_none_of X G z_zip, PySem.W.mg_none_of X G z_max, hn, htk⟩
  obtain ⟨tG, gG⟩ := hG
  have U : Glb K w mg := ⟨tS, tP, tG, aR, PySem.W.mg_of X G gS, PySem.W.mg_of X G gP, gG, PySem.W.mg_of X G gR, fun p => match p with | .add => ⟨es, nn, _, lR, hk, r_add, ⟨_, rfl⟩⟩ | .sub => ⟨es, nn, _, lR, hk, r_sub, ⟨_, rfl⟩⟩ | .mul => ⟨es, nn, _, lR, hk, r_mul, ⟨_, rfl⟩⟩ | .lt => ⟨es, nn, _, lR, hk, r_lt, ⟨_, rfl⟩⟩ | .eq => ⟨es, nn, _, lR, hk, r_eq, ⟨_, rfl⟩⟩ | .pair => ⟨es, nn, _, lR, hk, r_pair, ⟨_, rfl⟩⟩ | .first => ⟨es, nn, _, lR, hk, r_first, ⟨_, rfl⟩⟩ | .second => ⟨es, nn, _, lR, hk, r_second, ⟨_, rfl⟩⟩⟩
  have G_take := ok_take (P := l.prog) (w := w) (base := base) D_law_take T D_law_mixed
  have G_draw := draw (P := l.prog) (w := w) (base := base) T D_law_take G_take D_law_locals D_law_numbers D_law_small D_law_part D_law_function D_law_let D_law_strange
  have G_prog := ok_program (P := l.prog) (w := w) (base := base) D_law_program T D_law_take G_take D_law_part (any_part fun n => (G_draw n).1) D_law_function (G_draw 6).2
  have G_due := ok_due (P := l.prog) (w := w) (base := base) D_law_due D_law_run T D_law_all D_law_call D_law_with D_law_prim D_law_shown
  have G_plain := ok_run_plain (P := l.prog) (w := w) (base := base) D_run_plain D_Plain D_show D_show_within D_carry_out D_begin D_resume D_call T O U D_apply_prim D_computed D_Pair D_Closure D_value_of
  exact ok_law ((⟨fa, _, fun_mk (st := s_law) l26 c26 k26, (fun_mk (st := s_law) l26 c26 k26).binds (ps := p_law) fun _ _ _ _ _ _ us hl => match us, hl with | [_], _ => rfl, PySem.W.mg_of X G a26⟩ : Df K mg "law" s_law p_law)) T D_law_state D_law_program G_prog D_law_due G_due D_run_plain G_plain D_law_same
theorem greatest_of {p : Program} {mg : Str → Option Value} {h : Heap} (x : PySem.W.XL p [(("GREATEST" : Str), PySem.W.WData.int MM.big)] mg h) : ∃ t, mg "GREATEST" = some (.int MM.big t) := by
  obtain ⟨v, e, r⟩ := x.2.val _ List.mem_cons_self
  cases r with
  | int _ t => exact ⟨t, e⟩
theorem walk {l : PySem.W.OpenLaw} {q p : Program} {loose : List Str} {lv : List (Str × PySem.W.WData)} {YP : World → Heap → Prop} {d : DefRec} {K : Params → PySem.W.Frag} (hn : l.most = some 63) (hdf : d.params.defaults = []) (hY : ∀ (w : World) (g : Heap), YP w g → (K w.params).In g)
    (F : ∀ (w : World) (mg : Str → Option Value) (fa : Addr) (g : Heap), (K w.params).In g → g.Ns mainGlobals mg → PySem.W.XL p lv mg g → mg d.name = some (.ref fa) →
      ∃ fd : FuncData, (∀ (s : Shared) (u : Value), BindsTo s fd ⟨[u], []⟩ [("_law_script", u)]) ∧ ∀ base : Heap, (K w.params).In base → base.Ns mainGlobals mg → FnOk l.prog w (K w.params) mg base CX0 105 fa fd ["_law_script"] (spLaw (K w.params))) :
    PySem.W.WalkO q loose (PySem.W.XL p lv) YP l.row.toRowW d [] (fun f vs => PySem.call f vs) := by
  refine Att.attach_call hn hdf fun w s0 s1 mg mb fa o pm cd doc a vs ns Gd Y _ _ _ hmg hobj hints hlen hg => ?_
  have In1 := hY w _ Y
  obtain ⟨fd, hb, hF⟩ := F w mg fa _ In1 Gd.T.g Gd.X hmg
  exact L2.law_call (x := "_law_script") (k := 105) In1 Gd.T.g Gd.T.b Gd.T.builtins Gd.T.nolimit hg hobj hints (Nat.le_trans hlen (by decide)) ⟨rfl, by decide, by decide⟩ hF hb (fun H _ hS => ⟨a, ns, rfl, hS, fun _ => rfl⟩) fun _ _ _ z => z
end AF
open PySem PySem.W PyProof.Rows in
set_option maxRecDepth 100000 in
set_option maxHeartbeats 0 in
theorem PySem.Challenge.cw_aliasfold_k50_whole_plain_meaning_holds : PySem.Challenge.rw_aliasfold_k50_whole_plain_meaning.Holds := by
  w_on; o_law; k_head; (case hw => w_witness2)
  k_fill
  refine AF.walk (l := PySem.Challenge.rw_aliasfold_k50_whole_plain_meaning) rfl rfl (fun w h Y => PySem.W.kIn_of Y) ?F
  case F =>
    intro w mg fa h KX G xl hmg
    refine' AF.all_mk KX G hmg ?a1 ?l1 ?c1 ?k1 ?a2 ?l2 ?c2 ?k2 ?a3 ?l3 ?c3 ?k3 ?a4 ?l4 ?c4 ?k4 ?a5 ?l5 ?c5 ?k5 ?a6 ?l6 ?c6 ?k6 ?a7 ?l7 ?c7 ?k7 ?a8 ?l8 ?c8 ?k8 ?a9 ?l9 ?c9 ?k9 ?a10 ?l10 ?c10 ?k10 ?a11 ?l11 ?c11 ?k11 ?a12 ?l12 ?c12 ?k12 ?a13 ?l13 ?c13 ?k13 ?a14 ?l14 ?c14 ?k14 ?a15 ?l15 ?c15 ?k15 ?a16 ?l16 ?c16 ?k16 ?a17 ?l17 ?c17 ?k17 ?a18 ?l18 ?c18 ?k18 ?a19 ?l19 ?c19 ?k19 ?a20 ?l20 ?c20 ?k20 ?a21 ?l21 ?c21 ?k21 ?a22 ?l22 ?c22 ?k22 ?a23 ?l23 ?c23 ?k23 ?a24 ?l24 ?c24 ?k24 ?a25 ?l25 ?c25 ?k25 ?a26 ?l26 ?c26 ?k26 ?aCcP ?pgcP ?hdcP ?pocP ?sacP ?mkcP ?kccP ?cccP ?cmcP ?cecP ?aCcC ?pgcC ?hdcC ?pocC ?sacC ?mkcC ?kccC ?cccC ?cmcC ?cecC ?aCcL ?pgcL ?hdcL ?pocL ?sacL ?mkcL ?kccL ?cccL ?cmcL ?cecL ?a27 ?i27 ?l27 ?c27 ?k27 ?a28 ?i28 ?l28 ?c28 ?k28 ?a29 ?i29 ?l29 ?c29 ?k29 ?a30 ?i30 ?l30 ?c30 ?k30 ?a31 ?i31 ?l31 ?c31 ?k31 ?a32 ?i32 ?l32 ?c32 ?k32 ?a33 ?i33 ?l33 ?c33 ?k33 ?n_first ?n_second ?n_numbers ?n_body ?n_around ?n_most ?n_steps ?n_globals ?n_waiting ?kPP ?kCP ?kCC ?kPC ?ktP ?ktC ?kiP ?kiC ?kPi ?kCi ?kPt ?z_len ?z_int ?z_abs ?z_range ?z_list ?z_tuple ?z_sorted ?z_isinstance ?z_str ?z_bool ?z_dict ?z_zip ?z_max ?hn ?htk ?gS ?gP ?gR ?lR ?r_add ?r_sub ?r_mul ?r_lt ?r_eq ?r_pair ?r_first ?r_second ?hk ?hG
    (case a1 => k_is)
    (case l1 => k_is)
    (case c1 => k_is)
    (case k1 => k_is)
    (case a2 => k_is)
    (case l2 => k_is)
    (case c2 => k_is)
    (case k2 => k_is)
    (case a3 => k_is)
    (case l3 => k_is)
    (case c3 => k_is)
    (case k3 => k_is)
    (case a4 => k_is)
    (case l4 => k_is)
    (case c4 => k_is)
    (case k4 => k_is)
    (case a5 => k_is)
    (case l5 => k_is)
    (case c5 => k_is)
    (case k5 => k_is)
    (case a6 => k_is)
    (case l6 => k_is)
    (case c6 => k_is)
    (case k6 => k_is)
    (case a7 => k_is)
    (case l7 => k_is)
    (case c7 => k_is)
    (case k7 => k_is)
    (case a8 => k_is)
    (case l8 => k_is)
    (case c8 => k_is)
    (case k8 => k_is)
    (case a9 => k_is)
    (case l9 => k_is)
    (case c9 => k_is)
    (case k9 => k_is)
    (case a10 => k_is)
    (case l10 => k_is)
    (case c10 => k_is)
    (case k10 => k_is)
    (case a11 => k_is)
    (case l11 => k_is)
    (case c11 => k_is)
    (case k11 => k_is)
    (case a12 => k_is)
    (case l12 => k_is)
    (case c12 => k_is)
    (case k12 => k_is)
    (case a13 => k_is)
    (case l13 => k_is)
    (case c13 => k_is)
    (case k13 => k_is)
    (case a14 => k_is)
    (case l14 => k_is)
    (case c14 => k_is)
    (case k14 => k_is)
    (case a15 => k_is)
    (case l15 => k_is)
    (case c15 => k_is)
    (case k15 => k_is)
    (case a16 => k_is)
    (case l16 => k_is)
    (case c16 => k_is)
    (case k16 => k_is)
    (case a17 => k_is)
    (case l17 => k_is)
    (case c17 => k_is)
    (case k17 => k_is)
    (case a18 => k_is)
    (case l18 => k_is)
    (case c18 => k_is)
    (case k18 => k_is)
    (case a19 => k_is)
    (case l19 => k_is)
    (case c19 => k_is)
    (case k19 => k_is)
    (case a20 => k_is)
    (case l20 => k_is)
    (case c20 => k_is)
    (case k20 => k_is)
    (case a21 => k_is)
    (case l21 => k_is)
    (case c21 => k_is)
    (case k21 => k_is)
    (case a22 => k_is)
    (case l22 => k_is)
    (case c22 => k_is)
    (case k22 => k_is)
    (case a23 => k_is)
    (case l23 => k_is)
    (case c23 => k_is)
    (case k23 => k_is)
    (case a24 => k_is)
    (case l24 => k_is)
    (case c24 => k_is)
    (case k24 => k_is)
    (case a25 => k_is)
    (case l25 => k_is)
    (case c25 => k_is)
    (case k25 => k_is)
    (case a26 => k_is)
    (case l26 => k_is)
    (case c26 => k_is)
    (case k26 => k_is)
    (case aCcP => k_is)
    (case pgcP => k_is)
    (case hdcP => k_is)
    (case pocP => k_is)
    (case sacP => k_is)
    (case mkcP => k_is)
    (case kccP => k_is)
    (case cccP => k_is)
    (case cmcP => k_is)
    (case cecP => k_is)
    (case aCcC => k_is)
    (case pgcC => k_is)
    (case hdcC => k_is)
    (case pocC => k_is)
    (case sacC => k_is)
    (case mkcC => k_is)
    (case kccC => k_is)
    (case cccC => k_is)
    (case cmcC => k_is)
    (case cecC => k_is)
    (case aCcL => k_is)
    (case pgcL => k_is)
    (case hdcL => k_is)
    (case pocL => k_is)
    (case sacL => k_is)
    (case mkcL => k_is)
    (case kccL => k_is)
    (case cccL => k_is)
    (case cmcL => k_is)
    (case cecL => k_is)
    (case a27 => k_is)
    (case i27 => k_is)
    (case l27 => k_is)
    (case c27 => k_is)
    (case k27 => k_is)
    (case a28 => k_is)
    (case i28 => k_is)
    (case l28 => k_is)
    (case c28 => k_is)
    (case k28 => k_is)
    (case a29 => k_is)
    (case i29 => k_is)
    (case l29 => k_is)
    (case c29 => k_is)
    (case k29 => k_is)
    (case a30 => k_is)
    (case i30 => k_is)
    (case l30 => k_is)
    (case c30 => k_is)
    (case k30 => k_is)
    (case a31 => k_is)
    (case i31 => k_is)
    (case l31 => k_is)
    (case c31 => k_is)
    (case k31 => k_is)
    (case a32 => k_is)
    (case i32 => k_is)
    (case l32 => k_is)
    (case c32 => k_is)
    (case k32 => k_is)
    (case a33 => k_is)
    (case i33 => k_is)
    (case l33 => k_is)
    (case c33 => k_is)
    (case k33 => k_is)
    (case n_first => k_is)
    (case n_second => k_is)
    (case n_numbers => k_is)
    (case n_body => k_is)
    (case n_around => k_is)
    (case n_most => k_is)
    (case n_steps => k_is)
    (case n_globals => k_is)
    (case n_waiting => k_is)
    (case kPP => kit_is)
    (case kCP => kit_is)
    (case kCC => kit_is)
    (case kPC => kit_is)
    (case ktP => kit_is)
    (case ktC => kit_is)
    (case kiP => kit_is)
    (case kiC => kit_is)
    (case kPi => kit_is)
    (case kCi => kit_is)
    (case kPt => kit_is)
    (case z_len => k_is)
    (case z_int => k_is)
    (case z_abs => k_is)
    (case z_range => k_is)
    (case z_list => k_is)
    (case z_tuple => k_is)
    (case z_sorted => k_is)
    (case z_isinstance => k_is)
    (case z_str => k_is)
    (case z_bool => k_is)
    (case z_dict => k_is)
    (case z_zip => k_is)
    (case z_max => k_is)
    (case hn => k_is)
    (case htk => k_is)
    (case gS => k_is)
    (case gP => k_is)
    (case gR => k_is)
    (case lR => k_is)
    (case r_add => k_is)
    (case r_sub => k_is)
    (case r_mul => k_is)
    (case r_lt => k_is)
    (case r_eq => k_is)
    (case r_pair => k_is)
    (case r_first => k_is)
    (case r_second => k_is)
    (case hk => exact ⟨⟨_, _, rfl, rfl⟩, ⟨_, _, rfl, rfl⟩, ⟨_, _, rfl, rfl⟩, ⟨_, _, rfl, rfl⟩, ⟨_, _, rfl, rfl⟩, ⟨_, _, rfl, rfl⟩, ⟨_, _, rfl, rfl⟩, ⟨_, _, rfl, rfl⟩, trivial⟩)
    (case hG => exact AF.greatest_of xl)
