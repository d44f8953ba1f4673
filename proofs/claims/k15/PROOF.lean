import PyProof.Rows.All
import Wide.All
import OpenK.AllK
import Wide.FinOn
import HandS.ForMost
import HandS.More
import HandS.Conv
import HandS.Zip
import HandS.DictComp
import HandS.IsInst
import HandS.TupAny
import HandS.TupMul
import HandS.NoneIn
import HandS.Style
import HandS.Defaults
import HandS.RevTup
import KE.GoesEnum
import KE.KDictList
import KE.KStateDown
import HandS.Head0
import HandS.Head1
import HandS.Head2
import HandS.HeadEnd
import HandS.HeadHook1
import HandS.HeadHook2
import HandS.HeadHook3
import HandS.HeadHook4
import HandS.Walk
import PyProof.Rows.RegFStrParts
import PySem.Challenge.RW_narrowplay_k15_whole_loops_and_procedure
namespace NP
/-! The plain law: the pile machine of the program, its runs, and the chains of the law. No Python here. -/
abbrev Poly := List (Nat × Nat)
def pval (p : Poly) (n : Nat) : Nat := (p.map fun q => q.2 * n ^ q.1).sum

inductive Cmd where
  | up (x : Bool)
  | zero (x : Bool)
  | call (k : Nat)
  | win
  | rep (p : Poly) (cs : List Cmd)
  | ifat (cs ds : List Cmd)

/-- what stays the same in a play: the word's length, the bounds, the bodies -/
structure Stg where
  n : Nat
  bi : Nat
  bj : Nat
  B : List (List Cmd)

abbrev Ent := List Cmd × Nat × Nat
/-- a state of a play; the innermost entry of the pile first -/
structure Cf where
  i : Nat
  j : Nat
  st : Nat
  pile : List Ent

/-- the next command: the turns of the loop, the pile and steps ahead, the command, the pile and steps behind -/
inductive Nx : Nat → List Ent → Nat → Option Cmd → List Ent → Nat → Prop
  | nil {s : Nat} : Nx 0 [] s none [] s
  | here {cs : List Cmd} {k r : Nat} {P : List Ent} {s : Nat} {c : Cmd} (h : cs[k]? = some c) : Nx 0 ((cs, k, r) :: P) s (some c) ((cs, k, r) :: P) s
  | round {m : Nat} {cs : List Cmd} {k r : Nat} {P : List Ent} {s : Nat} {c : Option Cmd} {P' : List Ent} {s' : Nat} (h : cs.length ≤ k) (x : Nx m ((cs, 0, r + 1) :: P) (s + 1) c P' s') : Nx (m + 1) ((cs, k, r + 2) :: P) s c P' s'
  | last {m : Nat} {cs : List Cmd} {k : Nat} {P : List Ent} {s : Nat} {c : Option Cmd} {P' : List Ent} {s' : Nat} (h : cs.length ≤ k) (x : Nx m P (s + 1) c P' s') : Nx (m + 1) ((cs, k, 1) :: P) s c P' s'
  | leave {m : Nat} {cs : List Cmd} {k : Nat} {P : List Ent} {s : Nat} {c : Option Cmd} {P' : List Ent} {s' : Nat} (h : cs.length ≤ k) (x : Nx m P s c P' s') : Nx (m + 1) ((cs, k, 0) :: P) s c P' s'

def pass : List Ent → List Ent
  | (cs, k, r) :: P => (cs, k + 1, r) :: P
  | [] => []

def after (e : Stg) (c : Cmd) (i j s : Nat) (P : List Ent) : Cf := match c with
  | .up x => if x then ⟨i, min (j + 1) e.bj, s + 1, pass P⟩ else ⟨min (i + 1) e.bi, j, s + 1, pass P⟩
  | .zero x => if x then ⟨i, 0, s + 1, pass P⟩ else ⟨0, j, s + 1, pass P⟩
  | .call k => ⟨i, j, s + 1, (e.B.getD k [], 0, 0) :: pass P⟩
  | .win => ⟨i, j, s + 1, pass P⟩
  | .rep p cs => if 0 < pval p e.n then ⟨i, j, s + 1, (cs, 0, pval p e.n) :: pass P⟩ else ⟨i, j, s + 1, pass P⟩
  | .ifat cs ds => ⟨i, j, s + 1, (if i = j then cs else ds, 0, 0) :: pass P⟩

def okc (e : Stg) (c : Cmd) : Prop := ∀ k, c = .call k → k < e.B.length

/-- a play by turns: the number of commands, the state ahead, whether one wins, the state behind -/
inductive Pl (e : Stg) : Nat → Cf → Bool → Cf → Prop
  | done {m : Nat} {i j s : Nat} {P P' : List Ent} {s' : Nat} (h : Nx m P s none P' s') : Pl e 0 ⟨i, j, s, P⟩ false ⟨i, j, s', P'⟩
  | win {m : Nat} {i j s : Nat} {P P' : List Ent} {s' : Nat} (h : Nx m P s (some .win) P' s') : Pl e 0 ⟨i, j, s, P⟩ true (after e .win i j s' P')
  | step {l m : Nat} {i j s : Nat} {P P' : List Ent} {s' : Nat} {c : Cmd} {b : Bool} {f : Cf} (h : Nx m P s (some c) P' s') (nw : c ≠ .win) (ok : okc e c) (x : Pl e l (after e c i j s' P') b f) : Pl e (l + 1) ⟨i, j, s, P⟩ b f

def Ex (e : Stg) (a : Cf) (b : Bool) (f : Cf) : Prop := ∃ m, Pl e m a b f

section
variable {e : Stg} {i j s : Nat} {P : List Ent} {b : Bool} {f : Cf} {cs : List Cmd} {k r : Nat}
theorem Ex.nil : Ex e ⟨i, j, s, []⟩ false ⟨i, j, s, []⟩ := ⟨0, .done .nil⟩
theorem Ex.won (h : cs[k]? = some .win) : Ex e ⟨i, j, s, (cs, k, r) :: P⟩ true ⟨i, j, s + 1, (cs, k + 1, r) :: P⟩ := ⟨0, .win (.here h)⟩
theorem Ex.cmd {c : Cmd} (h : cs[k]? = some c) (nw : c ≠ .win) (ok : okc e c) (x : Ex e (after e c i j s ((cs, k, r) :: P)) b f) : Ex e ⟨i, j, s, (cs, k, r) :: P⟩ b f := by
  obtain ⟨m, x⟩ := x
  exact ⟨m + 1, .step (.here h) nw ok x⟩
/-- a turn of the loop ahead of a play -/
theorem Ex.pre {P1 : List Ent} {s1 : Nat} (q : ∀ m c P' s', Nx m P1 s1 c P' s' → ∃ m', Nx m' P s c P' s') (x : Ex e ⟨i, j, s1, P1⟩ b f) : Ex e ⟨i, j, s, P⟩ b f := by
  obtain ⟨m, x⟩ := x
  cases x with
  | done h =>
    obtain ⟨_, h⟩ := q _ _ _ _ h
    exact ⟨_, .done h⟩
  | win h =>
    obtain ⟨_, h⟩ := q _ _ _ _ h
    exact ⟨_, .win h⟩
  | step h nw ok y =>
    obtain ⟨_, h⟩ := q _ _ _ _ h
    exact ⟨_, .step h nw ok y⟩
theorem Ex.round (h : cs.length ≤ k) (x : Ex e ⟨i, j, s + 1, (cs, 0, r + 1) :: P⟩ b f) : Ex e ⟨i, j, s, (cs, k, r + 2) :: P⟩ b f :=
  x.pre fun _ _ _ _ y => ⟨_, .round h y⟩
theorem Ex.last (h : cs.length ≤ k) (x : Ex e ⟨i, j, s + 1, P⟩ b f) : Ex e ⟨i, j, s, (cs, k, 1) :: P⟩ b f :=
  x.pre fun _ _ _ _ y => ⟨_, .last h y⟩
theorem Ex.leave (h : cs.length ≤ k) (x : Ex e ⟨i, j, s, P⟩ b f) : Ex e ⟨i, j, s, (cs, k, 0) :: P⟩ b f :=
  x.pre fun _ _ _ _ y => ⟨_, .leave h y⟩
end

/-- the body ran: i is t more, j is 0, the steps are s more -/
def Runs (e : Stg) (cs : List Cmd) (t s : Nat) : Prop := ∀ (i a : Nat) (P : List Ent) (b : Bool) (f : Cf), i + t ≤ e.bi → Ex e ⟨i + t, 0, a + s, P⟩ b f → Ex e ⟨i, 0, a, (cs, 0, 0) :: P⟩ b f

section
variable {e : Stg}
/-- a call of a procedure that is known -/
theorem call_one {k t s : Nat} (hk : k < e.B.length) (R : Runs e (e.B.getD k []) t s) {cs : List Cmd} {q r i a : Nat} {P : List Ent} {b : Bool} {f : Cf} (h : cs[q]? = some (.call k)) (hi : i + t ≤ e.bi)
    (x : Ex e ⟨i + t, 0, a + (s + 1), (cs, q + 1, r) :: P⟩ b f) : Ex e ⟨i, 0, a, (cs, q, r) :: P⟩ b f := by
  refine Ex.cmd h (by intro z; cases z) (fun k' z => by cases z; exact hk) ?_
  show Ex e ⟨i, 0, a + 1, (e.B.getD k [], 0, 0) :: (cs, q + 1, r) :: P⟩ b f
  refine R i (a + 1) _ b f hi ?_
  rw [show a + 1 + s = a + (s + 1) by omega]
  exact x
theorem calls {k t s : Nat} (hk : k < e.B.length) (R : Runs e (e.B.getD k []) t s) (n : Nat) : ∀ (d q : Nat), q + d = n → ∀ (i a : Nat) (P : List Ent) (b : Bool) (f : Cf), i + d * t ≤ e.bi →
    Ex e ⟨i + d * t, 0, a + d * (s + 1), P⟩ b f → Ex e ⟨i, 0, a, (List.replicate n (.call k), q, 0) :: P⟩ b f
  | 0, q, hq, i, a, P, b, f, _, x => by
    rw [Nat.zero_mul, Nat.zero_mul] at x
    exact Ex.leave (by rw [List.length_replicate]; omega) x
  | d + 1, q, hq, i, a, P, b, f, hi, x => by
    rw [Nat.succ_mul] at hi x
    refine call_one hk R (q := q) ?_ (by omega) ?_
    · rw [List.getElem?_replicate, if_pos (by omega)]
    · refine calls hk R n d (q + 1) (by omega) _ _ P b f (by omega) ?_
      rw [show i + t + d * t = i + (d * t + t) by omega, show a + (s + 1) + d * (s + 1) = a + (d + 1) * (s + 1) by rw [Nat.succ_mul]; omega]
      exact x
/-- rounds of a body that is run at the list's head, each with u more for i and v more steps, the step at the end of the round among them -/
theorem rounds {cs : List Cmd} {u v : Nat} (R : ∀ (i a r : Nat) (P : List Ent) (b : Bool) (f : Cf), i + u ≤ e.bi → Ex e ⟨i + u, 0, a + v, (cs, cs.length, r) :: P⟩ b f → Ex e ⟨i, 0, a, (cs, 0, r) :: P⟩ b f) :
    ∀ (d i a : Nat) (P : List Ent) (b : Bool) (f : Cf), i + (d + 1) * u ≤ e.bi → Ex e ⟨i + (d + 1) * u, 0, a + (d + 1) * (v + 1), P⟩ b f → Ex e ⟨i, 0, a, (cs, 0, d + 1) :: P⟩ b f
  | 0, i, a, P, b, f, hi, x => by
    rw [Nat.zero_add, Nat.one_mul] at hi x
    rw [Nat.one_mul] at x
    refine R i a 1 P b f hi (Ex.last (Nat.le_refl _) ?_)
    exact x
  | d + 1, i, a, P, b, f, hi, x => by
    rw [Nat.succ_mul (d + 1)] at hi x
    refine R i a (d + 2) P b f (by omega) (Ex.round (Nat.le_refl _) ?_)
    refine rounds R d _ _ P b f (by omega) ?_
    rw [show i + u + (d + 1) * u = i + ((d + 1) * u + u) by omega, show a + v + 1 + (d + 1) * (v + 1) = a + (d + 1 + 1) * (v + 1) by rw [Nat.succ_mul (d + 1)]; omega]
    exact x
/-- a repeat: m rounds -/
theorem rep_one {cs ds : List Cmd} {p : Poly} {q r u v : Nat} (h : ds[q]? = some (.rep p cs)) (R : ∀ (i a r : Nat) (P : List Ent) (b : Bool) (f : Cf), i + u ≤ e.bi → Ex e ⟨i + u, 0, a + v, (cs, cs.length, r) :: P⟩ b f → Ex e ⟨i, 0, a, (cs, 0, r) :: P⟩ b f)
    (i a : Nat) (P : List Ent) (b : Bool) (f : Cf) (hi : i + pval p e.n * u ≤ e.bi) (x : Ex e ⟨i + pval p e.n * u, 0, a + (1 + pval p e.n * (v + 1)), (ds, q + 1, r) :: P⟩ b f) : Ex e ⟨i, 0, a, (ds, q, r) :: P⟩ b f := by
  refine Ex.cmd h (by intro z; cases z) (fun k' z => by cases z) ?_
  unfold after
  dsimp only
  by_cases hm : 0 < pval p e.n
  · rw [if_pos hm]
    obtain ⟨d, hd⟩ : ∃ d, pval p e.n = d + 1 := ⟨pval p e.n - 1, by omega⟩
    rw [hd] at hi x ⊢
    refine rounds R d i (a + 1) _ b f hi ?_
    rw [show a + 1 + (d + 1) * (v + 1) = a + (1 + (d + 1) * (v + 1)) by omega]
    exact x
  · rw [if_neg hm]
    have h0 : pval p e.n = 0 := by omega
    rw [h0, Nat.zero_mul, Nat.zero_mul] at x
    exact x
end

/-- the chains of the law: the bodies, how often the first command is done, the steps of the last body -/
inductive Chain (n : Nat) : List (List Cmd) → Nat → Nat → Prop
  | base : Chain n [[.up false]] 1 1
  | w0 {B : List (List Cmd)} {t s : Nat} (h : Chain n B t s) (m : Nat) : Chain n (B ++ [List.replicate m (.call (B.length - 1))]) (t * m) (m * (s + 1))
  | w1 {B : List (List Cmd)} {t s : Nat} (h : Chain n B t s) (p : Poly) : Chain n (B ++ [[.rep p [.call (B.length - 1)]]]) (t * pval p n) (1 + pval p n * (s + 2))
  | w2 {B : List (List Cmd)} {t s : Nat} (h : Chain n B t s) (p q : Poly) : Chain n (B ++ [[.rep p [.rep q [.call (B.length - 1), .zero true]]]]) (t * pval p n * pval q n) (1 + pval p n * (2 + pval q n * (s + 3)))

theorem Chain.pos {n : Nat} {B : List (List Cmd)} {t s : Nat} (h : Chain n B t s) : 0 < B.length := by
  cases h <;> simp
theorem Chain.le {n : Nat} {B : List (List Cmd)} {t s : Nat} (h : Chain n B t s) : t ≤ s := by
  induction h with
  | base => exact Nat.le_refl _
  | @w0 B t s _ m ih =>
    rw [Nat.mul_comm t m]
    exact Nat.mul_le_mul_left m (by omega)
  | @w1 B t s _ p ih =>
    rw [Nat.mul_comm]
    have h1 : pval p n * t ≤ pval p n * (s + 2) := Nat.mul_le_mul_left _ (by omega)
    omega
  | @w2 B t s _ p q ih =>
    rw [Nat.mul_comm t, Nat.mul_assoc, Nat.mul_comm t]
    have h1 : pval q n * t ≤ pval q n * (s + 3) := Nat.mul_le_mul_left _ (by omega)
    have h2 : pval p n * (pval q n * t) ≤ pval p n * (2 + pval q n * (s + 3)) := Nat.mul_le_mul_left _ (by omega)
    omega
theorem getD_last {B : List (List Cmd)} {c : List Cmd} {e : Stg} (he : ∀ k, k < (B ++ [c]).length → e.B[k]? = (B ++ [c])[k]?) : e.B.getD B.length [] = c := by
  have h := he B.length (by rw [List.length_append, List.length_singleton]; omega)
  rw [List.getElem?_append_right (Nat.le_refl _), Nat.sub_self] at h
  rw [List.getD_eq_getElem?_getD, h]
  rfl
theorem len_of {B C : List (List Cmd)} (hB : 0 < B.length) (he : ∀ k, k < B.length → C[k]? = B[k]?) : B.length - 1 < C.length := by
  have h := he (B.length - 1) (by omega)
  have h2 : B[B.length - 1]? = some B[B.length - 1] := List.getElem?_eq_getElem (by omega)
  rw [h2] at h
  exact (List.getElem?_eq_some_iff.mp h).1
theorem Chain.runs {n : Nat} {B : List (List Cmd)} {t s : Nat} (h : Chain n B t s) : ∀ (e : Stg), e.n = n → (∀ k, k < B.length → e.B[k]? = B[k]?) → Runs e (e.B.getD (B.length - 1) []) t s := by
  have front : ∀ {B : List (List Cmd)} {c : List Cmd} {e : Stg}, (∀ k, k < (B ++ [c]).length → e.B[k]? = (B ++ [c])[k]?) → ∀ k, k < B.length → e.B[k]? = B[k]? := fun {B c e} he k hk => by
    have h := he k (by rw [List.length_append]; omega)
    rw [List.getElem?_append_left hk] at h
    exact h
  have lst : ∀ {B : List (List Cmd)} {c : List Cmd}, (B ++ [c]).length - 1 = B.length := fun {B c} => by rw [List.length_append, List.length_singleton]; omega
  induction h with
  | base =>
    intro e hn he i a P b f hi x
    have h0 : e.B.getD 0 [] = [Cmd.up false] := by
      have h := he 0 (by simp)
      rw [List.getD_eq_getElem?_getD, h]
      rfl
    show Ex e ⟨i, 0, a, (e.B.getD 0 [], 0, 0) :: P⟩ b f
    rw [h0]
    refine Ex.cmd (c := .up false) rfl (by intro z; cases z) (fun k' z => by cases z) ?_
    show Ex e ⟨min (i + 1) e.bi, 0, a + 1, ([Cmd.up false], 1, 0) :: P⟩ b f
    rw [Nat.min_eq_left hi]
    exact Ex.leave (Nat.le_refl _) x
  | @w0 B t s h m ih =>
    intro e hn he i a P b f hi x
    rw [lst, getD_last he]
    have R := ih e hn (front he)
    rw [Nat.mul_comm t m] at hi x
    exact calls (len_of h.pos (front he)) R m m 0 (by omega) i a P b f hi x
  | @w1 B t s h p ih =>
    intro e hn he i a P b f hi x
    rw [lst, getD_last he]
    have R := ih e hn (front he)
    have hk := len_of h.pos (front he)
    rw [Nat.mul_comm t, ← hn] at hi x
    refine rep_one (u := t) (v := s + 1) (q := 0) rfl (fun i a r P b f hi x => ?_) i a P b f hi (Ex.leave (Nat.le_refl _) ?_)
    · exact call_one hk R rfl hi x
    · exact x
  | @w2 B t s h p q ih =>
    intro e hn he i a P b f hi x
    rw [lst, getD_last he]
    have R := ih e hn (front he)
    have hk := len_of h.pos (front he)
    rw [Nat.mul_comm t, Nat.mul_assoc, Nat.mul_comm t, ← hn] at hi x
    refine rep_one (u := pval q e.n * t) (v := 1 + pval q e.n * (s + 3)) (q := 0) rfl (fun i a r P b f hi x => ?_) i a P b f hi (Ex.leave (Nat.le_refl _) ?_)
    · refine rep_one (u := t) (v := s + 2) (q := 0) rfl (fun i a r P b f hi x => ?_) i a _ b f hi x
      refine call_one hk R rfl hi ?_
      refine Ex.cmd (c := .zero true) rfl (by intro z; cases z) (fun k' z => by cases z) ?_
      exact x
    · rw [show 1 + pval p e.n * (1 + pval q e.n * (s + 3) + 1) = 1 + pval p e.n * (2 + pval q e.n * (s + 3)) by congr 2; omega]
      exact x

/-- THE FIRST LAW -/
theorem chain_play {n : Nat} {B : List (List Cmd)} {t s bj : Nat} (h : Chain n B t s) (hs : s ≤ 1500) : Ex ⟨n, 5000, bj, B⟩ ⟨0, 0, 0, [(B.getD (B.length - 1) [], 0, 0)]⟩ false ⟨t, 0, s, []⟩ := by
  have hl := h.le
  have R := h.runs ⟨n, 5000, bj, B⟩ rfl (fun _ _ => rfl)
  refine R 0 0 [] false _ (show 0 + t ≤ 5000 by omega) ?_
  rw [Nat.zero_add, Nat.zero_add]
  exact Ex.nil

/-- the second program's body -/
def mainOf (k m : Nat) : List Cmd := List.replicate k (.up true) ++ [.rep [(0, m)] [.ifat [.win] [], .up false]]
theorem pval_const (m n : Nat) : pval [(0, m)] n = m := by
  simp [pval]
section
variable {e : Stg}
theorem ups (k : Nat) {cs : List Cmd} (hcs : ∀ q, q < k → cs[q]? = some (.up true)) (hb : k ≤ e.bj) : ∀ (d q : Nat), q + d = k → ∀ (a r : Nat) (P : List Ent) (b : Bool) (f : Cf),
    Ex e ⟨0, k, a + d, (cs, k, r) :: P⟩ b f → Ex e ⟨0, q, a, (cs, q, r) :: P⟩ b f
  | 0, q, hq, a, r, P, b, f, x => by
    have : q = k := by omega
    subst this
    exact x
  | d + 1, q, hq, a, r, P, b, f, x => by
    refine Ex.cmd (hcs q (by omega)) (by intro z; cases z) (fun k' z => by cases z) ?_
    show Ex e ⟨0, min (q + 1) e.bj, a + 1, (cs, q + 1, r) :: P⟩ b f
    rw [Nat.min_eq_left (by omega)]
    refine ups k hcs hb d (q + 1) (by omega) (a + 1) r P b f ?_
    rw [show a + 1 + d = a + (d + 1) by omega]
    exact x
abbrev bod : List Cmd := [.ifat [.win] [], .up false]
/-- the rounds ahead of a win, or of the end: d are left, i is the number of the round -/
theorem seek_win {k : Nat} (hb : k ≤ e.bi) : ∀ (d i : Nat), i + d = k → ∀ (r a : Nat) (P : List Ent), d ≤ r → ∃ F, Ex e ⟨i, k, a, (bod, 0, r + 1) :: P⟩ true F ∧ F.st = a + 3 * d + 2
  | 0, i, hi, r, a, P, hr => by
    have : i = k := by omega
    subst this
    refine ⟨⟨i, i, a + 1 + 1, ([Cmd.win], 1, 0) :: (bod, 1, r + 1) :: P⟩, Ex.cmd (c := .ifat [.win] []) rfl (by intro z; cases z) (fun k' z => by cases z) ?_, ?_⟩
    · show Ex e ⟨i, i, a + 1, (if i = i then [Cmd.win] else [], 0, 0) :: (bod, 1, r + 1) :: P⟩ true _
      rw [if_pos rfl]
      exact Ex.won rfl
    · rfl
  | d + 1, i, hi, r, a, P, hr => by
    obtain ⟨r', rfl⟩ : ∃ r', r = r' + 1 := ⟨r - 1, by omega⟩
    obtain ⟨F, x, hF⟩ := seek_win hb d (i + 1) (by omega) r' (a + 3) P (by omega)
    refine ⟨F, Ex.cmd (c := .ifat [.win] []) rfl (by intro z; cases z) (fun k' z => by cases z) ?_, by omega⟩
    show Ex e ⟨i, k, a + 1, (if i = k then [Cmd.win] else [], 0, 0) :: (bod, 1, r' + 1 + 1) :: P⟩ true _
    rw [if_neg (by omega)]
    refine Ex.leave (Nat.le_refl _) (Ex.cmd (c := .up false) rfl (by intro z; cases z) (fun k' z => by cases z) ?_)
    show Ex e ⟨min (i + 1) e.bi, k, a + 1 + 1, (bod, 2, r' + 2) :: P⟩ true F
    rw [Nat.min_eq_left (by omega)]
    exact Ex.round (Nat.le_refl _) x
theorem seek_end {k : Nat} : ∀ (d i : Nat), i + d + 1 ≤ k → i + d + 1 ≤ e.bi → ∀ (a : Nat) (P : List Ent) (b : Bool) (f : Cf), Ex e ⟨i + d + 1, k, a + 3 * (d + 1), P⟩ b f → Ex e ⟨i, k, a, (bod, 0, d + 1) :: P⟩ b f
  | 0, i, hi, hb, a, P, b, f, x => by
    refine Ex.cmd (c := .ifat [.win] []) rfl (by intro z; cases z) (fun k' z => by cases z) ?_
    show Ex e ⟨i, k, a + 1, (if i = k then [Cmd.win] else [], 0, 0) :: (bod, 1, 0 + 1) :: P⟩ b _
    rw [if_neg (by omega)]
    refine Ex.leave (Nat.le_refl _) (Ex.cmd (c := .up false) rfl (by intro z; cases z) (fun k' z => by cases z) ?_)
    show Ex e ⟨min (i + 1) e.bi, k, a + 1 + 1, (bod, 2, 1) :: P⟩ b f
    rw [Nat.min_eq_left (by omega)]
    exact Ex.last (Nat.le_refl _) x
  | d + 1, i, hi, hb, a, P, b, f, x => by
    refine Ex.cmd (c := .ifat [.win] []) rfl (by intro z; cases z) (fun k' z => by cases z) ?_
    show Ex e ⟨i, k, a + 1, (if i = k then [Cmd.win] else [], 0, 0) :: (bod, 1, d + 1 + 1) :: P⟩ b _
    rw [if_neg (by omega)]
    refine Ex.leave (Nat.le_refl _) (Ex.cmd (c := .up false) rfl (by intro z; cases z) (fun k' z => by cases z) ?_)
    show Ex e ⟨min (i + 1) e.bi, k, a + 1 + 1, (bod, 2, d + 2) :: P⟩ b f
    rw [Nat.min_eq_left (by omega)]
    refine Ex.round (Nat.le_refl _) (seek_end d (i + 1) (by omega) (by omega) (a + 3) P b f ?_)
    rw [show i + 1 + d + 1 = i + (d + 1) + 1 by omega, show a + 3 + 3 * (d + 1) = a + 3 * (d + 1 + 1) by omega]
    exact x
end
/-- THE SECOND LAW -/
theorem main_play {n k m : Nat} (hm : 1 ≤ m) (hm9 : m ≤ 9) (hk : k ≤ 8) :
    ∃ F, Ex ⟨n, 20, 20, [mainOf k m]⟩ ⟨0, 0, 0, [(mainOf k m, 0, 0)]⟩ (decide (k < m)) F ∧ F.st = if k < m then k + 1 + 3 * k + 2 else k + 1 + 3 * m := by
  have hq : ∀ q, q < k → (mainOf k m)[q]? = some (.up true) := fun q h => by
    unfold mainOf
    rw [List.getElem?_append_left (by rw [List.length_replicate]; exact h), List.getElem?_replicate, if_pos h]
  have hr : (mainOf k m)[k]? = some (.rep [(0, m)] bod) := by
    unfold mainOf
    rw [List.getElem?_append_right (by rw [List.length_replicate]; exact Nat.le_refl _), List.length_replicate, Nat.sub_self]
    rfl
  have hl : (mainOf k m).length = k + 1 := by
    unfold mainOf
    rw [List.length_append, List.length_replicate]
    rfl
  have go : ∀ (b : Bool) (F : Cf), Ex ⟨n, 20, 20, [mainOf k m]⟩ ⟨0, k, k + 1, (bod, 0, m) :: (mainOf k m, k + 1, 0) :: []⟩ b F → Ex ⟨n, 20, 20, [mainOf k m]⟩ ⟨0, 0, 0, [(mainOf k m, 0, 0)]⟩ b F := fun b F x => by
    refine ups k hq (show k ≤ 20 by omega) k 0 (by omega) 0 0 [] b F ?_
    refine Ex.cmd hr (by intro z; cases z) (fun k' z => by cases z) ?_
    unfold after
    dsimp only
    rw [pval_const, if_pos (by omega), Nat.zero_add]
    exact x
  obtain ⟨m', rfl⟩ : ∃ m', m = m' + 1 := ⟨m - 1, by omega⟩
  by_cases h : k < m' + 1
  · rw [decide_eq_true h, if_pos h]
    obtain ⟨F, x, hF⟩ := seek_win (e := ⟨n, 20, 20, [mainOf k (m' + 1)]⟩) (k := k) (show k ≤ 20 by omega) k 0 (by omega) m' (k + 1) [(mainOf k (m' + 1), k + 1, 0)] (by omega)
    exact ⟨F, go _ _ x, hF⟩
  · rw [decide_eq_false h, if_neg h]
    refine ⟨⟨0 + m' + 1, k, k + 1 + 3 * (m' + 1), []⟩, go _ _ ?_, rfl⟩
    refine seek_end m' 0 (by omega) (show 0 + m' + 1 ≤ 20 by omega) (k + 1) _ _ _ ?_
    exact Ex.leave (by omega) Ex.nil
end NP
set_option Elab.async false
set_option linter.all false
set_option maxRecDepth 100000
set_option maxHeartbeats 2000000
/-! Rules of my own over the hand layer. -/
namespace NPK
open PySem PySem.Spec PyProof.Rows L2

/-! ### enumerate of a tuple, of a text -/
theorem enum_new1 {v : Value} {o : Obj} {G : Heap → Prop} (B : Begins v o G) :
    Meets (Builtin.«enumerate.__new__» ⟨[.type "enumerate", v], []⟩) (fun _ R s => G s.heap ∧
      R (.ok (.ret (.ref (s.heap.push o).objs.size))) { s with heap := (s.heap.push o).push { cls := .type "enumerate", data := .fields #[.none, .bool false, .ref s.heap.objs.size, rawInt 0, .none, .none] } }) :=
  .of_wp fun prog w A R s h => by
    obtain ⟨hp, gs, dr, tk, os⟩ := s
    obtain ⟨h1, h⟩ := h
    have hsub := sub_enumerate
    have q1 : ∀ {A' : Around} {E : Value → Shared → Prop} {Q : Value → Shared → Prop}, Q (.ref hp.objs.size) ⟨hp.push o, gs, dr, tk, os⟩ → wpAny (model prog w) A' (pyIter v) Q E ⟨hp, gs, dr, tk, os⟩ :=
      fun q => B.iter prog w _ _ ⟨hp, gs, dr, tk, os⟩ _ h1 q
    wp_walk using q1
    refine wpAny_stack_any fun st => wpAny_pure ?_
    split
    · rename_i c _ _ _ _ _
      cases (c == Value.type "enumerate")
      · wp_walk using q1
        exact ⟨_, rfl, h⟩
      · wp_walk using q1
        exact ⟨_, rfl, h⟩
    · wp_walk using q1
      exact ⟨_, rfl, h⟩
theorem enum_call1 {prog : Program} {w : World} {A : Around} {E : Value → Shared → Prop} {s : Shared} {v : Value} {o : Obj} {G : Heap → Prop} {Q : Value → Shared → Prop} (B : Begins v o G) (h1 : G s.heap)
    (h : ∀ h', IsEnum h' (s.heap.objs.size + 1) s.heap.objs.size 0 .none → h'.get? s.heap.objs.size = some o → h'.objs.size = s.heap.objs.size + 2 →
      (∀ b u, s.heap.get? b = some u → h'.get? b = some u) → Q (.ref (s.heap.objs.size + 1)) { s with heap := h' }) :
    wpAny (model prog w) A (call (.type "enumerate") [v]) Q E s := by
  refine callType_new F.called_enumerate (by decide) (F.typeCall_enumerate_1 _) (F.newCall_enumerate_1 _) (fun obj => F.args_object_init_2 obj _) F.entry_enumerate_new (enum_new1 B) ⟨h1, ?_⟩
  have hz : (s.heap.push o).objs.size = s.heap.objs.size + 1 := Heap.size_push ..
  show _ ∧ _
  rw [hz]
  have he : IsEnum ((s.heap.push o).push { cls := .type "enumerate", data := .fields #[.none, .bool false, .ref s.heap.objs.size, rawInt 0, .none, .none] }) (s.heap.objs.size + 1) s.heap.objs.size 0 .none := by
    have q := Heap.get?_push_size (s.heap.push o) (o := { cls := .type "enumerate", data := .fields #[.none, .bool false, .ref s.heap.objs.size, rawInt 0, .none, .none] }) rfl
    rw [hz] at q
    exact q
  exact ⟨⟨_, he, rfl⟩, h _ he (Heap.get?_push_of_some _ (Heap.get?_push_size _ B.free)) (by rw [Heap.size_push, hz]) fun b u x => Heap.get?_push_of_some _ (Heap.get?_push_of_some _ x)⟩

/-- the tuple at a, each item in a new pair behind its number -/
def ItN (K : PySem.W.Frag) (a : Addr) : It :=
  ⟨fun i H => ∃ (xs : List V) (x : V), SqT K H a xs ∧ xs[i]? = some x, fun i H v H' => ∃ T x, v = .ref T ∧ H T = none ∧ H' = upd H T (.tup [.int (i : Nat), x]) ∧ ∀ xs, SqT K H a xs → xs[i]? = some x, fun i H => ∃ xs : List V, SqT K H a xs ∧ xs.length = i⟩
/-- the text z, each sign in a new pair behind its number -/
def ItM (z : Str) : It :=
  ⟨fun i _ => i < z.cps.size, fun i H v H' => ∃ T c, v = .ref T ∧ H T = none ∧ H' = upd H T (.tup [.int (i : Nat), .str ⟨#[c]⟩]) ∧ z.cps[i]? = some c, fun i _ => z.cps.size = i⟩
theorem enum_tup_apart {h : Heap} {e it a : Addr} {c : Int} {old : Value} {items : Array Value} (he : IsEnum h e it c old) (p : IsTup h a items) : e ≠ a := by
  rintro rfl
  obtain ⟨o, ho, hc, _⟩ := p
  unfold IsEnum at he
  rw [ho] at he
  have e1 := Option.some.inj he
  rw [e1] at hc
  have e2 := Value.type.inj hc
  exact absurd e2 (by decide)
theorem iter_tup_apart {h : Heap} {it a t : Addr} {i : Nat} {items : Array Value} (hi : h.IsTupleIter it t i) (p : IsTup h a items) : a ≠ it := by
  rintro rfl
  obtain ⟨o, ho, hc, _⟩ := p
  obtain ⟨o', ho', hc', _⟩ := hi
  rw [ho] at ho'
  have e1 := Option.some.inj ho'
  rw [e1, hc'] at hc
  have e2 := Value.type.inj hc
  exact absurd e2 (by decide)
/-- a pair that enumerate has made, at its turn -/
theorem enum_pair {X : Cx} {pins : List (Addr × Obj)} {σ : L2.St} {H : Hp} {s : Shared} {E : Value → Shared → Prop} {elts : List Expr} {kk : Nat} {tpos : Pos} {e it : Addr} {i : Nat} {tk : Nat} {h' : Heap} {u : Value} {x : V} {Ok : Heap → Prop}
    (I : Inv X pins σ H s) (hf : ∀ b ∈ [e, it], FpOk X pins H b) (hel : e < s.heap.objs.size) (hil : it < s.heap.objs.size) (ru : RelV x u)
    (ho : IsEnumOut h' e it ((i : Nat) + 1 : Int) u s.heap.objs.size) (hT : h'.get? s.heap.objs.size = some { cls := .type "tuple", data := .seq #[.int (i : Nat) tk, u] })
    (hk : ∀ b o, b ≠ e → b ≠ it → s.heap.get? b = some o → h'.get? b = some o) (hok : ∀ h'', Heap.SameBut e h' h'' → Ok h'') :
    wpAny (model X.prog X.w) X.A (letOwnedTupleGo (.Tuple elts kk tpos) (.ref e) (.ref s.heap.objs.size)) (fun _ s2 => ∃ H', Inv X pins σ H' s2 ∧ H s.heap.objs.size = none ∧ H' = upd H s.heap.objs.size (.tup [.int (i : Nat), x]) ∧
      ((∃ old, IsEnum s2.heap e it (((i + 1 : Nat) : Nat) : Int) old) ∧ Ok s2.heap) ∧ ∀ b ∈ [e, it], H' b = none) E { s with heap := h', toks := tk + 1 } := by
  refine wpAny_letOwnedTupleGo_enum (s := { s with heap := h', toks := tk + 1 }) ho fun h'' he' sb => ?_
  have hT2 : h''.get? s.heap.objs.size = some { cls := .type "tuple", data := .seq #[.int i tk, u] } := (sb.2 _ (Nat.ne_of_gt hel)).trans hT
  have new : ObjOk X.prog X.w (upd H s.heap.objs.size (.tup [.int (i : Nat), x])) h'' s.heap.objs.size (.tup [.int (i : Nat), x]) :=
    ⟨by show 2 ≤ sizeLine; decide, [.int i tk, u], .cons ⟨_, rfl⟩ (.cons ru .nil), ⟨_, hT2, rfl, _, rfl⟩⟩
  have I1 : Inv X pins σ (upd H s.heap.objs.size (.tup [.int (i : Nat), x])) { s with heap := h'', toks := tk + 1 } :=
    I.turnedNew (ch := [e, it]) (fun b ob hb q => (sb.2 b (fun z => hb (by simp [z]))).trans (hk b ob (fun z => hb (by simp [z])) (fun z => hb (by simp [z])) q)) hf (Nat.le_refl _) new
  refine ⟨_, I1, I.hok.fresh (Nat.le_refl _), rfl, ⟨⟨u, ?_⟩, hok h'' sb⟩, fun b hb => ?_⟩
  · have e1 : ((i + 1 : Nat) : Int) = (i : Int) + 1 := by omega
    rw [e1]
    exact he'
  · have hb' : b < s.heap.objs.size := by
      have q : b = e ∨ b = it := by simpa using hb
      rcases q with z | z
      · rw [z]
        exact hel
      · rw [z]
        exact hil
    rw [upd_ne (Nat.ne_of_lt hb')]
    exact (hf b hb).1
theorem turn_enumT {P : Program} {w : World} {K : PySem.W.Frag} {elts : List Expr} {kk : Nat} {tpos : Pos} (a e it : Addr) :
    Turn P w K (.Tuple elts kk tpos) (ItN K a) [e, it] e (fun i h => (∃ old, IsEnum h e it ((i : Nat) : Int) old) ∧ h.IsTupleIter it a i ∧ e ≠ it) where
  mem := by simp
  obj := fun i h st b hb => by
    obtain ⟨⟨old, he⟩, ⟨o, ho, hc, hd⟩, _⟩ := st
    have q : b = e ∨ b = it := by simpa using hb
    rcases q with z | z
    · rw [z]
      exact ⟨_, he, fun v q => nomatch q⟩
    · rw [z]
      exact ⟨o, ho, fun v q => by rw [hd] at q; cases q⟩
  keep := fun i h h' st k => let ⟨⟨old, he⟩, hi, hne⟩ := st; ⟨⟨old, k e (by simp) _ he⟩, hi.at fun o q => k it (by simp) o q, hne⟩
  item := by
    intro X hP hw hK hc i pins s σ H E I hf st hg
    subst hP hw hK
    obtain ⟨⟨old, he⟩, hit, hne⟩ := st
    obtain ⟨xs, x, hq, hx⟩ := hg
    obtain ⟨its, rv, p, hz⟩ := I.tuple hq
    obtain ⟨u, hu, ru⟩ := rv.get hx
    have hel : e < s.heap.objs.size := Heap.lt_size he
    have hil : it < s.heap.objs.size := by obtain ⟨_, q, _⟩ := hit; exact Heap.lt_size q
    have hlt : i < its.toArray.size := by
      rw [List.size_toArray]
      exact (List.getElem?_eq_some_iff.mp hu).1
    have nea := enum_tup_apart he p
    refine wpAny_pyNext_enum_itemC (Draws.tuple (A := X.A.in1) (show X.A.handled = none from I.ok.hd hc) it a (iter_tup_apart hit p) its.toArray) he ⟨hit, p⟩ hlt hne (by simp [hne, nea]) fun v h' tk hv ho hs' hT hsz hk => ?_
    have ev : u = v := by
      have q1 : its.toArray[i]? = some u := by simpa using hu
      exact Option.some.inj (q1.symm.trans hv)
    subst ev
    refine ⟨_, rfl, thn (enum_pair (Ok := fun h2 => h2.IsTupleIter it a (i + 1)) I hf hel hil ru ho hT hk fun h'' sb => hs'.1.at fun o q => (sb.2 it (Ne.symm hne)).trans q) fun _ s2 z => ?_⟩
    obtain ⟨H', I2, hn, eH, ⟨z1, z2⟩, z3⟩ := z
    exact ⟨.ref s.heap.objs.size, H', I2, rfl, ⟨_, x, rfl, hn, eH, fun ys hy => by rw [I.tuple_inj hy hq]; exact hx⟩, ⟨z1, z2, hne⟩, z3⟩
  done := by
    intro X hP hw hK hc i pins s σ H E I hf st hg
    subst hP hw hK
    obtain ⟨⟨old, he⟩, hit, hne⟩ := st
    obtain ⟨xs, hq, hx⟩ := hg
    obtain ⟨its, rv, p, hz⟩ := I.tuple hq
    have hl := rv.length
    have e2 : its.toArray.size = i := by
      rw [List.size_toArray]
      omega
    refine wpAny_pyNext_enum_endD (Draws.tuple (A := X.A.in1) (show X.A.handled = none from I.ok.hd hc) it a (iter_tup_apart hit p) its.toArray) he (by rw [e2]; exact ⟨hit, p⟩) fun h' hx => ⟨rfl, ?_⟩
    exact I.turned (t' := s.toks) (it := it) (fun b o hb q => hx b o hb q) (hf it (by simp)).1 (hf it (by simp)).2.1 (hf it (by simp)).2.2.2.1 (hf it (by simp)).2.2.2.2.1 (hf it (by simp)).2.2.2.2.2
  self := fun A i s Q E st q => by
    obtain ⟨⟨old, he⟩, _⟩ := st
    exact wpAny_pyIter_enum he q
def iEnumN (K : PySem.W.Frag) (ta : TA) : TI := fun σ H R => ta σ H fun vs H1 => ∃ a xs, vs = [.ref a] ∧ SqT K H1 a xs ∧ R (ItN K a) H1
theorem fresh2 {X : Cx} {pins : List (Addr × Obj)} {σ : L2.St} {H : Hp} {s : Shared} (I : Inv X pins σ H s) : ∀ b ∈ [s.heap.objs.size + 1, s.heap.objs.size], FpOk X pins H b := fun b hb => by
  have q : b = s.heap.objs.size + 1 ∨ b = s.heap.objs.size := by simpa using hb
  have hle : s.heap.objs.size ≤ b := by
    rcases q with z | z
    · rw [z]
      exact Nat.le_add_right _ _
    · rw [z]
      exact Nat.le_refl _
  exact I.fpOk hle (I.hok.fresh hle)
theorem pi_enumN {X : Cx} {e : Expr} {ta : TA} {p pos tpos : Pos} {elts : List Expr} {kk : Nat} (hg : Gl X "enumerate") (hm : X.mg "enumerate" = none) (ha : PA X [e] ta) (hs : starEach [e] X.env = [(false, eval e X.env)] := by rfl) :
    PI X (.Tuple elts kk tpos) (.Call (.Name "enumerate" p) [e] [] pos) (iEnumN X.K ta) := by
  constructor
  intro pins s σ H R I h
  refine Call_ (ld_blt I hg hm boot_enumerate (PyProof.Rows.callWith_type1 (thn (ha.run pos pins s σ H _ I h) fun us s1 ⟨vs, H1, I1, r1, q1⟩ => ?_) hs rfl))
  obtain ⟨a, xs, ex, hq, q⟩ := q1
  subst ex
  obtain ⟨u, rfl, ru⟩ := vals1 r1
  cases ru
  obtain ⟨its, rv, p', hz⟩ := I1.tuple hq
  refine enum_call1 (begins_tuple a its.toArray) p' fun h' he hit hsz hk => wpAny_pyIter_enum he ?_
  have I2 : Inv X pins σ H1 { s1 with heap := h' } := I1.kept (t' := s1.toks) hk
  exact ⟨s1.heap.objs.size + 1, [s1.heap.objs.size + 1, s1.heap.objs.size], _, _, H1, rfl, I2, turn_enumT a (s1.heap.objs.size + 1) s1.heap.objs.size, ⟨⟨.none, he⟩, ⟨_, hit, rfl, rfl⟩, Nat.succ_ne_self _⟩, fresh2 I1, q⟩

theorem turn_enumS {P : Program} {w : World} {K : PySem.W.Frag} {elts : List Expr} {kk : Nat} {tpos : Pos} (z : Str) (tz : Tok) (e it : Addr) :
    Turn P w K (.Tuple elts kk tpos) (ItM z) [e, it] e (fun i h => (∃ old, IsEnum h e it ((i : Nat) : Int) old) ∧ h.IsStrIter it (strIterType z) z tz i ∧ e ≠ it) where
  mem := by simp
  obj := fun i h st b hb => by
    obtain ⟨⟨old, he⟩, ⟨o, ho, hc, hd⟩, _⟩ := st
    have q : b = e ∨ b = it := by simpa using hb
    rcases q with y | y
    · rw [y]
      exact ⟨_, he, fun v q => nomatch q⟩
    · rw [y]
      exact ⟨o, ho, fun v q => by rw [hd] at q; cases q⟩
  keep := fun i h h' st k => let ⟨⟨old, he⟩, ⟨o, ho, hc, hd⟩, hne⟩ := st; ⟨⟨old, k e (by simp) _ he⟩, ⟨o, k it (by simp) o ho, hc, hd⟩, hne⟩
  item := by
    intro X hP hw hK hc i pins s σ H E I hf st hg
    subst hP hw hK
    obtain ⟨⟨old, he⟩, hit, hne⟩ := st
    have hlt : i < z.cps.size := hg
    have hel : e < s.heap.objs.size := Heap.lt_size he
    have hil : it < s.heap.objs.size := by obtain ⟨_, q, _⟩ := hit; exact Heap.lt_size q
    refine wpAny_pyNext_enum_itemC (Draws.text (A := X.A.in1) (show X.A.handled = none from I.ok.hd hc) it z tz) he hit hlt hne (by simp [hne]) fun v h' tk hv ho hs' hT hsz hk => ?_
    obtain ⟨c, u, hcz, ev⟩ := hv
    subst ev
    refine ⟨_, rfl, thn (enum_pair (x := .str ⟨#[c]⟩) (Ok := fun h2 => h2.IsStrIter it (strIterType z) z tz (i + 1)) I hf hel hil ⟨_, rfl⟩ ho hT hk fun h'' sb => let ⟨o, q, hc, hd⟩ := hs'; ⟨o, (sb.2 it (Ne.symm hne)).trans q, hc, hd⟩) fun _ s2 y => ?_⟩
    obtain ⟨H', I2, hn, eH, ⟨z1, z2⟩, z3⟩ := y
    exact ⟨.ref s.heap.objs.size, H', I2, rfl, ⟨_, c, rfl, hn, eH, hcz⟩, ⟨z1, z2, hne⟩, z3⟩
  done := by
    intro X hP hw hK hc i pins s σ H E I hf st hg
    subst hP hw hK
    obtain ⟨⟨old, he⟩, hit, hne⟩ := st
    have hx : z.cps.size = i := hg
    refine wpAny_pyNext_enum_endD (Draws.text (A := X.A.in1) (show X.A.handled = none from I.ok.hd hc) it z tz) he (by rw [hx]; exact hit) fun h' hx => ⟨rfl, ?_⟩
    exact I.turned (t' := s.toks) (it := it) (fun b o hb q => hx b o hb q) (hf it (by simp)).1 (hf it (by simp)).2.1 (hf it (by simp)).2.2.2.1 (hf it (by simp)).2.2.2.2.1 (hf it (by simp)).2.2.2.2.2
  self := fun A i s Q E st q => by
    obtain ⟨⟨old, he⟩, _⟩ := st
    exact wpAny_pyIter_enum he q
def iEnumM (ta : TA) : TI := fun σ H R => ta σ H fun vs H1 => ∃ z, vs = [.str z] ∧ R (ItM z) H1
theorem pi_enumM {X : Cx} {e : Expr} {ta : TA} {p pos tpos : Pos} {elts : List Expr} {kk : Nat} (hg : Gl X "enumerate") (hm : X.mg "enumerate" = none) (ha : PA X [e] ta) (hs : starEach [e] X.env = [(false, eval e X.env)] := by rfl) :
    PI X (.Tuple elts kk tpos) (.Call (.Name "enumerate" p) [e] [] pos) (iEnumM ta) := by
  constructor
  intro pins s σ H R I h
  refine Call_ (ld_blt I hg hm boot_enumerate (PyProof.Rows.callWith_type1 (thn (ha.run pos pins s σ H _ I h) fun us s1 ⟨vs, H1, I1, r1, q1⟩ => ?_) hs rfl))
  obtain ⟨z, ex, q⟩ := q1
  subst ex
  obtain ⟨u, rfl, tz, ru⟩ := vals1 r1
  cases ru
  refine enum_call1 (begins_text z tz) trivial fun h' he hit hsz hk => wpAny_pyIter_enum he ?_
  have I2 : Inv X pins σ H1 { s1 with heap := h' } := I1.kept (t' := s1.toks) hk
  exact ⟨s1.heap.objs.size + 1, [s1.heap.objs.size + 1, s1.heap.objs.size], _, _, H1, rfl, I2, turn_enumS z tz (s1.heap.objs.size + 1) s1.heap.objs.size, ⟨⟨.none, he⟩, ⟨_, hit, rfl, rfl⟩, Nat.succ_ne_self _⟩, fresh2 I1, q⟩

/-! ### sum([t], ()) of a list that holds one tuple -/
theorem tup_at {h h' : Heap} {a : Addr} {items : Array Value} (p : IsTup h a items) (k : ∀ o, h.get? a = some o → h'.get? a = some o) : IsTup h' a items :=
  let ⟨o, ho, r⟩ := p
  ⟨o, k o ho, r⟩
theorem args_sum2 (a b : Value) : argsOk "sum" ⟨[a, b], []⟩ := by unfold argsOk; kernel_rfl
theorem sum_loop1 {prog : Program} {w : World} {A : Around} {R : Result → Shared → Prop} {s : Shared} {I S l t e0 : Addr} {its : List Value} (hh : A.handled = none) (hit : s.heap.IsListIter I l 0) (hl : s.heap.IsList l #[Value.ref t]) (hIl : l ≠ I) (hSI : S ≠ I) (hSl : S ≠ l) (hSe : S ≠ e0) (hSt : S ≠ t) (hIe : I ≠ e0) (hIt : I ≠ t)
    (ht : IsTup s.heap t its.toArray) (he : IsTup s.heap e0 ([] : List Value).toArray) {c : Nat} (hS : s.heap.get? S = some { cls := .type "list", dict := none, data := .seq #[.ref e0] c, slots := #[] })
    (hR : ∀ h' tk, (∀ b o, b ≠ S → b ≠ I → s.heap.get? b = some o → h'.get? b = some o) → R (.ok (.ret (.ref t))) { s with heap := h', toks := tk }) :
    codeAny (model prog w) A (.builtin "sum.loop" ⟨[.ref I, .ref S, rawInt 2, rawInt 0], []⟩) R s := by
  refine codeAny_builtin F.entry_sum_loop ?_
  rw [Around.under_plainId F.plain_sum_loop _]
  show wpAny _ A.in1 (seqItems? (.ref S) >>= _) _ _ s
  refine wpAny_bind (wpAny_seqItems hS rfl ?_)
  show wpAny _ A.in1 (tryCatch (pyNext (.ref I)) _ >>= _) _ _ s
  refine wpAny_bind (wpAny_tryCatch (wpAny_pyNext_list_item (A := A.in1) hit hl (x := Value.ref t) rfl fun h' hit' hs' => ?_))
  have oth : ∀ b o, b ≠ I → s.heap.get? b = some o → h'.get? b = some o := fun b o hb q => (hs'.2 b hb).trans q
  have hS' := oth S _ hSI hS
  show wpAny _ A.in1 ((holding [Value.ref t] (binaryOp .Add (.ref e0) (.ref t))).attempt >>= _) _ _ _
  refine wpAny_bind (wpAny_attempt (wpAny_holding (cat_tup0 (tup_at he fun o q => oth e0 o (Ne.symm hIe) q) (tup_at ht fun o q => oth t o (Ne.symm hIt) q) ?_)))
  show wpAny _ A.in1 (updateSeq S (fun _ => #[.ref t]) >>= _) _ _ _
  refine wpAny_bind (wpAny_updateSeq hS' rfl ?_)
  have hS2 := Heap.get?_update_self (Obj.mapSeq fun _ => #[Value.ref t]) hS' rfl
  refine wpAny_bind (wpAny_letGo ?_)
  refine wpAny_bind (wpAny_updateSeq hS2 rfl (wpAny_pure ⟨plainId_quiet F.plain_sum_loop _, ?_⟩))
  have hS3 := Heap.get?_update_self (Obj.mapSeq fun _ => #[Value.ref t]) hS2 rfl
  refine codeAny_builtin F.entry_sum_loop ?_
  rw [Around.under_plainId F.plain_sum_loop _]
  show wpAny _ A.in1 (seqItems? (.ref S) >>= _) _ _ _
  refine wpAny_bind (wpAny_seqItems hS3 rfl ?_)
  show wpAny _ A.in1 (tryCatch (pyNext (.ref I)) _ >>= _) _ _ _
  have up : ∀ b o, b ≠ S → h'.get? b = some o → ((h'.update S (Obj.mapSeq fun _ => #[Value.ref t])).update S (Obj.mapSeq fun _ => #[Value.ref t])).get? b = some o := fun b o hb q =>
    (Heap.get?_update_other _ _ (Ne.symm hb)).trans ((Heap.get?_update_other _ _ (Ne.symm hb)).trans q)
  refine wpAny_bind (wpAny_tryCatch (wpAny_pyNext_list_end (A := A.in1) hh (hit'.at fun o q => up I o (Ne.symm hSI) q) (hl.at fun o q => up l o (Ne.symm hSl) (oth l o hIl q)) rfl fun h3 hx => ?_))
  refine wpAny_pure (hR h3 _ fun b o hb hbI q => hx b o hbI (up b o hb (oth b o hbI q)))

theorem sub_tup_no {T : String} (h : isSubtype (.type "tuple") (.type T) = pure false := by rw [isSubtype_type]; kernel_rfl) : isSubtype (.type "tuple") (.type T) = pure false := h
theorem list_ne_tup {h : Heap} {l t : Addr} {a b : Array Value} (hl : h.IsList l a) (ht : IsTup h t b) : l ≠ t := by
  rintro rfl
  obtain ⟨o, ho, hc, _⟩ := ht
  obtain ⟨o', ho', hc', _⟩ := hl
  rw [ho] at ho'
  have e1 := Option.some.inj ho'
  rw [e1, hc'] at hc
  exact absurd (Value.type.inj hc) (by decide)
theorem call_sum1 {prog : Program} {w : World} {A : Around} {E : Value → Shared → Prop} {s : Shared} {l t e0 : Addr} {its : List Value} {Q : Value → Shared → Prop} (hh : A.handled = none) (hl : s.heap.IsList l #[Value.ref t]) (ht : IsTup s.heap t its.toArray) (he : IsTup s.heap e0 ([] : List Value).toArray)
    (hQ : ∀ h' tk, (∀ b o, s.heap.get? b = some o → h'.get? b = some o) → Q (.ref t) { s with heap := h', toks := tk }) : wpAny (model prog w) A (call (.builtin "sum") [.ref l, .ref e0]) Q E s := by
  refine call_function_tree F.kind_sum F.plain_sum F.entry_sum (args_sum2 _ _) ?_
  unfold Builtin.«sum»
  simp only [List.length_cons, List.length_nil]
  rw [if_neg (by decide)]
  refine wpAny_bind (wpAny_of_eq (show Builtin.Builtins.bindParams "sum" ["start"] 0 ⟨[.ref e0], []⟩ = pure [some (.ref e0)] from rfl) ?_)
  refine wpAny_bind (wpAny_pyIter_list hl ?_)
  refine wpAny_bind (wpAny_pure ?_)
  have hT : ∀ o : Obj, ({ s with heap := s.heap.push o } : Shared).TypeIs (.ref e0) "tuple" := fun o => by
    obtain ⟨ob, ho, hc, _⟩ := he
    exact ⟨ob, Heap.get?_push_of_some _ ho, hc⟩
  simp only [List.forIn_cons, List.forIn_nil]
  refine wpAny_bind (wpAny_bind (wpAny_bind (wpAny_isInstance (T := "tuple") (b := false) (hT _) sub_tup_no ?_)))
  simp only [Bool.false_eq_true, if_false]
  refine wpAny_pure (wpAny_bind (wpAny_bind (wpAny_isInstance (T := "tuple") (b := false) (hT _) sub_tup_no ?_)))
  simp only [Bool.false_eq_true, if_false]
  refine wpAny_pure (wpAny_bind (wpAny_bind (wpAny_isInstance (T := "tuple") (b := false) (hT _) sub_tup_no ?_)))
  simp only [Bool.false_eq_true, if_false]
  refine wpAny_pure (wpAny_pure ?_)
  refine wpAny_bind (wpAny_newObj_type ?_)
  have ll : l < s.heap.objs.size := by obtain ⟨o, ho, _⟩ := hl; exact Heap.lt_size ho
  have lt : t < s.heap.objs.size := by obtain ⟨o, ho, _⟩ := ht; exact Heap.lt_size ho
  have le : e0 < s.heap.objs.size := by obtain ⟨o, ho, _⟩ := he; exact Heap.lt_size ho
  have kp : ∀ (o1 o2 : Obj) b o, s.heap.get? b = some o → ((s.heap.push o1).push o2).get? b = some o := fun o1 o2 b o q => Heap.get?_push_of_some _ (Heap.get?_push_of_some _ q)
  have hz : ∀ o1 : Obj, (s.heap.push o1).objs.size = s.heap.objs.size + 1 := fun o1 => Heap.size_push ..
  refine wpAny_pure ⟨plainId_quiet F.plain_sum_loop _, sum_loop1 (its := its) hh (I := s.heap.objs.size) (S := (s.heap.push _).objs.size) (l := l) (t := t) (e0 := e0) ⟨_, Heap.get?_push_of_some _ (Heap.get?_push_size _ rfl), rfl, rfl⟩ ?_ (Nat.ne_of_lt ll) ?_ ?_ ?_ ?_ (Nat.ne_of_gt le) (Nat.ne_of_gt lt) (tup_at ht fun o q => kp _ _ _ o q) (tup_at he fun o q => kp _ _ _ o q) (Heap.get?_push_size _ rfl) fun h' tk hk => ?_⟩
  · obtain ⟨o, ho, hc⟩ := hl
    exact ⟨o, kp _ _ _ o ho, hc⟩
  · rw [hz]
    exact Nat.succ_ne_self _
  · rw [hz]
    exact Nat.ne_of_gt (Nat.lt_succ_of_lt ll)
  · rw [hz]
    exact Nat.ne_of_gt (Nat.lt_succ_of_lt le)
  · rw [hz]
    exact Nat.ne_of_gt (Nat.lt_succ_of_lt lt)
  · exact hQ h' tk fun b o q => hk b o (by rw [hz]; exact Nat.ne_of_lt (Nat.lt_succ_of_lt (Heap.lt_size q))) (Nat.ne_of_lt (Heap.lt_size q)) (kp _ _ _ _ q)
/-- sum of a list of one tuple, from the empty tuple: that tuple -/
def rSumT (K : PySem.W.Frag) : List V → Hp → VK → Prop := fun vs H Q => ∃ l t e0 xs, vs = [.ref l, .ref e0] ∧ SqL K H l [.ref t] ∧ SqT K H t xs ∧ SqT K H e0 [] ∧ Q (.ref t) H
theorem cr_sumT {X : Cx} (hc : X.calm = true) : CallR X (.builtin "sum") (rSumT X.K) := by
  intro pins s σ H vs us Q I r h
  obtain ⟨l, t, e0, xs, rfl, hl, ht, he, q⟩ := h
  obtain ⟨u1, u2, rfl, r1, r2⟩ := vals2 r
  cases r1
  cases r2
  obtain ⟨i1, v1, p1, _⟩ := I.list hl
  obtain ⟨i2, v2, p2, _⟩ := I.tuple ht
  obtain ⟨i3, v3, p3, _⟩ := I.tuple he
  obtain ⟨u, rfl, ru⟩ := Vals.one v1
  cases ru
  cases v3
  exact call_sum1 (I.ok.hd hc) p1.isList p2 p3 fun h' tk hk => ⟨.ref t, H, I.kept hk, rfl, q⟩
end NPK
set_option Elab.async false
set_option linter.all false
set_option maxRecDepth 100000
set_option maxHeartbeats 2000000
namespace NPK
open PySem PySem.Spec PyProof.Rows L2

/-! ### list(reversed(xs)) -/
section
variable {prog : Program} {w : World} {A : Around} {E : Value → Shared → Prop} {s : Shared} {it l : Addr} {items : Array Value}
theorem rev_extend {R : Result → Shared → Prop} (hh : A.handled = none) (hit : s.heap.IsRevIter it l ((items.size : Int) - 1)) (hl : s.heap.IsList l items) (hne : l ≠ it) (hn : items.size ≤ sizeLine) (S : Addr) (hSi : S ≠ it) (hSl : S ≠ l) (res : Value) (c0 : Nat)
    (hS : s.heap.get? S = some { cls := .type "list", data := .seq #[] c0 })
    (hR : ∀ h' tk acc' c', (∀ b o, b ≠ S → b ≠ it → s.heap.get? b = some o → h'.get? b = some o) → h'.get? S = some { cls := .type "list", dict := none, data := .seq acc' c', slots := #[] } →
      ItemsOf (fun i v => items[items.size - 1 - i]? = some v) acc' items.size → R (.ok (.ret res)) { s with heap := h', toks := tk }) :
    wpAny (model prog w) A.in1 (Builtin.List.listExtendWith (.ref S) (.ref it) res)
      (fun fin s' => match fin with | .done f => R (.ok f) s' | .again c' => c'.quiet = true ∧ codeAny (model prog w) A c' R s') (fun e s' => R (.error e) s') s := by
  have W := (Walks.listRev (prog := prog) (w := w) (A := A.in1) hh it l hne items).toS
  have hSf : S ∉ [it, l] := by simp only [List.mem_cons, List.not_mem_nil, or_false, not_or]; exact ⟨hSi, hSl⟩
  have hT : s.TypeIs (.ref it) "list_reverseiterator" := hit.typeIs
  have h1 : Builtin.List.listSameRef (.ref S) (.ref it) = false := by simp [Builtin.List.listSameRef, hSi]
  unfold Builtin.List.listExtendWith
  refine wpAny_bind (wpAny_typeOf hT ?_)
  rw [if_neg (by rw [h1]; decide)]
  refine wpAny_bind (wpAny_pyIter_revIter hit ?_)
  refine wpAny_bind (wpAny_holding ?_)
  unfold Builtin.List.listLengthHint
  refine wpAny_bind (wpAny_specialOf hT RT.nolen_lri ?_)
  show wpAny _ A.in1 (specialOf (Value.ref it) (Str.ofString "__length_hint__") >>= _) _ _ _
  refine wpAny_bind (wpAny_specialOf hT RT.hint_lri ?_)
  generalize hid : ("list_reverseiterator.__length_hint__" : String) = id0
  wp_delta
  rw [show splitId id0 = some ("list_reverseiterator", "__length_hint__") from by subst hid; decide +kernel]
  subst hid
  refine wpAny_bind (wpAny_isInstance (b := true) hT (by rw [isSubtype_type]; kernel_rfl) ?_)
  refine wpAny_pure ?_
  rw [if_neg (by decide)]
  have e0 : ((items.size : Nat) : Int) - 1 - ((0 : Nat) : Int) = (items.size : Int) - 1 := by omega
  refine wpAny_pure ⟨plainId_quiet F.plain_extend_loop _, codeAny_extend_loopS W hn S hSf res items.size 0 _ _ _ rfl (Nat.zero_le _) ⟨Nat.zero_le _, by rw [e0]; exact hit, hl⟩ hS (ItemsOf.nil _) fun s' acc' c' hm hS' hacc => ?_⟩
  rw [Moved.eq_with hm]
  refine hR s'.heap s'.toks acc' c' (fun b o hb hi q => hm.heap b o (fun hmem => ?_) q) hS' hacc
  rcases List.mem_cons.mp hmem with z | z
  · exact hb z
  · exact hi (List.mem_singleton.mp z)
theorem rev_init {R : Result → Shared → Prop} (hh : A.handled = none) (hit : s.heap.IsRevIter it l ((items.size : Int) - 1)) (hl : s.heap.IsList l items) (hne : l ≠ it) (hn : items.size ≤ sizeLine) (S : Addr) (hSi : S ≠ it) (hSl : S ≠ l)
    (hS : s.heap.get? S = some { cls := .type "list", data := .seq #[] })
    (hR : ∀ h' tk acc' c', (∀ b o, b ≠ S → b ≠ it → s.heap.get? b = some o → h'.get? b = some o) → h'.get? S = some { cls := .type "list", dict := none, data := .seq acc' c', slots := #[] } →
      ItemsOf (fun i v => items[items.size - 1 - i]? = some v) acc' items.size → R (.ok (.ret .none)) { s with heap := h', toks := tk }) :
    wpAny (model prog w) A.in1 (Builtin.«list.__init__» ⟨[.ref S, .ref it], []⟩)
      (fun fin s' => match fin with | .done f => R (.ok f) s' | .again c' => c'.quiet = true ∧ codeAny (model prog w) A c' R s') (fun e s' => R (.error e) s') s := by
  show wpAny _ _ (do let old ← Builtin.List.listItems (.ref S); Builtin.List.listUpdate (.ref S) (fun _ => #[]); letGo old.toList.reverse; Builtin.List.listExtendWith (.ref S) (.ref it) .none) _ _ s
  refine wpAny_bind ?_
  unfold Builtin.List.listItems
  refine wpAny_bind (wpAny_seqItems hS rfl (wpAny_pure ?_))
  show wpAny _ _ (updateSeq S (fun _ => #[]) >>= fun _ => letGo (#[] : Array Value).toList.reverse >>= fun _ => Builtin.List.listExtendWith (.ref S) (.ref it) .none) _ _ s
  refine wpAny_bind (wpAny_updateSeq hS rfl ?_)
  have hS2 := Heap.get?_update_self (Obj.mapSeq (fun _ => (#[] : Array Value))) hS rfl
  have oth : ∀ b o, b ≠ S → s.heap.get? b = some o → (s.heap.update S (Obj.mapSeq (fun _ => (#[] : Array Value)))).get? b = some o :=
    fun b o hb q => (Heap.get?_update_other _ _ (Ne.symm hb)).trans q
  refine wpAny_bind (wpAny_letGo ?_)
  refine rev_extend hh (hit.at fun o q => oth it o (Ne.symm hSi) q) (hl.at fun o q => oth l o (Ne.symm hSl) q) hne hn S hSi hSl .none _ hS2 fun h' tk acc' c' hk hS' hacc => ?_
  exact hR h' tk acc' c' (fun b o hb hi q => hk b o hb hi (oth b o hb q)) hS' hacc
theorem call_list_rev {Q : Value → Shared → Prop} (hh : A.handled = none) (hit : s.heap.IsRevIter it l ((items.size : Int) - 1)) (hl : s.heap.IsList l items) (hne : l ≠ it) (hn : items.size ≤ sizeLine)
    (hQ : ∀ h' tk acc' c', (∀ b o, b ≠ it → s.heap.get? b = some o → h'.get? b = some o) → h'.get? s.heap.objs.size = some { cls := .type "list", dict := none, data := .seq acc' c', slots := #[] } →
      ItemsOf (fun i v => items[items.size - 1 - i]? = some v) acc' items.size → Q (.ref s.heap.objs.size) { s with heap := h', toks := tk }) : wpAny (model prog w) A (call (.type "list") [.ref it]) Q E s := by
  refine callType_codes (Q₁ := fun obj s₁ => obj = .ref s.heap.objs.size ∧ s₁ = { s with heap := s.heap.push { cls := .type "list", data := .seq #[] } }) PySem.F.called_list (PySem.F.typeCall_list_1 _) PySem.F.entry_list_init
    (code_list_new _ ⟨rfl, rfl⟩) fun obj s₁ h₁ => ?_
  obtain ⟨rfl, rfl⟩ := h₁
  have hS : (s.heap.push { cls := .type "list", data := .seq #[] }).get? s.heap.objs.size = some { cls := .type "list", data := .seq #[] } := Heap.get?_push_size _ rfl
  have li : it < s.heap.objs.size := by obtain ⟨o, ho, _⟩ := hit; exact Heap.lt_size ho
  have ll : l < s.heap.objs.size := by obtain ⟨o, ho, _⟩ := hl; exact Heap.lt_size ho
  refine ⟨⟨_, hS, rfl⟩, PySem.F.args_list_init_2 _ _, rev_init (A := A.in1) hh (hit.at fun o q => Heap.get?_push_of_some _ q) (hl.push _) hne hn _ (Nat.ne_of_gt li) (Nat.ne_of_gt ll) hS fun h' tk acc' c' hk hS' hacc => ?_⟩
  exact ⟨rfl, hQ h' tk acc' c' (fun b o hi q => hk b o (Nat.ne_of_lt (Heap.lt_size q)) hi (Heap.get?_push_of_some _ q)) hS' hacc⟩
end
/-- list(reversed(xs)), a new list -/
def tListRev (K : PySem.W.Frag) (te : TE) : TE := fun σ H Q => te σ H fun x H1 => ∃ a xs, x = .ref a ∧ SqL K H1 a xs ∧ ∀ p, H1 p = none → Q (.ref p) (upd H1 p (.lst xs.reverse))
theorem pe_listRev {X : Cx} {e : Expr} {te : TE} {p1 p2 q1 pos : Pos} (hc : X.calm = true) (hg1 : Gl X "list") (hm1 : X.mg "list" = none) (hg2 : Gl X "reversed") (hm2 : X.mg "reversed" = none) (he : PE X e te)
    (h1 : starEach [e] X.env = [(false, eval e X.env)] := by rfl) (h2 : starEach [.Call (.Name "reversed" p2) [e] [] q1] X.env = [(false, eval (.Call (.Name "reversed" p2) [e] [] q1) X.env)] := by rfl) :
    PE X (.Call (.Name "list" p1) [.Call (.Name "reversed" p2) [e] [] q1] [] pos) (tListRev X.K te) := by
  constructor
  intro pins s σ H Q I h
  refine Call_ (ld_blt I hg1 hm1 (by decide +kernel) (PyProof.Rows.callWith_type1 (Q := EP X pins σ Q) (T := "list") ?_ h2 rfl))
  rw [h2]
  refine Calls.spliced_cons (Call_ (ld_blt I hg2 hm2 PyProof.Rows.boot_reversed (PyProof.Rows.callWith_type1 ?_ h1 rfl)))
  rw [h1]
  refine Calls.spliced_cons (thn (he.run pins s σ H _ I h) fun u s1 z => Calls.spliced_nil ?_)
  obtain ⟨x, H1, I1, rx, a, xs, rfl, hq, q⟩ := z
  cases rx
  obtain ⟨its, rv, p', hz⟩ := I1.list hq
  have hlen := rv.length
  refine call_reversed_list p'.isList (Calls.spliced_nil ?_)
  have ala : a < s1.heap.objs.size := by obtain ⟨o, ho, _⟩ := p'.isList; exact Heap.lt_size ho
  refine call_list_rev (s := { s1 with heap := s1.heap.push _ }) (I1.ok.hd hc) ⟨_, Heap.get?_push_size _ rfl, rfl, rfl⟩ (p'.isList.push _) (Nat.ne_of_lt ala) (by rw [List.size_toArray]; omega) fun h' tk acc' c' hk hS hacc => ?_
  have hz1 : ∀ o1 : Obj, (s1.heap.push o1).objs.size = s1.heap.objs.size + 1 := fun o1 => Heap.size_push ..
  have hnew : H1 (s1.heap.objs.size + 1) = none := I1.hok.fresh (Nat.le_succ _)
  refine ⟨.ref (s1.heap.objs.size + 1), upd H1 (s1.heap.objs.size + 1) (.lst xs.reverse), ?_, ?_, q _ hnew⟩
  · refine I1.laid (fun b o w => hk b o (Nat.ne_of_lt (Heap.lt_size w)) (Heap.get?_push_of_some _ w)) (Nat.le_succ _) (show ObjOk X.prog X.w _ _ _ (.lst xs.reverse) from ⟨by rw [List.length_reverse]; exact hz, acc'.toList, c', ?_, ?_⟩)
    · have el : acc'.toList.length = acc'.size := by simp
      have e1 : acc'.size = its.length := by rw [hacc.1, List.size_toArray]
      refine vals_of_at (by rw [List.length_reverse, el, e1]; exact hlen) fun j y v h3 h4 => ?_
      have h5 := hacc.2 j v (by rw [← Array.getElem?_toList]; exact h4)
      have hj : j < xs.length := by
        have := (List.getElem?_eq_some_iff.mp h3).1
        rw [List.length_reverse] at this
        exact this
      rw [List.getElem?_reverse hj] at h3
      have h6 : its[its.length - 1 - j]? = some v := by simpa using h5
      rw [← hlen] at h6
      obtain ⟨v', e7, r7⟩ := rv.get h3
      rw [h6] at e7
      have e8 := Option.some.inj e7
      subst e8
      exact r7
    · rw [Array.toArray_toList, ← hz1]
      exact hS
  · show Value.ref (s1.heap.push _).objs.size = _
    rw [hz1]

/-! ### TABLE.get(key, x), TABLE a dict of the written part -/
/-- what the table at d holds at the text k, or else z -/
def KGot (K : PySem.W.Frag) (d : Addr) (k : Str) (z v : V) : Prop := ∃ r, PySem.W.nsIn K d k = some r ∧ match r with
  | some u => RelV v u
  | none => v = z
def KTab (K : PySem.W.Frag) (w : World) (d : Addr) : Prop := ∃ es n, KDict K w d es n
def tKGet2 (K : PySem.W.Frag) (w : World) (td ty tx : TE) : TE := fun σ H Q => td σ H fun x H1 => ∃ d, x = .ref d ∧ KTab K w d ∧ ty σ H1 fun y H2 => tx σ H2 fun z H3 => ∃ k v, y = .str k ∧ KGot K d k z v ∧ Q v H3
theorem pe_kget2 {X : Cx} {o e f : Expr} {apos cpos : Pos} {td ty tx : TE} (ho : PE X o td) (he : PE X e ty) (hf : PE X f tx) (m : M2 X o "get" apos e f cpos) : PE X (.Call (.Attribute o "get" apos) [e, f] [] cpos) (tKGet2 X.K X.w td ty tx) := by
  constructor
  intro pins s σ H Q I h
  refine wpAny_Call_method m.base m.few m.line PySem.F.plainAttrs_dict PySem.F.slot_dict_get PySem.F.type_dict_get (thn (ho.run pins s σ H _ I h) fun u s1 ⟨x, H1, I1, rx, d, ex, ⟨es, n, D⟩, q1⟩ => ?_)
  subst ex
  obtain rfl : u = Value.ref d := rx
  refine ⟨kd_type D I1, fun b eb => ?_, ?_⟩
  · have eb := Value.ref.inj eb
    subst eb
    exact ⟨_, I1.kIn d _ D.at_, rfl⟩
  rw [m.trees]
  refine Calls.callWith_builtin rfl (Calls.evalArgs_plain (Calls.spliced_cons (thn (he.run pins s1 σ H1 _ I1 q1) fun iv s2 ⟨y, H2, I2, ry, q2⟩ =>
    Calls.spliced_cons (thn (hf.run pins s2 σ H2 _ I2 q2) fun fv s3 ⟨z, H3, I3, rz, k, v, ey, ⟨r, er, g⟩, q3⟩ => Calls.spliced_nil ?_))))
  subst ey
  obtain ⟨tk, rfl⟩ := ry
  refine call_meetsIn PySem.F.slot_dict_get (kd_type D I3) PySem.F.entry_dict_get (PySem.F.args_dict_get_3 _ _ _) (meets_dict_get_default (strKind X.prog X.w) d (PySem.strKind_is X.prog X.w k tk) D.low fv) ⟨_, PySem.W.mapOf_K (prog := X.prog) I3.kIn D.at_ D.lit, ?_⟩
  rw [PySem.W.find_K D.at_ er]
  cases r with
  | some u => exact ⟨v, H3, I3.tok _, g, q3⟩
  | none =>
    subst g
    exact ⟨v, H3, I3.tok _, rz, q3⟩

/-! ### f(k = v, ..), nothing by position -/
theorem pe_callK0 {X : Cx} {CX : CXT} {k : Nat} {f : Addr} {fd : FuncData} {ps ks : List Str} {sp : Sp} {E : XK} {x : Str} {p pos : Pos} {kws : List Keyword} {tk : TA} {g : List Value → List Value → List Value} {gV : List V → List V → List V}
    (F : FnOk X.prog X.w X.K X.mg X.base CX k f fd ps sp) (hr : Room k X.A) (hg : Gl X x) (hm : X.mg x = some (.ref f)) (hk : PySem.W.keepIn X.K (.ref f) = true) (hb : KBinds X.K fd ps ks g gV) (hx : Passes CX X E)
    (hkw : PK X kws tk) (hall : (backToKw pos (keywordEach kws X.env)).all (·.1.isSome) = true := by rfl) (hks : (backToKw pos (keywordEach kws X.env)).filterMap (·.1) = ks := by rfl) (hdb : (x == ("__debug__" : Str)) = false := by decide)
    (hpl : ((backTo pos (starEach [] X.env)).any (·.1) || (backToKw pos (keywordEach kws X.env)).any (·.1.isNone)) = false := by rfl) : PE X (.Call (.Name x p) [] kws pos) (tCallK sp gV E tNil tk) := by
  constructor
  intro pins s σ H Q I h
  refine wpAny_Call_Name_kw (ld_glob I hg hm ?_ hdb)
  refine PySem.W.callWith_KW0 (h₀ := X.base) I.ok.mod.kin hk hall (thn (hkw.run pos pins s σ H _ I h) fun ws s2 ⟨zs, H2, I2, rz, q2⟩ => ⟨I2.kIn, ?_⟩) hpl
  rw [hks]
  exact run_fnk (us := []) (vs := []) F hr hb hx I2 .nil rz q2

/-! ### repr of data -/
def rRepr (K : PySem.W.Frag) : List V → Hp → VK → Prop := fun vs H Q => ∃ a d, vs = [.ref a] ∧ Dp K H (.ref a) d ∧ d.showable = true ∧ d.hasDict = false ∧ d.depth < 1000 ∧ d.shown.length ≤ sizeLine ∧ Q (.str d.shown) H
theorem cr_repr {X : Cx} {k : Nat} (hr : Room k X.A) (hk : 63 ≤ k) (hgu : X.A.guards = some []) : CallR X (.builtin "repr") (rRepr X.K) := by
  intro pins s σ H vs us Q I r h
  obtain ⟨a, d, rfl, hd, h1, h2, h3, h4, q⟩ := h
  obtain ⟨u, rfl, ru⟩ := vals1 r
  cases ru
  obtain ⟨as, R⟩ := Dp.reads I d (.ref a) (.ref a) hd rfl
  have hun := hr.un
  exact repr_of_reads' R h1 (PyData.noDict_hsm h2) hgu (by omega) (fun b o e => e) (fun h' u tk hk => ⟨.str d.shown, H, I.kept hk, ⟨u, rfl⟩, q⟩) h4
end NPK
set_option Elab.async false
set_option linter.all false
set_option maxRecDepth 100000
set_option maxHeartbeats 2000000
namespace NPK
open PySem PySem.Spec PyProof.Rows L2

/-! ### a def that is called where no display is under way (the law's own) -/
/-- its promise, at the around A alone -/
def RunAt (P : Program) (w : World) (K : PySem.W.Frag) (mg : Str → Option Value) (base : Heap) (A : Around) (f : Addr) (fd : FuncData) (ps : List Str) (sp : Sp) : Prop :=
  ∀ (outer : List Env) (s : Shared) (H : Hp) (args : Args) (us : List Value) (vs : List V) (Q : VK) (E : XK), Env0 P w K mg base A outer s H → BindsTo s fd args (ps.zip us) → Vals vs us → sp vs H Q E →
    codeAny (model P w) A (.call (.ref f) args) (CR CX0 outer P w H s Q E) s
theorem run_at {P : Program} {w : World} {K : PySem.W.Frag} {mg : Str → Option Value} {base : Heap} {A : Around} {k : Nat} {x qual : Str} {params : Arguments} {body : List Stmt} {scope : Scope} {f : Addr} {fd : FuncData} {N ps : List Str} {sp : Sp}
    (F : FunD K x qual params body scope [] [] f fd) (S : FnScope N ps scope) (len : ∀ vs H Q E, sp vs H Q E → vs.length = ps.length) (hr : Room (k + 1) A)
    (hbody : ∀ (cdv : Value) (outer : List Env) (s : Shared) (H : Hp) (vs : List V) (Q : VK) (E : XK), Room k (A.deeper (envOfC qual scope s.heap.objs.size f cdv)) → sp vs H Q E →
      ∃ t, PSs (cxOf CX0 P w K mg base N qual scope f cdv A outer s H E) body t ∧ t { nx := fun _ H' => Q .non H', rt := Q } (start N vs) H) : RunAt P w K mg base A f fd ps sp := by
  obtain ⟨oc, od, dV, kV, doc, pm, an, cdv, ct, osl, rfl, lk, hcd, _, _⟩ := F.ex
  intro outer s H args us vs Q E e0 hb r hsp
  have hl := len _ _ _ _ hsp
  have KX : K.In s.heap := e0.mod.kin.keeps fun b o e => (e0.bs b o e).1
  have lim : s.heap.NoLimit := e0.mod.nolimit.keeps fun b o e => (e0.bs b o e).1
  have hkind : ∀ y ∈ ps.zip us, scope.names.lookup y.1 = some .local ∨ (scope.names.lookup y.1 = some .cell ∧ ((cellsFrom (s.heap.objs.size + 1) scope.names []).lookup y.1).isSome = true) := fun ⟨n, v⟩ hy => by
    rcases S.par n (List.of_mem_zip hy).1 with q | q
    · exact .inl q
    · exact .inr ⟨q, PySem.W.cellsFrom_some _ _ _ (.inl q)⟩
  refine codeAny_call_function hr.depth (KX _ _ lk) rfl S.co S.gen rfl (PySem.W.codeRec_of KX hcd) (hb _ _ _ _ ?_)
  refine wpAny_newFunctionEnv_cells S.kind hkind fun env he s1 x => ?_
  subst he
  refine ⟨lim.keeps x.toInCall.keep, codeAny_func ?_⟩
  obtain ⟨t, ht, hq⟩ := hbody cdv outer s H vs Q E (hr.deeper _) hsp
  have I : Inv (cxOf CX0 P w K mg base N qual scope f cdv A outer s H E) [] (start N vs) H s1 := inv_start S hr.hd e0 hl r x
  refine wpAny_mono (ht.run [] s1 (start N vs) H _ I hq) (fun fl s' hs => ?_) fun e s' hs => hs
  have fin : ∀ {σ' : L2.St} {H' : Hp} {v : V} {u : Value}, Inv (cxOf CX0 P w K mg base N qual scope f cdv A outer s H E) [] σ' H' s' → RelV v u → Q v H' → CE outer P w H s Q u s' :=
    fun {σ' H' v u} J rv q => ⟨v, H', J.os, J.bare, J.base, J.hok, rv, q⟩
  cases fl with
  | ret u =>
    obtain ⟨v, σ', H', J, rv, q⟩ := hs
    exact fin J rv q
  | next =>
    obtain ⟨σ', H', J, q⟩ := hs
    exact fin (v := V.non) (u := Value.none) J rfl q
  | brk =>
    obtain ⟨_, _, _, q⟩ := hs
    exact False.elim q
  | cont =>
    obtain ⟨_, _, _, q⟩ := hs
    exact False.elim q

/-- the law's call, from its run at the caller -/
theorem law_runs {P : Program} {w : World} {K : PySem.W.Frag} {mg mb : Str → Option Value} {fa a : Addr} {fd : FuncData} {x : Str} {sp : Sp} {s1 : Shared} {vs : List Value} {ns : List Int}
    (KX : K.In s1.heap) (hns : s1.heap.Ns mainGlobals mg) (hb : s1.heap.Ns builtinsNs mb) (hbb : ∀ x : Str, x ≠ "__name__" → mb x = bootBuiltins x) (hlim : s1.heap.NoLimit) (hg : s1.gens = #[])
    (ha : s1.heap.get? a = some { cls := .type "list", data := .seq vs.toArray }) (hi : IntsAre vs ns) (hl : ns.length ≤ sizeLine)
    (F : ∀ base : Heap, K.In base → base.Ns mainGlobals mg → RunAt P w K mg base callerA fa fd [x] sp) (hbind : ∀ (s : Shared) (u : Value), BindsTo s fd ⟨[u], []⟩ [(x, u)])
    (hsp : ∀ H : Hp, Only H → SqL K H a (ns.map V.int) → sp [.ref a] H (fun v _ => v = .bl true) fun _ _ _ => False) :
    codeAny (model P w) callerA (.call (.ref fa) ⟨[.ref a], []⟩) (fun r s' => r = .ok (.ret (.bool true)) ∧ OldK s1.heap s'.heap ∧ s'.os = s1.os ∧ AllBare s'.gens) s1 := by
  have rv := L2.vals_ints hi
  have lenV := hi.length
  have core : ∀ H : Hp, Only H → SqL K H a (ns.map V.int) → HOk P w H s1.heap → (∀ b, H b ≠ none → b = a) → (H a ≠ none → K.lookup a = none) →
      codeAny (model P w) callerA (.call (.ref fa) ⟨[.ref a], []⟩) (fun r s' => r = .ok (.ret (.bool true)) ∧ OldK s1.heap s'.heap ∧ s'.os = s1.os ∧ AllBare s'.gens) s1 := by
    intro H hO hS hok hA hK
    have some_a : ∀ {b : Addr} {u : HO}, H b = some u → b = a := fun {b u} q => hA b (by rw [q]; simp)
    have noA : ∀ {b : Addr} {o : Obj} {es : Array DictEntry} {ep : Nat}, s1.heap.get? b = some o → o.data = .dict es ep → H b = none := fun {b o es ep} e d => by
      cases q : H b with
      | none => rfl
      | some u =>
        have e' := some_a q
        subst e'
        rw [ha] at e
        cases e
        have d' : Data.seq vs.toArray _ = Data.dict es ep := d
        cases d'
    have nsK : ∀ {b : Addr} {m : Str → Option Value}, s1.heap.Ns b m → (hidT s1.heap H).Ns b m := fun {b m} z => by
      obtain ⟨o, es, ep, e, d, r⟩ := z
      exact ⟨o, es, ep, hidT_get e (noA e d), d, r⟩
    have hKb : K.In (hidT s1.heap H) := fun b o e => hidT_get (KX b o e) (by
      cases q : H b with
      | none => rfl
      | some u =>
        have e' := some_a q
        subst e'
        rw [hK (by rw [q]; simp)] at e
        cases e)
    have hM : Mod K mg (hidT s1.heap H) := ⟨hKb, nsK hns, ⟨mb, nsK hb, hbb⟩, let ⟨mc, h1, h2⟩ := hlim; ⟨mc, nsK h1, h2⟩⟩
    have e0 : Env0 P w K mg (hidT s1.heap H) callerA [] s1 H := ⟨rfl, hM, fun b o e => of_hidT e, Nat.le_of_eq (hidT_size _ _), trivial, fun b hb => absurd (show b ∈ ([] : List Addr) from hb) (by simp), hok, .of_eq hg⟩
    refine codeAny_mono (F _ hKb (nsK hns) [] s1 H ⟨[.ref a], []⟩ [.ref a] [.ref a] _ _ e0 (hbind s1 (.ref a)) (.cons rfl .nil) (hsp H hO hS)) fun r s' h => ?_
    cases r with
    | error e => exact False.elim h
    | ok fl =>
      cases fl with
      | next => exact False.elim h
      | brk => exact False.elim h
      | cont => exact False.elim h
      | ret u =>
        obtain ⟨v, H', os, bare, un, hok', r', q⟩ := h
        have q' : v = .bl true := q
        subst q'
        obtain rfl : u = Value.bool true := r'
        refine ⟨rfl, OldK.of_keep fun b o e => ?_, os, bare⟩
        cases q : H b with
        | none => exact un.keep b o e q (by intro z; exact absurd (show b ∈ ([] : List Addr) from z) (by simp)) (by simp)
        | some u =>
          rcases hO b with z | ⟨ob, xs, z⟩
          · rw [q] at z
            cases z
          · obtain ⟨e1, _⟩ := hok b _ z
            obtain ⟨e2, _⟩ := hok' b _ (un.frzs b ob _ z)
            rw [e] at e1
            cases e1
            exact e2
  cases hk : K.lookup a with
  | some o =>
    have e := KX a o hk
    rw [ha] at e
    cases e
    refine core (fun _ => none) (fun _ => .inl rfl) (.inr ⟨_, vs.toArray, _, hk, rfl, rfl, rfl, by rw [List.size_toArray, lenV]; exact hl, by simpa using rv⟩) (fun b u z => by have z' : (none : Option HO) = some u := z; cases z') (fun b z => absurd rfl z) fun z => absurd rfl z
  | none =>
    refine core (fun b => if b = a then some (.frz { cls := .type "list", data := .seq vs.toArray } (.lst (ns.map V.int))) else none) (fun b => ?_) (.inl (.inr ⟨{ cls := .type "list", data := .seq vs.toArray }, if_pos rfl⟩)) (fun b u z => ?_) (fun b z => ?_) fun _ => hk
    · by_cases hb : b = a
      · exact .inr ⟨_, _, if_pos hb⟩
      · exact .inl (if_neg hb)
    · by_cases hb : b = a
      · have z' := (if_pos hb).symm.trans z
        cases z'
        subst hb
        exact ⟨ha, by rw [List.length_map]; exact hl, vs, _, rv, ha⟩
      · have z' := (if_neg hb).symm.trans z
        cases z'
    · by_cases hb : b = a
      · exact hb
      · exact absurd (if_neg hb) z

/-- the end of the row, from the law's run -/
theorem walk_runs {l : PySem.W.OpenLaw} {n : Nat} {q : Program} {loose : List Str} {XP : (Str → Option Value) → Heap → Prop} {YP : World → Heap → Prop} {d : DefRec} {x : Str}
    (hn : l.most = some n) (hn2 : n ≤ sizeLine) (hdf : d.params.defaults = [])
    (F : ∀ (w : World) (mg : Str → Option Value) (fa : Addr) (h : Heap), YP w h → h.Ns mainGlobals mg → mg d.name = some (.ref fa) →
      ∃ (K : PySem.W.Frag) (fd : FuncData) (sp : Sp), K.In h ∧ (∀ (s : Shared) (u : Value), BindsTo s fd ⟨[u], []⟩ [(x, u)]) ∧
        (∀ (H : Hp) (a : Addr) (ns : List Int), ns.length ≤ n → Only H → SqL K H a (ns.map V.int) → sp [.ref a] H (fun v _ => v = .bl true) fun _ _ _ => False) ∧
        ∀ base : Heap, K.In base → base.Ns mainGlobals mg → RunAt l.prog w K mg base callerA fa fd [x] sp) :
    PySem.W.WalkO q loose XP YP l.row.toRowW d [] (fun f vs => PySem.call f vs) := by
  refine Att.attach_call hn hdf fun w s0 s1 mg mb fa o pm cd doc a vs ns G Y ho hd hcd hmg hobj hints hlen hg => ?_
  obtain ⟨K, fd, sp, KX, hb, hsp, hF⟩ := F w mg fa _ Y G.T.g hmg
  exact law_runs KX G.T.g G.T.b G.T.builtins G.T.nolimit hg hobj hints (Nat.le_trans hlen hn2) hF hb fun H hO hS => hsp H a ns hlen hO hS
end NPK
set_option Elab.async false
set_option linter.all false
set_option maxRecDepth 100000
set_option maxHeartbeats 2000000
namespace NPK
open PySem PySem.Spec PyProof.Rows L2

/-! ### the text by places -/
def top (i : Nat) : Stmt := PySem.Challenge.pw_narrowplay_k15_whole_loops_and_procedure.main.body.getD i (.Pass ⟨0, 0, 0, 0⟩)
/-- a def of the top as it stands behind the top -/
def Df (K : PySem.W.Frag) (mg : Str → Option Value) (x : Str) (st : Stmt) : Prop := ∃ f fd, FunD K x x (defArgs st) (defBody st) (defScope st) [] [] f fd ∧ mg x = some (.ref f)
/-- a def that keeps its promise, called by name -/
def Fk (P : Program) (w : World) (K : PySem.W.Frag) (mg : Str → Option Value) (base : Heap) (x : Str) (k : Nat) (ps : List Str) (sp : Sp) : Prop :=
  ∃ f fd, FnOk P w K mg base CX0 k f fd ps sp ∧ mg x = some (.ref f) ∧ PySem.W.keepIn K (.ref f) = true ∧ Binds K fd ps []
section
variable {P : Program} {w : World} {K : PySem.W.Frag} {mg : Str → Option Value} {base : Heap} {x : Str} {st : Stmt}
theorem Df.fk {N ps : List Str} {k : Nat} {sp : Sp} (D : Df K mg x st) (S : FnScope N ps (defScope st)) (len : ∀ vs H Q E, sp vs H Q E → vs.length = ps.length)
    (hb : ∀ (kV doc pm : Value) (an : Option Addr) (cdv ct : Value) (us : List Value), us.length = ps.length → bindArgs (PySem.W.fnOf x x (defArgs st) (defBody st) (defScope st) .none kV doc pm an cdv ct) ⟨us, []⟩ = pure (ps.zip us))
    (hbody : ∀ (f : Addr) (cdv : Value) (A : Around) (outer : List Env) (s : Shared) (H : Hp) (vs : List V) (Q : VK) (E : XK), Room k (A.deeper (envOfC x (defScope st) s.heap.objs.size f cdv)) → sp vs H Q E →
      ∃ t, PSs (cxOf CX0 P w K mg base N x (defScope st) f cdv A outer s H E).nox (defBody st) t ∧ t { nx := fun _ H' => Q .non H', rt := Q } (start N vs) H) : Fk P w K mg base x (k + 1) ps sp := by
  obtain ⟨f, fd, F, hm⟩ := D
  refine ⟨f, fd, F.ok S len fun cdv A outer s H vs Q E hr h => ?_, hm, F.kp, F.bindsN hb⟩
  obtain ⟨t, h1, h2⟩ := hbody f cdv A outer s H vs Q E hr h
  exact ⟨t, h1.nox, h2⟩
theorem Fk.mono {j k : Nat} {ps : List Str} {sp : Sp} (F : Fk P w K mg base x j ps sp) (h : j ≤ k) : Fk P w K mg base x k ps sp := by
  obtain ⟨f, fd, F, r⟩ := F
  exact ⟨f, fd, F.mono h, r⟩
theorem Fk.imp {k : Nat} {ps : List Str} {sp sp' : Sp} (F : Fk P w K mg base x k ps sp) (h : ∀ vs H Q E, sp' vs H Q E → sp vs H Q E) : Fk P w K mg base x k ps sp' := by
  obtain ⟨f, fd, F, r⟩ := F
  exact ⟨f, fd, F.imp h, r⟩
end
section
variable {X : Cx} {x : Str} {p pos : Pos} {e : Expr} {es : List Expr} {t : TA} {k : Nat} {ps : List Str} {sp : Sp}
theorem pe_f (F : Fk X.prog X.w X.K X.mg X.base x k ps sp) (hr : Room k X.A) (hg : Gl X x) (ha : PA X (e :: es) t) (hd : (x == ("__debug__" : Str)) = false := by decide)
    (he : starEach (e :: es) X.env = (false, eval e X.env) :: starEach es X.env := by rfl) (hpl : (backTo pos (starEach es X.env)).any (·.1) = false := by rfl) : PE X (.Call (.Name x p) (e :: es) [] pos) (tCall sp [] E0 t) := by
  obtain ⟨f, fd, F, hm, hk, hb⟩ := F
  exact pe_call F hr hg hm hk hb .nil pass0 ha hd he hpl
/-- a module's name -/
theorem pe_gs {z : Str} (hg : Gl X x) (h : ∃ t, X.mg x = some (.str z t)) (hd : (x == ("__debug__" : Str)) = false := by decide) : PE X (.Name x pos) (tC (.str z)) := by
  obtain ⟨t, hm⟩ := h
  exact pe_glob hg hm ⟨_, rfl⟩ hd
theorem pe_gi {i : Int} (hg : Gl X x) (h : ∃ t, X.mg x = some (.int i t)) (hd : (x == ("__debug__" : Str)) = false := by decide) : PE X (.Name x pos) (tC (.int i)) := by
  obtain ⟨t, hm⟩ := h
  exact pe_glob hg hm ⟨_, rfl⟩ hd
theorem pe_gr {a : Addr} (hg : Gl X x) (hm : X.mg x = some (.ref a)) (hd : (x == ("__debug__" : Str)) = false := by decide) : PE X (.Name x pos) (tC (.ref a)) := pe_glob hg hm rfl hd

theorem pe_ty (n : String) (hg : Gl X x) (hm : X.mg x = none) (hv : bootBuiltins x = some (.type n)) (hn : x ≠ "__name__" := by decide) (hd : (x == ("__debug__" : Str)) = false := by decide) : PE X (.Name x pos) (tC (.ty n)) :=
  pe_bltn hg hm hv rfl hn hd

/-! ### isinstance of the few kinds that stand here -/
inductive Isa (K : PySem.W.Frag) (H : Hp) : V → String → Bool → Prop
  | int (i : Int) : Isa K H (.int i) "int" true
  | intb (i : Int) : Isa K H (.int i) "bool" false
  | str (z : Str) : Isa K H (.str z) "str" true
  | tup {a : Addr} {xs : List V} (h : SqT K H a xs) : Isa K H (.ref a) "tuple" true
theorem tyx_tup {K : PySem.W.Frag} {H : Hp} {a : Addr} {xs : List V} (h : SqT K H a xs) : TyX K H (.ref a) (.type "tuple") := by
  rcases h with (h | ⟨o, h⟩) | ⟨o, its, n, h1, h2, _⟩
  · exact .base (.tup h)
  · exact .fTuple h
  · exact .kTuple h1 h2
def rIsa (K : PySem.W.Frag) : List V → Hp → VK → Prop := fun vs H Q => ∃ v T b, vs = [v, .ty T] ∧ Isa K H v T b ∧ Q (.bl b) H
theorem cr_isa : CallR X (.builtin "isinstance") (rIsa X.K) := by
  intro pins s σ H vs us Q I r h
  obtain ⟨v, T, b, rfl, hi, q⟩ := h
  refine call_isi pins s σ H _ us Q I r ?_
  cases hi with
  | int i => exact ⟨_, _, _, _, true, rfl, .ty _, .base (.int i), kit_ty (by decide +kernel), q⟩
  | intb i => exact ⟨_, _, _, _, false, rfl, .ty _, .base (.int i), kit_ty (by decide +kernel), q⟩
  | str z => exact ⟨_, _, _, _, true, rfl, .ty _, .base (.str z), kit_ty (by decide +kernel), q⟩
  | tup h => exact ⟨_, _, _, _, true, rfl, .ty _, tyx_tup h, kit_ty (by decide +kernel), q⟩
end

/-! ### what the top has left -/
def fnamesA : List (Nat × Str) := [(7, "numbered"), (8, "commands_in"), (9, "tests_in"), (12, "is_integer"), (13, "is_from"), (14, "is_tuple"), (15, "is_word_of"), (16, "is_letters"), (17, "is_letter"), (19, "is_player"), (21, "is_poly_value"), (22, "power_of"), (23, "poly_value"), (30, "is_name_value"), (31, "has_word"), (32, "is_part"), (33, "has_parts"), (34, "is_test_value"), (35, "inner_commands"), (36, "are_commands"), (37, "is_size"), (38, "is_procedure"), (39, "is_script_value"), (47, "twice_faults"), (48, "named_parts"), (49, "unknown_faults"), (50, "input_faults")]
def fnamesB : List (Nat × Str) := [(51, "all_faults"), (52, "is_program_value"), (53, "need_program"), (58, "begun_play"), (60, "plain_test_holds"), (61, "test_holds"), (64, "do_index"), (65, "pass_command"), (66, "do_command"), (67, "next_command"), (68, "next_choice"), (70, "followed_play"), (72, "need_picks"), (73, "run"), (74, "state_after"), (76, "_law_deck"), (77, "_law_draw"), (78, "_law_pick"), (79, "_law_value"), (80, "_law_drawn_rounds"), (81, "_law_summed"), (82, "_law_product"), (83, "_law_list_bounds"), (84, "_law_bounds"), (85, "_law_are_bounds_within"), (86, "_law_chain"), (87, "law")]
def fnames : List (Nat × Str) := fnamesA ++ fnamesB
/-- a table of texts to tuples, at a: its rows, some texts that are no keys -/
structure TabAt (K : PySem.W.Frag) (mg : Str → Option Value) (w : World) (x : Str) (a : Addr) (rows : List (Str × List V)) (no : List Str) : Prop where
  mg : mg x = some (.ref a)
  kd : KTab K w a
  rows : ∀ p ∈ rows, ∃ b, PySem.W.nsIn K a p.1 = some (some (.ref b)) ∧ ∀ H, SqT K H b p.2
  no : ∀ z ∈ no, PySem.W.nsIn K a z = some none
def vS (l : List Str) : List V := l.map V.str
def vI (l : List Int) : List V := l.map V.int
/-- the addresses of the tables, the tuple of keywords, the classes and their __init__ -/
structure Ads where
  lp : Addr
  tp : Addr
  cp : Addr
  ta : Addr
  ia : Addr
  wa : Addr
  kw : Addr
  cS : Addr
  iS : Addr
  cP : Addr
  iP : Addr
def kwords : List Str := ["tape", "size", "index", "to", "procedure", "end", "if", "else", "repeat", "do", "one", "two", "chooses", "from", "wins", "is", "equals", "empty", "has", "not", "up", "down", "n"]
structure Txt (K : PySem.W.Frag) (mg : Str → Option Value) (w : World) (a : Ads) : Prop where
  fn : ∀ (j : Nat) (p : Nat × Str), fnames[j]? = some p → Df K mg p.2 (top p.1)
  isinstance : mg "isinstance" = none
  int : mg "int" = none
  bool : mg "bool" = none
  str : mg "str" = none
  tuple : mg "tuple" = none
  all : mg "all" = none
  zip : mg "zip" = none
  list : mg "list" = none
  len : mg "len" = none
  reversed : mg "reversed" = none
  enumerate : mg "enumerate" = none
  range : mg "range" = none
  sum : mg "sum" = none
  min : mg "min" = none
  max : mg "max" = none
  sorted : mg "sorted" = none
  repr : mg "repr" = none
  LETTERS : ∃ t, mg "LETTERS" = some (.str "abcdefghijklmnopqrstuvwxyz" t)
  NAME_SIGNS : ∃ t, mg "NAME_SIGNS" = some (.str "abcdefghijklmnopqrstuvwxyz0123456789_" t)
  INPUT_faultwork : ∃ t, mg "INPUT_faultwork" = some (.str "input" t)
  INPUT_playwork : ∃ t, mg "INPUT_playwork" = some (.str "input" t)
  LONGEST_NAME : ∃ t, mg "LONGEST_NAME" = some (.int 12 t)
  SORTS : ∃ t, mg "SORTS" = some (.int 3 t)
  PROCEDURES : ∃ t, mg "PROCEDURES" = some (.int 2 t)
  LIST_PLACES : TabAt K mg w "LIST_PLACES" a.lp [("if", vI [2, 3]), ("repeat", vI [2])] ["up", "zero", "do", "wins"]
  TEST_PARTS : TabAt K mg w "TEST_PARTS" a.tp [("at", vS ["index", "index"])] []
  COMMAND_PARTS : TabAt K mg w "COMMAND_PARTS" a.cp [("up", vS ["index"]), ("zero", vS ["index"]), ("do", vS ["procedure"]), ("wins", vS ["player"])] []
  TAPES_AT : TabAt K mg w "TAPES_AT" a.ta [] ["up", "zero", "do", "wins", "if", "repeat", "at"]
  INDEXES_AT : TabAt K mg w "INDEXES_AT" a.ia [("up", vI [1]), ("zero", vI [1]), ("at", vI [1, 2])] ["do", "wins", "if", "repeat"]
  WRITTEN_AT : TabAt K mg w "WRITTEN_AT" a.wa [] ["up", "zero", "do", "wins", "if", "repeat", "at"]
  KEYWORDS : mg "KEYWORDS" = some (.ref a.kw)
  kws : ∀ H, SqT K H a.kw (vS kwords)
  clS : Cls K a.cS
  mgS : mg "PlayStage" = some (.ref a.cS)
  mkS : Mk K a.cS a.iS
  fnS : ∃ fd, FunD K "__init__" "PlayStage.__init__" (defArgs (inClass (top 56) 0)) (defBody (inClass (top 56) 0)) (defScope (inClass (top 56) 0)) [] [] a.iS fd
  noS : ∀ x ∈ (["length", "sizes", "bounds", "bodies"] : List Str), NoAttr K a.cS x
  clP : Cls K a.cP
  mgP : mg "PlayState" = some (.ref a.cP)
  mkP : Mk K a.cP a.iP
  fnP : ∃ fd, FunD K "__init__" "PlayState.__init__" (defArgs (inClass (top 57) 0)) (defBody (inClass (top 57) 0)) (defScope (inClass (top 57) 0)) [] [] a.iP fd
  noP : ∀ x ∈ (["stage", "held", "numbers", "pile", "steps", "champion"] : List Str), NoAttr K a.cP x
end NPK
set_option Elab.async false
set_option linter.all false
set_option maxRecDepth 100000
set_option maxHeartbeats 0
namespace NPK
open PySem PySem.Spec PyProof.Rows L2
/-! ### the head: facts by names, the run -/
def dF (p : Nat × Str) : He.DefD := ⟨(p.2, none), p.2, p.2, defArgs (top p.1), defBody (top p.1), defScope (top p.1), [], []⟩
def dS : He.DefD := ⟨("PlayStage", some "__init__"), "__init__", "PlayStage.__init__", defArgs (inClass (top 56) 0), defBody (inClass (top 56) 0), defScope (inClass (top 56) 0), [], []⟩
def dP : He.DefD := ⟨("PlayState", some "__init__"), "__init__", "PlayState.__init__", defArgs (inClass (top 57) 0), defBody (inClass (top 57) 0), defScope (inClass (top 57) 0), [], []⟩
def hFn : List He.DefD := [dS, dP] ++ fnames.map dF
def hFb : List He.Fa := [.glo "LIST_PLACES", .glo "TEST_PARTS", .glo "COMMAND_PARTS", .glo "TAPES_AT", .glo "INDEXES_AT", .glo "WRITTEN_AT", .glo "KEYWORDS", .glo "PlayStage", .glo "PlayState", .free "isinstance", .free "int", .free "bool", .free "str", .free "tuple", .free "all", .free "zip", .free "list", .free "len", .free "reversed", .free "enumerate", .free "range", .free "sum", .free "min", .free "max", .free "sorted", .free "repr", .str "LETTERS" "abcdefghijklmnopqrstuvwxyz", .str "NAME_SIGNS" "abcdefghijklmnopqrstuvwxyz0123456789_", .str "INPUT_faultwork" "input", .str "INPUT_playwork" "input", .int "LONGEST_NAME" 12, .int "SORTS" 3, .int "PROCEDURES" 2, .cls "PlayStage", .mkr "PlayStage", .noat "PlayStage" "length", .noat "PlayStage" "sizes", .noat "PlayStage" "bounds", .noat "PlayStage" "bodies", .cls "PlayState", .mkr "PlayState", .noat "PlayState" "stage", .noat "PlayState" "held", .noat "PlayState" "numbers", .noat "PlayState" "pile", .noat "PlayState" "steps", .noat "PlayState" "champion"]
def hFa : List He.Fa := fnames.map (fun p => He.Fa.glo p.2) ++ hFb
def hTs : List He.Tab := [(fun K => He.ga K "LIST_PLACES", ["if", "repeat"]), (fun K => He.ga K "TEST_PARTS", ["is", "equal", "empty", "inside", "at"]), (fun K => He.ga K "COMMAND_PARTS", ["set", "copy", "clear", "zero", "up", "down", "same", "do", "choose", "wins"]), (fun K => He.ga K "TAPES_AT", ["set", "copy", "clear", "choose", "is", "equal", "empty", "inside"]), (fun K => He.ga K "INDEXES_AT", ["set", "copy", "clear", "choose", "zero", "up", "down", "same", "is", "equal", "empty", "inside", "at"]), (fun K => He.ga K "WRITTEN_AT", ["set", "copy", "clear", "choose"])]
/-- a row of a table: a text, the flat values of the tuple there -/
def rowB (K : PySem.W.Frag) (x : Str) (r : Str × List V) : Bool := match PySem.W.nsIn K (He.ga K x) r.1 with
  | some (some (.ref b)) => (match K.lookup b with
    | some ⟨.type c, _, .seq its _, _⟩ => decide (c = "tuple") && (decide (its.size ≤ sizeLine) && He.relAll r.2 its.toList)
    | _ => false)
  | _ => false
def noB (K : PySem.W.Frag) (x z : Str) : Bool := decide (PySem.W.nsIn K (He.ga K x) z = some none)
theorem rowB_ok {K : PySem.W.Frag} {x : Str} {r : Str × List V} (h : rowB K x r = true) : ∃ b, PySem.W.nsIn K (He.ga K x) r.1 = some (some (.ref b)) ∧ ∀ H, SqT K H b r.2 := by
  unfold rowB at h
  cases e : PySem.W.nsIn K (He.ga K x) r.1 with
  | none =>
    rw [e] at h
    cases h
  | some u =>
    rw [e] at h
    cases u with
    | none => cases h
    | some v =>
      cases v with
      | ref b =>
        refine ⟨b, rfl, fun H => ?_⟩
        have h : (match K.lookup b with
          | some ⟨.type c, _, .seq its _, _⟩ => decide (c = "tuple") && (decide (its.size ≤ sizeLine) && He.relAll r.2 its.toList)
          | _ => false) = true := h
        cases q : K.lookup b with
        | none =>
          rw [q] at h
          cases h
        | some o =>
          obtain ⟨oc, od, dt, osl⟩ := o
          rw [q] at h
          cases oc with
          | type c =>
            cases dt with
            | seq its n =>
              obtain ⟨h1, h2⟩ := He.ba h
              obtain ⟨h3, h4⟩ := He.ba h2
              exact .inr ⟨_, its, n, q, congrArg Value.type (of_decide_eq_true h1), rfl, of_decide_eq_true h3, He.relAll_ok h4⟩
            | _ => cases h
          | _ => cases dt <;> cases h
      | _ => cases h
def kwD : List He.Dv := kwords.map He.Dv.str
def exL (K : PySem.W.Frag) : List Bool := [([("if", vI [2, 3]), ("repeat", vI [2])] : List (Str × List V)).all (rowB K "LIST_PLACES"), (["up", "zero", "do", "wins"] : List Str).all (noB K "LIST_PLACES"), ([("at", vS ["index", "index"])] : List (Str × List V)).all (rowB K "TEST_PARTS"), ([] : List Str).all (noB K "TEST_PARTS"), ([("up", vS ["index"]), ("zero", vS ["index"]), ("do", vS ["procedure"]), ("wins", vS ["player"])] : List (Str × List V)).all (rowB K "COMMAND_PARTS"), ([] : List Str).all (noB K "COMMAND_PARTS"), ([] : List (Str × List V)).all (rowB K "TAPES_AT"), (["up", "zero", "do", "wins", "if", "repeat", "at"] : List Str).all (noB K "TAPES_AT"), ([("up", vI [1]), ("zero", vI [1]), ("at", vI [1, 2])] : List (Str × List V)).all (rowB K "INDEXES_AT"), (["do", "wins", "if", "repeat"] : List Str).all (noB K "INDEXES_AT"), ([] : List (Str × List V)).all (rowB K "WRITTEN_AT"), (["up", "zero", "do", "wins", "if", "repeat", "at"] : List Str).all (noB K "WRITTEN_AT"), He.tupB K "KEYWORDS" kwD]
def hEx (K : PySem.W.Frag) : Bool := (exL K).all id
abbrev R : PySem.W.OpenRow := PySem.W.OpenLaw.row PySem.Challenge.rw_narrowplay_k15_whole_loops_and_procedure
abbrev qv : Program := PySem.W.view R.prog [87]
abbrev hk : PySem.W.Hook := He.hookX 5 hFa hFn hTs [] hEx
def ob (s : PySem.W.SharedT) : He.AlX := He.obsX 5 hFa hFn hTs [] hEx (HandSHeadRun.getT s)
theorem ob_eq (s : PySem.W.SharedT) : ob s = hk.obs s.abs := He.obsX_eq (HandSHeadRun.getT_eq s)

def names1 : List PySem.Str := ["PlayError", "BadWord", "BadProgram", "BadPicks", "LIST_PLACES", "numbered", "commands_in", "tests_in", "LETTERS", "is_integer", "is_from", "is_tuple", "is_word_of", "is_letters", "is_letter", "is_ascending_letters", "is_player", "is_poly_value", "power_of", "poly_value", "LONGEST_NAME", "NAME_SIGNS", "KEYWORDS", "TEST_PARTS", "COMMAND_PARTS"]
def names2 : List PySem.Str := ["is_name_value", "has_word", "is_part", "has_parts", "is_test_value", "inner_commands", "are_commands", "is_size", "is_procedure", "is_script_value", "INPUT_faultwork", "SORTS", "PROCEDURES", "TAPES_AT", "INDEXES_AT", "WRITTEN_AT", "twice_faults", "named_parts", "unknown_faults", "input_faults", "all_faults", "is_program_value", "need_program"]
def names3 : List PySem.Str := ["INPUT_playwork", "PlayStage", "PlayState", "begun_play", "cell_number", "plain_test_holds", "test_holds", "put_cell", "do_cells", "do_index", "pass_command", "do_command", "next_command", "next_choice", "make_choice", "followed_play", "need_picks", "run", "state_after", "_law_deck", "_law_draw", "_law_pick", "_law_value", "_law_drawn_rounds", "_law_summed", "_law_product", "_law_list_bounds", "_law_bounds", "_law_are_bounds_within", "_law_chain"]
def names : List PySem.Str := names1 ++ names2 ++ names3


theorem run0 (w : World) : HandSHeadRun.RunEq R qv hk ob 6000 names (w.withFollow "special-get-raises" false) := by
  intro os
  kernel_rfl
theorem run1 (w : World) : HandSHeadRun.RunEq R qv hk ob 6000 names (w.withFollow "special-get-raises" true) := by
  intro os
  kernel_rfl
theorem run (w : World) : HandSHeadRun.RunEq R qv hk ob 6000 names w := PySem.W.byRow2 "special-get-raises" (P := fun w => HandSHeadRun.RunEq R qv hk ob 6000 names w) run0 run1 w

end NPK
set_option Elab.async false
set_option linter.all false
set_option maxRecDepth 100000
set_option maxHeartbeats 2000000
namespace NPK
open PySem PySem.Spec PyProof.Rows L2

/-! ### the rules again, the written part named (a comprehension's block has it too) -/
section
variable {X : Cx}
theorem ixT (K : PySem.W.Frag) (h : X.K = K) : IxR X (rIxT K) := h ▸ ix_tup
theorem ixL (K : PySem.W.Frag) (h : X.K = K) : IxR X (rIxL K) := h ▸ ix_list
theorem lenS (K : PySem.W.Frag) (h : X.K = K) : CallR X (.builtin "len") (fun xs H Q => ∃ p ys, xs = [.ref p] ∧ (SqL K H p ys ∨ SqT K H p ys) ∧ Q (.int ys.length) H) := h ▸ call_len_seq
theorem slT (K : PySem.W.Frag) (h : X.K = K) : SlR X (rSlA K) := h ▸ sl_tupA
theorem slL (K : PySem.W.Frag) (h : X.K = K) : SlR X (rSlL K) := h ▸ sl_list
theorem inS (K : PySem.W.Frag) (h : X.K = K) : OpR X (compareOp .In) (rIn K false) := h ▸ op_in_seq
theorem niS (K : PySem.W.Frag) (h : X.K = K) : OpR X (compareOp .NotIn) (rIn K true) := h ▸ op_notIn_seq
theorem catT (K : PySem.W.Frag) (h : X.K = K) : OpR X (binaryOp .Add) (rCatA K) := h ▸ op_catA
theorem isA (K : PySem.W.Frag) (h : X.K = K) : CallR X (.builtin "isinstance") (rIsa K) := h ▸ cr_isa
theorem allB (K : PySem.W.Frag) (h : X.K = K) (hc : X.calm = true) : CallR X (.builtin "all") (rAll K) := h ▸ cr_all hc
theorem eqD (K : PySem.W.Frag) (h : X.K = K) (hu : X.A.units + 64 < cLine) : OpR X (compareOp .Eq) (rEqD K) := h ▸ op_eqD hu
theorem neD (K : PySem.W.Frag) (h : X.K = K) (hu : X.A.units + 64 < cLine) : OpR X (compareOp .NotEq) (rNeD K) := h ▸ op_neD hu
theorem sumI (K : PySem.W.Frag) (h : X.K = K) (hc : X.calm = true) : CallR X (.builtin "sum") (rSum K) := h ▸ cr_sum hc
theorem pgT {es : List Expr} {k : Nat} {pos : Pos} {t : TGs} {n : Nat} (K : PySem.W.Frag) (hK : X.K = K) (hc : X.calm = true) (h : PGs X es t)
    (hn : (assignEach es X.env).length = n := by rfl) (hst : (assignEach es X.env).findIdx? (·.1) = none := by rfl) : PG X (.Tuple es k pos) (gTup K n t) := hK ▸ pg_tup hc h hn hst
end
/-! ### heaps that grow -/
theorem same_new {H : Hp} {p : Addr} {o : HO} (h : H p = none) : Same H (upd H p o) := fun b u e => by
  rw [upd_ne (ne_of_none e h)]
  exact e
/-- a change at an address that the first heap does not know -/
theorem _root_.L2.Same.upd {H H' : Hp} {p : Addr} {o : HO} (s : Same H H') (h : H p = none) : Same H (L2.upd H' p o) := fun b u e => by
  rw [upd_ne (ne_of_none e h)]
  exact s b u e
theorem _root_.L2.Same.new {H H' : Hp} {p : Addr} {o : HO} (s : Same H H') (h : H' p = none) : Same H (L2.upd H' p o) := s.trans (same_new h)
theorem _root_.L2.Same.rd {H H' : Hp} {a : Addr} {u : HO} (s : Same H H') (h : Rd H a u) : Rd H' a u := by
  rcases h with h | ⟨o, h⟩
  · exact .inl (s _ _ h)
  · exact .inr ⟨o, s _ _ h⟩
theorem _root_.L2.Same.tq {K : PySem.W.Frag} {H H' : Hp} {a : Addr} {xs : List V} (s : Same H H') (h : SqT K H a xs) : SqT K H' a xs := by
  rcases h with h | h
  · exact .inl (s.rd h)
  · exact .inr h
/-- the tuples stay (locked ones too) -/
def Kept (H H' : Hp) : Prop := (∀ b xs, H b = some (.tup xs) → H' b = some (.tup xs)) ∧ ∀ b o u, H b = some (.frz o u) → H' b = some (.frz o u)
theorem Kept.refl (H : Hp) : Kept H H := ⟨fun _ _ h => h, fun _ _ _ h => h⟩
theorem Kept.trans {H H1 H2 : Hp} (a : Kept H H1) (b : Kept H1 H2) : Kept H H2 := ⟨fun c xs h => b.1 c xs (a.1 c xs h), fun c o u h => b.2 c o u (a.2 c o u h)⟩
theorem _root_.L2.Same.kept {H H' : Hp} (s : Same H H') : Kept H H' := ⟨fun b xs h => s b _ h, fun b o u h => s b _ h⟩
/-- a list, a dict, an instance written keeps them -/
theorem Kept.write {H H' : Hp} {p : Addr} {o u : HO} (s : Kept H H') (h : H' p = some o) (hm : Mut (some o)) : Kept H (L2.upd H' p u) := by
  refine ⟨fun b xs e => ?_, fun b ob v e => ?_⟩
  · have e' := s.1 b xs e
    rw [upd_ne (by rintro rfl; rw [e'] at h; cases h; exact hm)]
    exact e'
  · have e' := s.2 b ob v e
    rw [upd_ne (by rintro rfl; rw [e'] at h; cases h; exact hm)]
    exact e'
theorem Kept.new {H H' : Hp} {p : Addr} {o : HO} (s : Kept H H') (h : H' p = none) : Kept H (L2.upd H' p o) := s.trans (same_new h).kept
theorem Kept.tq {K : PySem.W.Frag} {H H' : Hp} {a : Addr} {xs : List V} (s : Kept H H') (h : SqT K H a xs) : SqT K H' a xs := by
  rcases h with (h | ⟨o, h⟩) | h
  · exact .inl (.inl (s.1 _ _ h))
  · exact .inl (.inr ⟨o, s.2 _ _ _ h⟩)
  · exact .inr h

/-! ### data that stays: tuples of tuples -/
mutual
inductive Tp (K : PySem.W.Frag) (H : Hp) : V → PyData → Prop
  | non : Tp K H .non .none
  | int (i : Int) : Tp K H (.int i) (.int i)
  | str (z : Str) : Tp K H (.str z) (.str z)
  | tup {a : Addr} {xs : List V} {ds : List PyData} (h : SqT K H a xs) (r : TpAll K H xs ds) : Tp K H (.ref a) (.tuple ds)
inductive TpAll (K : PySem.W.Frag) (H : Hp) : List V → List PyData → Prop
  | nil : TpAll K H [] []
  | cons {v : V} {vs : List V} {d : PyData} {ds : List PyData} (h : Tp K H v d) (r : TpAll K H vs ds) : TpAll K H (v :: vs) (d :: ds)
end
section
variable {K : PySem.W.Frag} {H H' : Hp} {v : V} {xs ys : List V} {d : PyData} {ds es : List PyData}
mutual
theorem tp_kept (s : Kept H H') : ∀ (d : PyData) (v : V), Tp K H v d → Tp K H' v d
  | .none, _, h => by cases h; exact .non
  | .bool b, _, h => by cases h
  | .int i, _, h => by cases h; exact .int i
  | .str z, _, h => by cases h; exact .str z
  | .tuple ds, _, h => by
    cases h with
    | tup h1 h2 => exact .tup (s.tq h1) (tpa_kept s ds _ h2)
  | .list ds, _, h => by cases h
  | .dict _, _, h => by cases h
theorem tpa_kept (s : Kept H H') : ∀ (ds : List PyData) (vs : List V), TpAll K H vs ds → TpAll K H' vs ds
  | [], _, h => by cases h; exact .nil
  | d :: ds, _, h => by
    cases h with
    | cons h1 h2 => exact .cons (tp_kept s d _ h1) (tpa_kept s ds _ h2)
end
mutual
theorem tp_dp : ∀ (d : PyData) (v : V), Tp K H v d → Dp K H v d
  | .none, _, h => by cases h; exact .non
  | .bool b, _, h => by cases h
  | .int i, _, h => by cases h; exact .int i
  | .str z, _, h => by cases h; exact .str z
  | .tuple ds, _, h => by
    cases h with
    | tup h1 h2 => exact .tup h1 (tpa_dp ds _ h2)
  | .list ds, _, h => by cases h
  | .dict _, _, h => by cases h
theorem tpa_dp : ∀ (ds : List PyData) (vs : List V), TpAll K H vs ds → DpAll K H vs ds
  | [], _, h => by cases h; exact .nil
  | d :: ds, _, h => by
    cases h with
    | cons h1 h2 => exact .cons (tp_dp d _ h1) (tpa_dp ds _ h2)
end
theorem Tp.kept (h : Tp K H v d) (s : Kept H H') : Tp K H' v d := tp_kept s d v h
theorem TpAll.kept (h : TpAll K H xs ds) (s : Kept H H') : TpAll K H' xs ds := tpa_kept s ds xs h
theorem Tp.same (h : Tp K H v d) (s : Same H H') : Tp K H' v d := h.kept s.kept
theorem TpAll.same (h : TpAll K H xs ds) (s : Same H H') : TpAll K H' xs ds := h.kept s.kept
theorem tp_int {i : Int} (h : Tp K H v (.int i)) : v = .int i := by cases h; rfl
theorem tp_str {z : Str} (h : Tp K H v (.str z)) : v = .str z := by cases h; rfl
theorem tp_tup (h : Tp K H v (.tuple ds)) : ∃ a xs, v = .ref a ∧ SqT K H a xs ∧ TpAll K H xs ds := by
  cases h with
  | tup h1 h2 => exact ⟨_, _, rfl, h1, h2⟩
theorem tpa_nil (h : TpAll K H xs []) : xs = [] := by cases h; rfl
theorem tpa_cons (h : TpAll K H xs (d :: ds)) : ∃ x r, xs = x :: r ∧ Tp K H x d ∧ TpAll K H r ds := by
  cases h with
  | cons h1 h2 => exact ⟨_, _, rfl, h1, h2⟩
theorem TpAll.len : ∀ {xs : List V} {ds : List PyData}, TpAll K H xs ds → xs.length = ds.length
  | [], [], _ => rfl
  | _ :: _, _ :: _, .cons _ r => congrArg (· + 1) (TpAll.len r)
theorem TpAll.get : ∀ {xs : List V} {ds : List PyData}, TpAll K H xs ds → ∀ {i : Nat} {d : PyData}, ds[i]? = some d → ∃ x, xs[i]? = some x ∧ Tp K H x d
  | [], [], _, i, d, e => by simp at e
  | _ :: _, _ :: _, .cons h r, 0, d, e => by
    have e' := Option.some.inj e
    subst e'
    exact ⟨_, rfl, h⟩
  | _ :: _, _ :: _, .cons h r, i + 1, d, e => TpAll.get r (i := i) e
theorem TpAll.at : ∀ {xs : List V} {ds : List PyData}, TpAll K H xs ds → ∀ {i : Nat} {x : V}, xs[i]? = some x → ∃ d, ds[i]? = some d ∧ Tp K H x d
  | [], [], _, i, d, e => by simp at e
  | _ :: _, _ :: _, .cons h r, 0, d, e => by
    have e' := Option.some.inj e
    subst e'
    exact ⟨_, rfl, h⟩
  | _ :: _, _ :: _, .cons h r, i + 1, d, e => TpAll.at r (i := i) e
theorem TpAll.app : ∀ {xs ys : List V} {ds es : List PyData}, TpAll K H xs ds → TpAll K H ys es → TpAll K H (xs ++ ys) (ds ++ es)
  | [], _, [], _, _, h => h
  | _ :: _, _, _ :: _, _, .cons h r, h' => .cons h (TpAll.app r h')
end

/-! ### comprehensions: what stands in the new list -/
section
variable {J : It} {n : Nat} {G : Hp → Prop} {Y : Nat → Hp → V → Hp → Prop}
/-- some are kept: each that is kept is told by R -/
theorem lc_sel (wk : Walk J n G Y) {g : TG} {tt : TT} {te : TE} {vs : List Nat} {σ : L2.St} {H1 : Hp} {D : Addr} {Qd : Hp → Prop} (hD : H1 D = none) (hn : n < sizeLine) (R : Nat → V → Hp → Prop) (hR : ∀ i y H H', Kept H H' → R i y H → R i y H') (hG : ∀ H, Same H1 H → G H)
    (hs : ∀ i x H H', i < n → Same H1 H → Y i H x H' → ∀ (Kn : Hp → Prop) (Kq : VK), (∀ H4, Same H H4 → Kn H4) → (∀ y H4, Same H H4 → R i y H4 → Kq y H4) → g x (wipe σ vs) H' fun σ2 H2 => wipe σ2 vs = wipe σ vs ∧ tt σ2 H2 fun b H3 => if b = true then te σ2 H3 Kq else Kn H3)
    (hd : ∀ H ys, Same H1 H → H D = some (.lst ys) → ys.length ≤ n → (∀ y ∈ ys, ∃ i, i < n ∧ R i y H) → Qd H) :
    ∃ W : Nat → Nat → Hp → Prop, (∃ m, W 0 m (upd H1 D (.lst []))) ∧ ∀ i m H, W i m H →
      (J.stop i H ∧ Qd H) ∨ (J.go i H ∧ ∃ Nx : Hp → Prop, (∀ H', Nx H' → ∃ m', m' < m ∧ W (i + 1) m' H') ∧ ∀ x H', J.yld i H x H' → g x (wipe σ vs) H' fun σ2 H2 => wipe σ2 vs = wipe σ vs ∧ tt σ2 H2 fun b H3 =>
        if b = true then te σ2 H3 fun y H4 => ∃ acc, H4 D = some (.lst acc) ∧ acc.length < sizeLine ∧ Nx (upd H4 D (.lst (acc ++ [y]))) else Nx H3) := by
  refine lc_it wk (fun i H => Same H1 H ∧ ∃ ys, H D = some (.lst ys) ∧ ys.length ≤ i ∧ ∀ y ∈ ys, ∃ j, j < n ∧ R j y H) ⟨same_new hD, [], upd_same, Nat.le_refl _, fun y hy => absurd hy List.not_mem_nil⟩ (fun i H _ p => hG H p.1) ?_ ?_
  · rintro i x H H' hi ⟨s, ys, hy, hl, hr⟩ hY
    refine hs i x H H' hi s hY _ _ (fun H4 s4 => ⟨s.trans s4, ys, s4 _ _ hy, Nat.le_succ_of_le hl, fun y m => ?_⟩) fun y H4 s4 r4 => ?_
    · obtain ⟨j, hj, r⟩ := hr y m
      exact ⟨j, hj, hR j y H H4 s4.kept r⟩
    · have hy4 := s4 _ _ hy
      have k4 : Kept H4 (upd H4 D (.lst (ys ++ [y]))) := (Kept.refl H4).write hy4 True.intro
      refine ⟨ys, hy4, Nat.lt_of_le_of_lt hl (Nat.lt_trans hi hn), (s.trans s4).upd hD, ys ++ [y], upd_same, by rw [List.length_append]; exact Nat.succ_le_succ hl, fun z m => ?_⟩
      rcases List.mem_append.mp m with m | m
      · obtain ⟨j, hj, r⟩ := hr z m
        exact ⟨j, hj, hR j z _ _ (s4.kept.trans k4) r⟩
      · have e := List.mem_singleton.mp m
        subst e
        exact ⟨i, hi, hR i z _ _ k4 r4⟩
  · rintro H ⟨s, ys, hy, hl, hr⟩
    exact hd H ys s hy hl hr
/-- all are kept, in their order -/
theorem lc_rel (wk : Walk J n G Y) {g : TG} {te : TE} {vs : List Nat} {σ : L2.St} {H1 : Hp} {D : Addr} {Qd : Hp → Prop} (hD : H1 D = none) (hn : n < sizeLine) (R : Nat → V → Hp → Prop) (hR : ∀ i y H H', Kept H H' → R i y H → R i y H') (hG : ∀ H, Same H1 H → G H)
    (hs : ∀ i x H H', i < n → Same H1 H → Y i H x H' → ∀ Kq : VK, (∀ y H4, Same H H4 → R i y H4 → Kq y H4) → g x (wipe σ vs) H' fun σ2 H2 => wipe σ2 vs = wipe σ vs ∧ te σ2 H2 Kq)
    (hd : ∀ H ys, Same H1 H → H D = some (.lst ys) → ys.length = n → (∀ i y, ys[i]? = some y → R i y H) → Qd H) :
    ∃ W : Nat → Nat → Hp → Prop, (∃ m, W 0 m (upd H1 D (.lst []))) ∧ ∀ i m H, W i m H →
      (J.stop i H ∧ Qd H) ∨ (J.go i H ∧ ∃ Nx : Hp → Prop, (∀ H', Nx H' → ∃ m', m' < m ∧ W (i + 1) m' H') ∧ ∀ x H', J.yld i H x H' → g x (wipe σ vs) H' fun σ2 H2 => wipe σ2 vs = wipe σ vs ∧ tYes σ2 H2 fun b H3 =>
        if b = true then te σ2 H3 fun y H4 => ∃ acc, H4 D = some (.lst acc) ∧ acc.length < sizeLine ∧ Nx (upd H4 D (.lst (acc ++ [y]))) else Nx H3) := by
  refine lc_it wk (fun i H => Same H1 H ∧ ∃ ys, H D = some (.lst ys) ∧ ys.length = i ∧ ∀ j y, ys[j]? = some y → R j y H) ⟨same_new hD, [], upd_same, rfl, fun j y e => by simp at e⟩ (fun i H _ p => hG H p.1) ?_ ?_
  · rintro i x H H' hi ⟨s, ys, hy, hl, hr⟩ hY
    simp only [tYes, ↓reduceIte]
    refine hs i x H H' hi s hY _ fun y H4 s4 r4 => ?_
    · have hy4 := s4 _ _ hy
      have k4 : Kept H4 (upd H4 D (.lst (ys ++ [y]))) := (Kept.refl H4).write hy4 True.intro
      refine ⟨ys, hy4, by rw [hl]; exact Nat.lt_trans hi hn, (s.trans s4).upd hD, ys ++ [y], upd_same, by rw [List.length_append, hl]; rfl, fun j z e => ?_⟩
      by_cases hj : j < ys.length
      · rw [List.getElem?_append_left hj] at e
        exact hR j z _ _ (s4.kept.trans k4) (hr j z e)
      · have ej : j = ys.length := by
          have := (List.getElem?_eq_some_iff.mp e).1
          rw [List.length_append] at this
          have h1 : [y].length = 1 := rfl
          omega
        subst ej
        rw [List.getElem?_append_right (Nat.le_refl _), Nat.sub_self] at e
        have e' := Option.some.inj e
        subst e'
        rw [hl]
        exact hR i y _ _ k4 r4
  · rintro H ⟨s, ys, hy, hl, hr⟩
    exact hd H ys s hy hl hr
/-- all are kept, their values known -/
theorem lc_all (wk : Walk J n G Y) {g : TG} {te : TE} {vs : List Nat} {σ : L2.St} {H1 : Hp} {D : Addr} {Qd : Hp → Prop} (hD : H1 D = none) (hn : n < sizeLine) (ys : List V) (hl : ys.length = n) (hG : ∀ H, Same H1 H → G H)
    (hs : ∀ i x H H', i < n → Same H1 H → Y i H x H' → ∀ Kq : VK, (∀ y H4, Same H H4 → ys[i]? = some y → Kq y H4) → g x (wipe σ vs) H' fun σ2 H2 => wipe σ2 vs = wipe σ vs ∧ te σ2 H2 Kq)
    (hd : ∀ H, Same H1 H → H D = some (.lst ys) → Qd H) :
    ∃ W : Nat → Nat → Hp → Prop, (∃ m, W 0 m (upd H1 D (.lst []))) ∧ ∀ i m H, W i m H →
      (J.stop i H ∧ Qd H) ∨ (J.go i H ∧ ∃ Nx : Hp → Prop, (∀ H', Nx H' → ∃ m', m' < m ∧ W (i + 1) m' H') ∧ ∀ x H', J.yld i H x H' → g x (wipe σ vs) H' fun σ2 H2 => wipe σ2 vs = wipe σ vs ∧ tYes σ2 H2 fun b H3 =>
        if b = true then te σ2 H3 fun y H4 => ∃ acc, H4 D = some (.lst acc) ∧ acc.length < sizeLine ∧ Nx (upd H4 D (.lst (acc ++ [y]))) else Nx H3) :=
  lc_rel wk hD hn (fun i y _ => ys[i]? = some y) (fun _ _ _ _ _ e => e) hG hs fun H zs s hz hl' hr => by
    have e : zs = ys := by
      refine List.ext_getElem? fun i => ?_
      by_cases h : i < zs.length
      · rw [List.getElem?_eq_getElem h]
        exact (hr i _ (List.getElem?_eq_getElem h)).symm
      · rw [List.getElem?_eq_none (by omega), List.getElem?_eq_none (by omega)]
    subst e
    exact hd H s hz
end
theorem small_line {n : Nat} (h : n ≤ 1000000) : n < sizeLine := Nat.lt_of_le_of_lt h (by decide)
theorem small_le {n : Nat} (h : n ≤ 1000000) : n ≤ sizeLine := Nat.le_of_lt (small_line h)
end NPK
set_option Elab.async false
set_option linter.all false
set_option maxRecDepth 100000
set_option maxHeartbeats 2000000
namespace NPK
open PySem PySem.Spec PyProof.Rows L2
/-! looks -/
abbrev S_is_integer : Stmt := top 12
abbrev N_is_integer : List Str := ["thing"]
theorem sc_is_integer : FnScope N_is_integer ["thing"] (defScope S_is_integer) := ⟨rfl, rfl, rfl, by decide +kernel, rfl, by decide +kernel, by decide +kernel⟩
theorem nd_is_integer : N_is_integer.Nodup := sc_is_integer.nd
abbrev S_is_from : Stmt := top 13
abbrev N_is_from : List Str := ["thing", "least"]
theorem sc_is_from : FnScope N_is_from ["thing", "least"] (defScope S_is_from) := ⟨rfl, rfl, rfl, by decide +kernel, rfl, by decide +kernel, by decide +kernel⟩
theorem nd_is_from : N_is_from.Nodup := sc_is_from.nd
abbrev S_is_tuple : Stmt := top 14
abbrev N_is_tuple : List Str := ["thing", "many"]
theorem sc_is_tuple : FnScope N_is_tuple ["thing", "many"] (defScope S_is_tuple) := ⟨rfl, rfl, rfl, by decide +kernel, rfl, by decide +kernel, by decide +kernel⟩
theorem nd_is_tuple : N_is_tuple.Nodup := sc_is_tuple.nd
abbrev S_is_word_of : Stmt := top 15
abbrev N_is_word_of : List Str := ["thing", "signs", "sign"]
theorem sc_is_word_of : FnScope N_is_word_of ["thing", "signs"] (defScope S_is_word_of) := ⟨rfl, rfl, rfl, by decide +kernel, rfl, by decide +kernel, by decide +kernel⟩
theorem nd_is_word_of : N_is_word_of.Nodup := sc_is_word_of.nd
abbrev S_is_letters : Stmt := top 16
abbrev N_is_letters : List Str := ["thing"]
theorem sc_is_letters : FnScope N_is_letters ["thing"] (defScope S_is_letters) := ⟨rfl, rfl, rfl, by decide +kernel, rfl, by decide +kernel, by decide +kernel⟩
theorem nd_is_letters : N_is_letters.Nodup := sc_is_letters.nd
abbrev S_is_player : Stmt := top 19
abbrev N_is_player : List Str := ["thing"]
theorem sc_is_player : FnScope N_is_player ["thing"] (defScope S_is_player) := ⟨rfl, rfl, rfl, by decide +kernel, rfl, by decide +kernel, by decide +kernel⟩
theorem nd_is_player : N_is_player.Nodup := sc_is_player.nd
def spInteger : Sp := fun vs H Q _ => ∃ i : Int, vs = [.int i] ∧ Q (.bl true) H
def spFrom : Sp := fun vs H Q _ => ∃ i l : Int, vs = [.int i, .int l] ∧ Q (.bl (decide (l ≤ i))) H
def spTuple (K : PySem.W.Frag) : Sp := fun vs H Q _ => ∃ a xs, ∃ n : Int, vs = [.ref a, .int n] ∧ SqT K H a xs ∧ Q (.bl (decide ((xs.length : Int) = n))) H
def spWordOf : Sp := fun vs H Q _ => ∃ z y : Str, vs = [.str z, .str y] ∧ z.cps.size < sizeLine ∧ (∀ c ∈ z.cps.toList, c ∈ y.cps.toList) ∧ ∀ H', Same H H' → Q (.bl true) H'
def lets : Str := "abcdefghijklmnopqrstuvwxyz"
def spLetters : Sp := fun vs H Q _ => ∃ z : Str, vs = [.str z] ∧ z.cps.size < sizeLine ∧ (∀ c ∈ z.cps.toList, c ∈ lets.cps.toList) ∧ ∀ H', Same H H' → Q (.bl true) H'
def spPlayer : Sp := fun vs H Q _ => vs = [.str "one"] ∧ ∀ H', Same H H' → Q (.bl true) H'
section
variable {P : Program} {w : World} {K : PySem.W.Frag} {mg : Str → Option Value} {base : Heap} {a : Ads}
theorem fk_is_integer (T : Txt K mg w a) : Fk P w K mg base "is_integer" 1 ["thing"] spInteger := by
  refine (show Df K mg "is_integer" (top 12) from T.fn 3 _ rfl).fk sc_is_integer (fun vs H Q E h => ?_) (fun _ _ _ _ _ _ us hl => match us, hl with | [_], _ => rfl) fun f cdv A outer s H vs Q E hr h => ?_
  · obtain ⟨i, rfl, _⟩ := h
    rfl
  · obtain ⟨i, rfl, k⟩ := h
    refine ⟨_, (pss_one (ps_ret (pe_and (pe_callB (isA K rfl) (by rfl) T.isinstance (by decide +kernel) (pa_cons (pv 0) (pa_cons (pe_ty "int" rfl T.int (by decide +kernel)) pa_nil))) (pe_one (pe_not (pe_callB (isA K rfl) (by rfl) T.isinstance (by decide +kernel) (pa_cons (pv 0) (pa_cons (pe_ty "bool" rfl T.bool (by decide +kernel)) pa_nil)))))))), ?_⟩
    refine ⟨_, rfl, _, _, _, rfl, .int i, _, rfl, iteT ⟨_, rfl, _, _, _, rfl, .intb i, _, rfl, k⟩⟩
theorem fk_is_from (T : Txt K mg w a) : Fk P w K mg base "is_from" 2 ["thing", "least"] spFrom := by
  have F_is_integer := fk_is_integer (P := P) (base := base) T
  refine (show Df K mg "is_from" (top 13) from T.fn 4 _ rfl).fk sc_is_from (fun vs H Q E h => ?_) (fun _ _ _ _ _ _ us hl => match us, hl with | [_, _], _ => rfl) fun f cdv A outer s H vs Q E hr h => ?_
  · obtain ⟨i, l, rfl, _⟩ := h
    rfl
  · obtain ⟨i, l, rfl, k⟩ := h
    refine ⟨_, (pss_one (ps_ret (pe_and (pe_f (F_is_integer) (hr.mono (by decide)) rfl (pa_cons (pv 0) pa_nil)) (pe_one (pe_cmpR op_ge (pv 0) (pv 1) (nomark _)))))), ?_⟩
    refine ⟨_, rfl, i, rfl, _, rfl, iteT ⟨_, rfl, _, rfl, _, _, rfl, rfl, k⟩⟩
theorem fk_is_tuple (T : Txt K mg w a) : Fk P w K mg base "is_tuple" 1 ["thing", "many"] (spTuple K) := by
  refine (show Df K mg "is_tuple" (top 14) from T.fn 5 _ rfl).fk sc_is_tuple (fun vs H Q E h => ?_) (fun _ _ _ _ _ _ us hl => match us, hl with | [_, _], _ => rfl) fun f cdv A outer s H vs Q E hr h => ?_
  · obtain ⟨p, xs, n, rfl, _⟩ := h
    rfl
  · obtain ⟨p, xs, n, rfl, hx, k⟩ := h
    refine ⟨_, (pss_one (ps_ret (pe_and (pe_callB (isA K rfl) (by rfl) T.isinstance (by decide +kernel) (pa_cons (pv 0) (pa_cons (pe_ty "tuple" rfl T.tuple (by decide +kernel)) pa_nil))) (pe_one (pe_cmpR op_eq (pe_callB (lenS K rfl) (by rfl) T.len (by decide +kernel) (pa_cons (pv 0) pa_nil)) (pv 1) (nomark _)))))), ?_⟩
    refine ⟨_, rfl, _, _, _, rfl, .tup hx, _, rfl, iteT ⟨_, rfl, _, _, rfl, .inr hx, _, rfl, rfl, ?_⟩⟩
    rw [dec_int, Bool.beq_eq_decide_eq]
    exact k
theorem fk_is_word_of (T : Txt K mg w a) : Fk P w K mg base "is_word_of" 1 ["thing", "signs"] spWordOf := by
  refine (show Df K mg "is_word_of" (top 15) from T.fn 6 _ rfl).fk sc_is_word_of (fun vs H Q E h => ?_) (fun _ _ _ _ _ _ us hl => match us, hl with | [_, _], _ => rfl) fun f cdv A outer s H vs Q E hr h => ?_
  · obtain ⟨z, y, rfl, _⟩ := h
    rfl
  · obtain ⟨z, y, rfl, hz, hc, k⟩ := h
    refine ⟨_, (pss_one (ps_ret (pe_and (pe_callB (isA K rfl) (by rfl) T.isinstance (by decide +kernel) (pa_cons (pv 0) (pa_cons (pe_ty "str" rfl T.str (by decide +kernel)) pa_nil))) (pe_one (pe_callB (allB K rfl rfl) (by rfl) T.all (by decide +kernel) (pa_cons (pe_lc (own := [("sign", 2)]) (by rfl) nd_is_word_of (pi_str (pv 0)) (blkOk_by (own := [("sign", 2)]) (N := N_is_word_of) (sc := defScope S_is_word_of) (by decide +kernel)) (fun _ _ _ _ _ => (pg_name (i := 2) nd_is_word_of rfl (by first | exact Or.inl rfl | exact Or.inr rfl))) (fun _ _ _ _ _ => pts_nil) (fun _ _ _ _ _ => (pe_cmpR op_in_sign (pv 2) (pv 1) (by rfl)))) pa_nil)))))), ?_⟩
    refine ⟨_, rfl, _, _, _, rfl, .str z, _, rfl, iteT ⟨_, rfl, z, rfl, fun D hD => ?_⟩⟩
    refine lc_all (walk_str (z := z)) hD hz (List.replicate z.cps.size (.bl true)) (by simp) (fun _ _ => True.intro) ?_ ?_
    · rintro i x H1 H2 hi s1 ⟨rfl, c, hcz, rfl⟩ Kq q
      refine ⟨rfl, _, rfl, _, rfl, _, _, rfl, rfl, ?_⟩
      have hm : c ∈ z.cps.toList := by
        have := Array.mem_of_getElem? hcz
        exact Array.mem_toList_iff.mpr this
      rw [decide_eq_true (hc c hm)]
      exact q _ _ (Same.refl _) (by rw [List.getElem?_replicate, if_pos hi])
    · intro H1 s1 h1
      refine ⟨D, List.replicate z.cps.size true, rfl, SqL.of (by rw [List.map_replicate]; exact h1), ?_⟩
      rw [show (List.replicate z.cps.size true).all id = true by simp]
      exact k _ s1
theorem fk_is_letters (T : Txt K mg w a) : Fk P w K mg base "is_letters" 2 ["thing"] spLetters := by
  have F_is_word_of := fk_is_word_of (P := P) (base := base) T
  refine (show Df K mg "is_letters" (top 16) from T.fn 7 _ rfl).fk sc_is_letters (fun vs H Q E h => ?_) (fun _ _ _ _ _ _ us hl => match us, hl with | [_], _ => rfl) fun f cdv A outer s H vs Q E hr h => ?_
  · obtain ⟨z, rfl, _⟩ := h
    rfl
  · obtain ⟨z, rfl, hz, hc, k⟩ := h
    refine ⟨_, (pss_one (ps_ret (pe_f (F_is_word_of) (hr.mono (by decide)) rfl (pa_cons (pv 0) (pa_cons (pe_gs rfl T.LETTERS) pa_nil))))), ?_⟩
    exact ⟨_, rfl, z, _, rfl, hz, hc, k⟩
theorem fk_is_player (T : Txt K mg w a) : Fk P w K mg base "is_player" 1 ["thing"] spPlayer := by
  refine (show Df K mg "is_player" (top 19) from T.fn 9 _ rfl).fk sc_is_player (fun vs H Q E h => ?_) (fun _ _ _ _ _ _ us hl => match us, hl with | [_], _ => rfl) fun f cdv A outer s H vs Q E hr h => ?_
  · obtain ⟨rfl, _⟩ := h
    rfl
  · obtain ⟨rfl, k⟩ := h
    refine ⟨_, (pss_one (ps_ret (pe_and (pe_callB (isA K rfl) (by rfl) T.isinstance (by decide +kernel) (pa_cons (pv 0) (pa_cons (pe_ty "str" rfl T.str (by decide +kernel)) pa_nil))) (pe_one (pe_cmpR (inS K rfl) (pv 0) (pe_tup (pa_cons pe_str (pa_cons pe_str pa_nil))) (by rfl)))))), ?_⟩
    refine ⟨_, rfl, _, _, _, rfl, .str _, _, rfl, iteT ⟨_, rfl, (by show 2 ≤ sizeLine; decide), fun t ht => ⟨_, _, rfl, .inr (SqT.of upd_same), rfl, rfl, ?_⟩⟩⟩
    rw [show (if false = true then !inV (V.str "one") [V.str "one", V.str "two"] else inV (V.str "one") [V.str "one", V.str "two"]) = true by decide +kernel]
    exact k _ (same_new ht)
end
end NPK
set_option Elab.async false
set_option linter.all false
set_option maxRecDepth 100000
set_option maxHeartbeats 2000000
namespace NPK
open PySem PySem.Spec PyProof.Rows L2 NP
/-! polywork -/
abbrev S_is_poly_value : Stmt := top 21
abbrev N_is_poly_value : List Str := ["thing", "pair", "one", "other"]
theorem sc_is_poly_value : FnScope N_is_poly_value ["thing"] (defScope S_is_poly_value) := ⟨rfl, rfl, rfl, by decide +kernel, rfl, by decide +kernel, by decide +kernel⟩
theorem nd_is_poly_value : N_is_poly_value.Nodup := sc_is_poly_value.nd
abbrev S_power_of : Stmt := top 22
abbrev N_power_of : List Str := ["number", "exponent", "power", "square"]
theorem sc_power_of : FnScope N_power_of ["number", "exponent"] (defScope S_power_of) := ⟨rfl, rfl, rfl, by decide +kernel, rfl, by decide +kernel, by decide +kernel⟩
theorem nd_power_of : N_power_of.Nodup := sc_power_of.nd
abbrev S_poly_value : Stmt := top 23
abbrev N_poly_value : List Str := ["poly", "number", "exponent", "coefficient"]
theorem sc_poly_value : FnScope N_poly_value ["poly", "number"] (defScope S_poly_value) := ⟨rfl, rfl, rfl, by decide +kernel, rfl, by decide +kernel, by decide +kernel⟩
theorem nd_poly_value : N_poly_value.Nodup := sc_poly_value.nd
def encQ (q : Nat × Nat) : PyData := .tuple [.int (q.1 : Int), .int (q.2 : Int)]
def encP (p : Poly) : PyData := .tuple (p.map encQ)
/-- a polynomial as the document says -/
structure OkP (p : Poly) : Prop where
  len : p.length ≤ 1000
  pos : ∀ q ∈ p, 1 ≤ q.2
  up : ∀ i x y, p[i]? = some x → p[i + 1]? = some y → x.1 < y.1
  low : ∀ q ∈ p, q.1 ≤ 2
section
variable {K : PySem.W.Frag} {H : Hp} {v : V}
theorem tp_two {d e : PyData} (h : Tp K H v (.tuple [d, e])) : ∃ b x y, v = .ref b ∧ SqT K H b [x, y] ∧ Tp K H x d ∧ Tp K H y e := by
  obtain ⟨b, xs, rfl, hs, r⟩ := tp_tup h
  obtain ⟨x, r1, rfl, h1, r⟩ := tpa_cons r
  obtain ⟨y, r2, rfl, h2, r⟩ := tpa_cons r
  cases tpa_nil r
  exact ⟨b, x, y, rfl, hs, h1, h2⟩
theorem tp_three {d e g : PyData} (h : Tp K H v (.tuple [d, e, g])) : ∃ b x y z, v = .ref b ∧ SqT K H b [x, y, z] ∧ Tp K H x d ∧ Tp K H y e ∧ Tp K H z g := by
  obtain ⟨b, xs, rfl, hs, r⟩ := tp_tup h
  obtain ⟨x, r1, rfl, h1, r⟩ := tpa_cons r
  obtain ⟨y, r2, rfl, h2, r⟩ := tpa_cons r
  obtain ⟨z, r3, rfl, h3, r⟩ := tpa_cons r
  cases tpa_nil r
  exact ⟨b, x, y, z, rfl, hs, h1, h2, h3⟩
theorem tp_encQ {q : Nat × Nat} (h : Tp K H v (encQ q)) : ∃ b, v = .ref b ∧ SqT K H b [.int (q.1 : Int), .int (q.2 : Int)] := by
  obtain ⟨b, x, y, rfl, hs, h1, h2⟩ := tp_two h
  cases tp_int h1
  cases tp_int h2
  exact ⟨b, rfl, hs⟩
theorem poly_at {p : Poly} {xs : List V} (r : TpAll K H xs (p.map encQ)) {i : Nat} {x : V} (h : xs[i]? = some x) : ∃ q, p[i]? = some q ∧ q ∈ p ∧ ∃ b, x = .ref b ∧ SqT K H b [.int (q.1 : Int), .int (q.2 : Int)] := by
  obtain ⟨d, hd, ht⟩ := r.at h
  rw [List.getElem?_map] at hd
  cases e : p[i]? with
  | none =>
    rw [e] at hd
    cases hd
  | some q =>
    rw [e] at hd
    cases hd
    exact ⟨q, rfl, List.mem_of_getElem? e, tp_encQ ht⟩
theorem walk_zipT {a b : Addr} {xs ys : List V} {n : Nat} (hn : n = min xs.length ys.length) : Walk (RZ.ItzT K a b) n (fun H => SqT K H a xs ∧ SqT K H b ys) (YPair (fun i => xs[i]?) (fun i => ys[i]?)) := by
  refine ⟨fun i H hi q => ?_, fun H q => ?_, fun i H x H' hi q y => ?_⟩
  · exact ⟨xs, ys, xs[i]'(by omega), ys[i]'(by omega), q.1, q.2, List.getElem?_eq_getElem _, List.getElem?_eq_getElem _⟩
  · exact ⟨xs, ys, q.1, q.2, by omega⟩
  · obtain ⟨T, x, y, e1, e2, e3, e4, e5⟩ := y
    exact ⟨T, x, y, e1, e2, e3, e4 xs q.1, e5 ys q.2⟩
end
theorem slA_tail {K : PySem.W.Frag} {H : Hp} {b : Addr} {xs : List V} {Q : VK} (h : SqT K H b xs) (k : ∀ H2 c, Same H H2 → SqT K H2 c (xs.drop 1) → Q (.ref c) H2) : rSlA K (.ref b) (some 1) none H Q := by
  refine ⟨b, xs, rfl, h, fun e => ?_, fun e p hp => ?_⟩
  · cases xs with
    | nil => exact k H b (Same.refl _) h
    | cons x r =>
      have := e.1
      have e2 : HT.sIx (x :: r).length 0 (some 1) = min 1 (x :: r).length := HT.sIx_nat _ _ 1
      rw [e2, List.length_cons] at this
      omega
  · have e1 : cutV xs (some 1) none = xs.drop 1 := by
      unfold cutV
      rw [show HT.sIx xs.length 0 (some 1) = min 1 xs.length from HT.sIx_nat _ _ 1, HT.sIx_none]
      cases xs with
      | nil => rfl
      | cons x r =>
        rw [show min 1 (x :: r).length = 1 by rw [List.length_cons]; omega]
        exact List.take_of_length_le (by rw [List.length_drop]; exact Nat.le_refl _)
    rw [e1]
    exact k _ p (same_new hp) (SqT.of upd_same)
def spPoly (K : PySem.W.Frag) : Sp := fun vs H Q _ => ∃ v p, vs = [v] ∧ Tp K H v (encP p) ∧ OkP p ∧ ∀ H', Same H H' → Q (.bl true) H'
def spPow : Sp := fun vs H Q _ => ∃ n e : Nat, vs = [.int (n : Int), .int (e : Int)] ∧ n ≤ 4 ∧ e ≤ 2 ∧ Q (.int ((n ^ e : Nat) : Int)) H
def spPolyVal (K : PySem.W.Frag) : Sp := fun vs H Q _ => ∃ v p, ∃ n : Nat, vs = [v, .int (n : Int)] ∧ Tp K H v (encP p) ∧ OkP p ∧ n ≤ 4 ∧ ∀ H', Same H H' → Q (.int ((pval p n : Nat) : Int)) H'
section
variable {P : Program} {w : World} {K : PySem.W.Frag} {mg : Str → Option Value} {base : Heap} {a : Ads}
theorem all_true (n : Nat) : (List.replicate n true).all id = true := by simp
theorem fk_is_poly_value (T : Txt K mg w a) : Fk P w K mg base "is_poly_value" 3 ["thing"] (spPoly K) := by
  have F_is_tuple := fk_is_tuple (P := P) (base := base) T
  have F_is_from := fk_is_from (P := P) (base := base) T
  refine (show Df K mg "is_poly_value" (top 21) from T.fn 10 _ rfl).fk sc_is_poly_value (fun vs H Q E h => ?_) (fun _ _ _ _ _ _ us hl => match us, hl with | [_], _ => rfl) fun f cdv A outer s H vs Q E hr h => ?_
  · obtain ⟨v, p, rfl, _⟩ := h
    rfl
  · obtain ⟨v, p, rfl, hv, ok, k⟩ := h
    obtain ⟨b, xs, rfl, hs, r⟩ := tp_tup hv
    have hl : xs.length = p.length := by rw [r.len, List.length_map]
    refine ⟨_, (pss_cons (ps_if (pt_not (pt_val (pe_callB (isA K rfl) (by rfl) T.isinstance (by decide +kernel) (pa_cons (pv 0) (pa_cons (pe_ty "tuple" rfl T.tuple (by decide +kernel)) pa_nil))))) (pss_one (ps_ret pe_bl)) pss_nil)
      (pss_cons (ps_if (pt_not (pt_val (pe_callB (allB K rfl rfl) (by rfl) T.all (by decide +kernel) (pa_cons (pe_lc (own := [("pair", 1)]) (by rfl) nd_is_poly_value (pi_tup (pv 0)) (blkOk_by (own := [("pair", 1)]) (N := N_is_poly_value) (sc := defScope S_is_poly_value) (by decide +kernel)) (fun _ _ _ _ _ => (pg_name (i := 1) nd_is_poly_value rfl (by first | exact Or.inl rfl | exact Or.inr rfl))) (fun _ _ _ _ _ => pts_nil) (fun _ _ _ _ _ => (pe_and (pe_f (F_is_tuple) (hr.mono (by decide)) rfl (pa_cons (pv 1) (pa_cons pe_int pa_nil))) (pe_and (pe_f (F_is_from) (hr.mono (by decide)) rfl (pa_cons (pe_ix (ixT K rfl) (pv 1) pe_int (fun _ _ => rfl)) (pa_cons pe_int pa_nil))) (pe_one (pe_f (F_is_from) (hr.mono (by decide)) rfl (pa_cons (pe_ix (ixT K rfl) (pv 1) pe_int (fun _ _ => rfl)) (pa_cons pe_int pa_nil)))))))) pa_nil)))) (pss_one (ps_ret pe_bl)) pss_nil)
      (pss_one (ps_ret (pe_callB (allB K rfl rfl) (by rfl) T.all (by decide +kernel) (pa_cons (pe_lc (g := gTup K 2 (gCons (gName 2) (gCons (gName 3) gNil))) (own := [("one", 2), ("other", 3)]) (by rfl) nd_is_poly_value (RZ.pi_zipA (by rfl) T.zip (pa_cons (pv 0) (pa_cons (pe_slice (slT K rfl) (pv 0) (po_some pe_int) po_none) pa_nil))) (blkOk_by (own := [("one", 2), ("other", 3)]) (N := N_is_poly_value) (sc := defScope S_is_poly_value) (by decide +kernel)) (fun _ _ _ _ _ => (pgT K rfl rfl (pgs_cons (pg_name (i := 2) nd_is_poly_value rfl (by first | exact Or.inl rfl | exact Or.inr rfl)) (pgs_cons (pg_name (i := 3) nd_is_poly_value rfl (by first | exact Or.inl rfl | exact Or.inr rfl)) pgs_nil)))) (fun _ _ _ _ _ => pts_nil) (fun _ _ _ _ _ => (pe_cmpR op_lt (pe_ix (ixT K rfl) (pv 2) pe_int (fun _ _ => rfl)) (pe_ix (ixT K rfl) (pv 3) pe_int (fun _ _ => rfl)) (nomark _)))) pa_nil)))))), ?_⟩
    refine ⟨_, rfl, _, _, _, rfl, .tup hs, _, rfl, iteF ?_⟩
    -- the pairs
    refine ⟨_, rfl, b, rfl, ⟨_, hs⟩, fun D hD => ?_⟩
    refine lc_all walk_tup hD (small_line (by have := ok.len; omega)) (List.replicate xs.length (.bl true)) (by simp) (fun H1 s1 => s1.tq hs) ?_ ?_
    · rintro i x H1 H2 hi s1 ⟨rfl, hx⟩ Kq q
      obtain ⟨c, hc, hm, bq, rfl, hq⟩ := poly_at (r.same s1) hx
      refine ⟨rfl, _, rfl, _, _, _, rfl, hq, _, rfl, ?_⟩
      rw [decide_eq_true (by rfl)]
      refine iteT ⟨_, rfl, _, _, _, _, rfl, rfl, hq, rfl, _, _, rfl, _, rfl, ?_⟩
      rw [decide_eq_true (by omega)]
      refine iteT ⟨_, rfl, _, _, _, _, rfl, rfl, hq, rfl, _, _, rfl, ?_⟩
      rw [decide_eq_true (by have := ok.pos c hm; omega)]
      exact q _ _ (Same.refl _) (by rw [List.getElem?_replicate, if_pos hi])
    · intro H1 s1 h1
      refine ⟨D, List.replicate xs.length true, rfl, SqL.of (by rw [List.map_replicate]; exact h1), _, rfl, ?_⟩
      rw [all_true]
      refine iteF ?_
      -- the exponents rise
      have hs1 := s1.tq hs
      refine ⟨_, rfl, _, rfl, _, rfl, ?_⟩
      dsimp only [tNoPart]
      refine slA_tail hs1 fun H2 c s2 hs2 => ⟨b, c, xs, xs.drop 1, rfl, .inr ⟨s2.tq hs1, hs2, fun D2 hD2 => ?_⟩⟩
      refine lc_all (walk_zipT rfl) hD2 (small_line (by have := ok.len; omega)) (List.replicate (min xs.length (xs.drop 1).length) (.bl true)) (by simp) (fun H3 s3 => ⟨s3.tq (s2.tq hs1), s3.tq hs2⟩) ?_ ?_
      · rintro i x H3 H4 hi s3 ⟨T2, x1, x2, rfl, hT, rfl, hx1, hx2⟩ Kq q
        have r3 := r.same ((s1.trans s2).trans s3)
        obtain ⟨c1, e1, _, b1, rfl, q1⟩ := poly_at r3 hx1
        have hx2 : (xs.drop 1)[i]? = some x2 := hx2
        rw [List.getElem?_drop] at hx2
        obtain ⟨c2, e2, _, b2, rfl, q2⟩ := poly_at r3 (i := 1 + i) hx2
        have sn : Same H3 (upd H3 T2 (.tup [.ref b1, .ref b2])) := same_new hT
        refine ⟨T2, _, rfl, SqT.of upd_same, rfl, _, _, rfl, _, _, rfl, rfl, rfl, ?_⟩
        refine ⟨_, rfl, _, _, _, _, rfl, rfl, sn.tq q1, rfl, _, rfl, _, _, _, _, rfl, rfl, sn.tq q2, rfl, _, _, rfl, rfl, ?_⟩
        have e3 : decide ((c1.1 : Int) < (c2.1 : Int)) = true := decide_eq_true (by have := ok.up i c1 c2 e1 (by rw [Nat.add_comm]; exact e2); omega)
        show Kq (.bl (decide ((c1.1 : Int) < (c2.1 : Int)))) _
        rw [e3]
        exact q _ _ sn (by rw [List.getElem?_replicate, if_pos hi])
      · intro H3 s3 h3
        refine ⟨D2, List.replicate (min xs.length (xs.drop 1).length) true, rfl, SqL.of (by rw [List.map_replicate]; exact h3), ?_⟩
        rw [all_true]
        exact k _ ((s1.trans s2).trans s3)
/-- the powers that are met: the loop's state -/
def PowOk (n e d p q : Nat) : Prop := p * q ^ d = n ^ e ∧ ((d ≤ 2 ∧ q ≤ 4) ∨ (d ≤ 1 ∧ q ≤ 16))
theorem fk_power_of (T : Txt K mg w a) : Fk P w K mg base "power_of" 1 ["number", "exponent"] spPow := by
  refine (show Df K mg "power_of" (top 22) from T.fn 11 _ rfl).fk sc_power_of (fun vs H Q E h => ?_) (fun _ _ _ _ _ _ us hl => match us, hl with | [_, _], _ => rfl) fun f cdv A outer s H vs Q E hr h => ?_
  · obtain ⟨n, e, rfl, _⟩ := h
    rfl
  · obtain ⟨n, e, rfl, hn, he, k⟩ := h
    refine ⟨_, (pss_cons (ps_par (by rfl) nd_power_of (i := 2) (j := 3) rfl rfl (by decide) rfl rfl (pa_cons pe_int (pa_cons (pv 0) pa_nil)) (by rfl))
      (pss_cons (ps_while PassesOwn.never (pt_cmpR op_gt (pv 1) pe_int (nomark _)) (pss_cons (ps_if (pt_cmpR op_eq (pe_op op_modN (pv 1) pe_int) pe_int (nomark _)) (pss_one (ps_set (i := 2) nd_power_of rfl (by first | exact Or.inl rfl | exact Or.inr rfl) (pe_op op_mul (pv 2) (pv 3)))) pss_nil)
      (pss_cons (ps_set (i := 1) nd_power_of rfl (by first | exact Or.inl rfl | exact Or.inr rfl) (pe_op op_fdivN (pv 1) pe_int))
      (pss_one (ps_if (pt_cmpR op_gt (pv 1) pe_int (nomark _)) (pss_one (ps_set (i := 3) nd_power_of rfl (by first | exact Or.inl rfl | exact Or.inr rfl) (pe_op op_mul (pv 3) (pv 3)))) pss_nil)))))
      (pss_one (ps_ret (pv 2))))), ?_⟩
    refine ⟨_, rfl, _, _, rfl, ?_⟩
    refine ⟨fun m σ H' => H' = H ∧ ∃ d p q : Nat, m = d ∧ σ = [some (.int (n : Int)), some (.int (d : Int)), some (.int (p : Int)), some (.int (q : Int))] ∧ PowOk n e d p q, ⟨e, rfl, e, 1, n, rfl, rfl, by rw [Nat.one_mul], .inl ⟨he, hn⟩⟩, ?_⟩
    rintro d σ H' ⟨rfl, d', p, q, rfl, rfl, hp, hb⟩
    have hq : q ≤ 16 := by omega
    match d, hp, hb with
    | 0, hp, hb =>
      refine ⟨_, rfl, _, _, rfl, rfl, _, rfl, iteF ?_⟩
      refine ⟨_, rfl, ?_⟩
      have e1 : p = n ^ e := by simpa using hp
      rw [e1]
      exact k
    | 1, hp, hb =>
      refine ⟨_, rfl, _, _, rfl, rfl, _, rfl, iteT ?_⟩
      refine ⟨fun σ' H'' => H'' = H' ∧ σ' = [some (.int (n : Int)), some (.int ((0 : Nat) : Int)), some (.int ((p * q : Nat) : Int)), some (.int (q : Int))], ?_, ?_⟩
      · rintro σ' H'' ⟨rfl, rfl⟩
        exact ⟨0, Nat.one_pos, rfl, 0, p * q, q, rfl, rfl, by rw [← hp]; simp, .inr ⟨by omega, hq⟩⟩
      · refine ⟨_, rfl, _, _, rfl, rfl, (by decide), rfl, _, rfl, ?_⟩
        refine iteT ⟨_, rfl, _, rfl, _, _, rfl, rfl, .inr ⟨by omega, by omega⟩, ?_⟩
        refine ⟨_, rfl, _, _, rfl, rfl, ⟨by decide, by decide⟩, _, rfl, _, _, rfl, rfl, _, rfl, ?_⟩
        refine iteF ⟨rfl, ?_⟩
        show [some (V.int (n : Int)), some (V.int (Int.fdiv ((1 : Nat) : Int) 2)), some (V.int ((p : Int) * (q : Int))), some (V.int (q : Int))] = _
        rw [Int.natCast_mul]
        rfl
    | 2, hp, hb =>
      have hq4 : q ≤ 4 := by omega
      have hqq : q * q ≤ 16 := Nat.mul_le_mul hq4 hq4
      refine ⟨_, rfl, _, _, rfl, rfl, _, rfl, iteT ?_⟩
      refine ⟨fun σ' H'' => H'' = H' ∧ σ' = [some (.int (n : Int)), some (.int ((1 : Nat) : Int)), some (.int (p : Int)), some (.int ((q * q : Nat) : Int))], ?_, ?_⟩
      · rintro σ' H'' ⟨rfl, rfl⟩
        exact ⟨1, by omega, rfl, 1, p, q * q, rfl, rfl, by rw [← hp, Nat.pow_one, Nat.pow_two], .inr ⟨Nat.le_refl _, hqq⟩⟩
      · refine ⟨_, rfl, _, _, rfl, rfl, (by decide), rfl, _, rfl, ?_⟩
        refine iteF ⟨_, rfl, _, _, rfl, rfl, ⟨by decide, by decide⟩, _, rfl, _, _, rfl, rfl, _, rfl, ?_⟩
        refine iteT ⟨_, rfl, _, rfl, _, _, rfl, rfl, .inr ⟨by omega, by omega⟩, rfl, ?_⟩
        show [some (V.int (n : Int)), some (V.int (Int.fdiv ((2 : Nat) : Int) 2)), some (V.int (p : Int)), some (V.int ((q : Int) * (q : Int)))] = _
        rw [Int.natCast_mul]
        rfl
    | d + 3, hp, hb => omega
theorem sum_ints (p : Poly) (n : Nat) : (p.map fun q => ((q.2 * n ^ q.1 : Nat) : Int)).sum = ((pval p n : Nat) : Int) := by
  unfold pval
  induction p with
  | nil => rfl
  | cons q r ih =>
    rw [List.map_cons, List.map_cons, List.sum_cons, List.sum_cons, ih, Int.natCast_add]
theorem pow_small {n e : Nat} (hn : n ≤ 4) (he : e ≤ 2) : n ^ e ≤ 16 := by
  have h1 : n ^ e ≤ 4 ^ e := Nat.pow_le_pow_left hn e
  have h2 : 4 ^ e ≤ 4 ^ 2 := Nat.pow_le_pow_right (by decide) he
  omega
theorem fk_poly_value (T : Txt K mg w a) : Fk P w K mg base "poly_value" 2 ["poly", "number"] (spPolyVal K) := by
  have F_power_of := fk_power_of (P := P) (base := base) T
  refine (show Df K mg "poly_value" (top 23) from T.fn 12 _ rfl).fk sc_poly_value (fun vs H Q E h => ?_) (fun _ _ _ _ _ _ us hl => match us, hl with | [_, _], _ => rfl) fun f cdv A outer s H vs Q E hr h => ?_
  · obtain ⟨v, p, n, rfl, _⟩ := h
    rfl
  · obtain ⟨v, p, n, rfl, hv, ok, hn, k⟩ := h
    obtain ⟨b, xs, rfl, hs, r⟩ := tp_tup hv
    have hl : xs.length = p.length := by rw [r.len, List.length_map]
    refine ⟨_, (pss_one (ps_ret (pe_callB (sumI K rfl rfl) (by rfl) T.sum (by decide +kernel) (pa_cons (pe_lc (g := gTup K 2 (gCons (gName 2) (gCons (gName 3) gNil))) (own := [("exponent", 2), ("coefficient", 3)]) (by rfl) nd_poly_value (pi_tup (pv 0)) (blkOk_by (own := [("exponent", 2), ("coefficient", 3)]) (N := N_poly_value) (sc := defScope S_poly_value) (by decide +kernel)) (fun _ _ _ _ _ => (pgT K rfl rfl (pgs_cons (pg_name (i := 2) nd_poly_value rfl (by first | exact Or.inl rfl | exact Or.inr rfl)) (pgs_cons (pg_name (i := 3) nd_poly_value rfl (by first | exact Or.inl rfl | exact Or.inr rfl)) pgs_nil)))) (fun _ _ _ _ _ => pts_nil) (fun _ _ _ _ _ => (pe_op op_mul (pv 3) (pe_f (F_power_of) (hr.mono (by decide)) rfl (pa_cons (pv 1) (pa_cons (pv 2) pa_nil)))))) pa_nil)))), ?_⟩
    refine ⟨_, rfl, b, rfl, ⟨_, hs⟩, fun D hD => ?_⟩
    refine lc_all walk_tup hD (small_line (by have := ok.len; omega)) ((p.map fun q => ((q.2 * n ^ q.1 : Nat) : Int)).map V.int) (by simp [hl]) (fun H1 s1 => s1.tq hs) ?_ ?_
    · rintro i x H1 H2 hi s1 ⟨rfl, hx⟩ Kq q
      obtain ⟨c, hc, hm, bq, rfl, hq⟩ := poly_at (r.same s1) hx
      have hsm := pow_small hn (ok.low c hm)
      refine ⟨bq, _, rfl, hq, rfl, _, _, rfl, _, _, rfl, rfl, rfl, ?_⟩
      refine ⟨_, rfl, _, rfl, _, rfl, n, c.1, rfl, hn, ok.low c hm, _, _, rfl, rfl, .inr ⟨by omega, by omega⟩, ?_⟩
      refine q _ _ (Same.refl _) ?_
      rw [List.getElem?_map, List.getElem?_map, hc]
      show some (V.int ((c.2 * n ^ c.1 : Nat) : Int)) = some (V.int ((c.2 : Int) * ((n ^ c.1 : Nat) : Int)))
      rw [Int.natCast_mul]
    · intro H1 s1 h1
      refine ⟨D, _, rfl, SqL.of h1, ?_⟩
      rw [sum_ints]
      exact k _ s1
end
end NPK
set_option Elab.async false
set_option linter.all false
set_option maxRecDepth 100000
set_option maxHeartbeats 2000000
namespace NPK
open PySem PySem.Spec PyProof.Rows L2 NP
/-! ### equal to the empty list, the empty tuple -/
def rEmp (K : PySem.W.Frag) (neg : Bool) : R2 := fun x y H Q => ∃ a b xs, x = .ref a ∧ y = .ref b ∧ ((SqL K H a xs ∧ SqL K H b []) ∨ (SqT K H a xs ∧ SqT K H b [])) ∧ Q (.bl (if neg then !xs.isEmpty else xs.isEmpty)) H
theorem nil_size {its : List Value} (h : Vals [] its) : its = [] := by cases h; rfl
theorem empB (xs : List V) (its : List Value) (n : xs.length = its.length) : (its.toArray.size == ([] : List Value).toArray.size) = xs.isEmpty := by
  cases xs with
  | nil => cases its with
    | nil => rfl
    | cons a b => cases n
  | cons a b => cases its with
    | nil => cases n
    | cons a b => rfl
theorem op_eqE {X : Cx} (hu : X.A.units + 1 < cLine) : OpR X (compareOp .Eq) (rEmp X.K false) := by
  intro pins s σ H x y v u Q I rx ry h
  obtain ⟨a, b, xs, rfl, rfl, h, q⟩ := h
  cases rx
  cases ry
  have hu0 : X.A.units < cLine := by omega
  rcases h with ⟨h1, h2⟩ | ⟨h1, h2⟩
  · obtain ⟨its, r, p, _⟩ := I.list h1
    obtain ⟨it2, r2, p2, _⟩ := I.list h2
    cases nil_size r2
    have e := empB xs its r.length
    by_cases hx : xs.isEmpty = true
    · rw [hx] at e
      have e2 : its = [] := by
        cases its with
        | nil => rfl
        | cons c d => cases e
      subst e2
      refine SeqAt.eq_listAt (e := fun _ => true) p.isList p2.isList rfl hu0 (fun j h1 h2 => absurd h1 (Nat.not_lt_zero _)) ⟨.bl true, H, I, rfl, ?_⟩
      have q' : Q (.bl xs.isEmpty) H := q
      rw [hx] at q'
      exact q'
    · have hx' : xs.isEmpty = false := by simpa using hx
      rw [hx'] at e
      refine SeqAt.eq_list_lengthsAt p.isList p2.isList (by rw [bne, e]; rfl) hu0 ⟨.bl false, H, I, rfl, ?_⟩
      have q' : Q (.bl xs.isEmpty) H := q
      rw [hx'] at q'
      exact q'
  · obtain ⟨its, r, p, _⟩ := I.tuple h1
    obtain ⟨it2, r2, p2, _⟩ := I.tuple h2
    cases nil_size r2
    have e := empB xs its r.length
    refine SeqAt.eq_tupleAt (e := fun _ => true) p p2 hu0 (fun j h1 h2 => absurd h2 (Nat.not_lt_zero _)) ⟨.bl xs.isEmpty, H, I, ?_, q⟩
    show Value.bool _ = _
    rw [e]
    simp
theorem op_neE {X : Cx} (hu : X.A.units + 1 < cLine) : OpR X (compareOp .NotEq) (rEmp X.K true) := by
  intro pins s σ H x y v u Q I rx ry h
  obtain ⟨a, b, xs, rfl, rfl, h, q⟩ := h
  cases rx
  cases ry
  have hu0 : X.A.units < cLine := by omega
  rcases h with ⟨h1, h2⟩ | ⟨h1, h2⟩
  · obtain ⟨its, r, p, _⟩ := I.list h1
    obtain ⟨it2, r2, p2, _⟩ := I.list h2
    cases nil_size r2
    have e := empB xs its r.length
    by_cases hx : xs.isEmpty = true
    · rw [hx] at e
      have e2 : its = [] := by
        cases its with
        | nil => rfl
        | cons c d => cases e
      subst e2
      refine SeqAt.RcNeAt.lists (e := fun _ => true) p.isList p2.isList rfl hu0 (fun j h1 h2 => absurd h1 (Nat.not_lt_zero _)) _ _ _ _ ⟨.bl false, H, I, rfl, ?_⟩
      have q' : Q (.bl (!xs.isEmpty)) H := q
      rw [hx] at q'
      exact q'
    · have hx' : xs.isEmpty = false := by simpa using hx
      rw [hx'] at e
      refine SeqAt.RcNeAt.lists_lengths p.isList p2.isList (by rw [bne, e]; rfl) hu0 _ _ _ _ ⟨.bl true, H, I, rfl, ?_⟩
      have q' : Q (.bl (!xs.isEmpty)) H := q
      rw [hx'] at q'
      exact q'
  · obtain ⟨its, r, p, _⟩ := I.tuple h1
    obtain ⟨it2, r2, p2, _⟩ := I.tuple h2
    cases nil_size r2
    have e := empB xs its r.length
    refine SeqAt.RcNeAt.tuples (e := fun _ => true) p p2 hu0 (fun j h1 h2 => absurd h2 (Nat.not_lt_zero _)) _ _ _ _ ⟨.bl (!xs.isEmpty), H, I, ?_, q⟩
    show Value.bool _ = _
    rw [e]
    simp
section
variable {X : Cx}
theorem eqE (K : PySem.W.Frag) (h : X.K = K) (hu : X.A.units + 1 < cLine) : OpR X (compareOp .Eq) (rEmp K false) := h ▸ op_eqE hu
theorem neE (K : PySem.W.Frag) (h : X.K = K) (hu : X.A.units + 1 < cLine) : OpR X (compareOp .NotEq) (rEmp K true) := h ▸ op_neE hu
end
section
variable {A B : Prop} {a b : Str}
theorem iteN (k : B) (h : (a == b) = false := by decide +kernel) : if decide (V.str a = V.str b) = true then A else B := by
  rw [dec_str, h]
  exact iteF k
theorem iteY (k : A) (h : (a == b) = true := by decide +kernel) : if decide (V.str a = V.str b) = true then A else B := by
  rw [dec_str, h]
  exact iteT k
end
theorem atI_zero {α : Type} (x : α) (r : List α) : atI (x :: r) 0 = some x := atI_nat (j := 0) rfl
theorem cat_any {K : PySem.W.Frag} {H : Hp} {a b : Addr} {xs ys : List V} {Q : VK} (h1 : SqT K H a xs) (h2 : SqT K H b ys) (hz : xs.length + ys.length ≤ sizeLine) (k : ∀ H' p, Same H H' → SqT K H' p (xs ++ ys) → Q (.ref p) H') : rCatA K (.ref a) (.ref b) H Q := by
  refine ⟨a, b, xs, ys, rfl, rfl, h1, h2, hz, fun e => ?_, fun e1 e2 => ?_, fun _ _ p hp => k _ p (same_new hp) (SqT.of upd_same)⟩
  · subst e
    exact k H b (Same.refl _) h2
  · subst e2
    exact k H a (Same.refl _) (by rw [List.append_nil]; exact h1)

/-! ### the words of a program -/
def ixn (x : Bool) : Str := if x then "j" else "i"
def tAt : PyData := .tuple [.str "at", .str "i", .str "j"]
mutual
def enc (nm : Nat → Str) : Cmd → PyData
  | .up x => .tuple [.str "up", .str (ixn x)]
  | .zero x => .tuple [.str "zero", .str (ixn x)]
  | .call k => .tuple [.str "do", .str (nm k)]
  | .win => .tuple [.str "wins", .str "one"]
  | .rep p cs => .tuple [.str "repeat", encP p, .tuple (encs nm cs)]
  | .ifat cs ds => .tuple [.str "if", tAt, .tuple (encs nm cs), .tuple (encs nm ds)]
def encs (nm : Nat → Str) : List Cmd → List PyData
  | [] => []
  | c :: cs => enc nm c :: encs nm cs
end
theorem encs_map (nm : Nat → Str) : ∀ cs : List Cmd, encs nm cs = cs.map (enc nm)
  | [] => rfl
  | c :: cs => by rw [encs, List.map_cons, encs_map nm cs]
theorem encs_app (nm : Nat → Str) (cs ds : List Cmd) : encs nm (cs ++ ds) = encs nm cs ++ encs nm ds := by simp only [encs_map, List.map_append]
mutual
def csz : Cmd → Nat
  | .rep _ cs => 1 + cszs cs
  | .ifat cs ds => 1 + cszs cs + cszs ds
  | _ => 1
def cszs : List Cmd → Nat
  | [] => 0
  | c :: cs => csz c + cszs cs
end
theorem cszs_app : ∀ cs ds : List Cmd, cszs (cs ++ ds) = cszs cs + cszs ds
  | [], ds => by rw [List.nil_append, cszs, Nat.zero_add]
  | c :: cs, ds => by rw [List.cons_append, cszs, cszs, cszs_app cs ds, Nat.add_assoc]
theorem csz_pos : ∀ c : Cmd, 1 ≤ csz c := by
  intro c
  cases c <;> simp only [csz] <;> omega
theorem len_cszs : ∀ cs : List Cmd, cs.length ≤ cszs cs
  | [] => Nat.zero_le _
  | c :: cs => by
    have := len_cszs cs
    have := csz_pos c
    rw [cszs, List.length_cons]
    omega
theorem cszs_mem {c : Cmd} : ∀ {cs : List Cmd}, c ∈ cs → csz c ≤ cszs cs
  | [], h => absurd h List.not_mem_nil
  | d :: cs, h => by
    rw [cszs]
    rcases List.mem_cons.mp h with h | h
    · subst h
      omega
    · have := cszs_mem h
      omega
def signs : Str := "abcdefghijklmnopqrstuvwxyz0123456789_"
def okN (z : Str) : Bool := decide (1 ≤ z.cps.size) && decide (z.cps.size ≤ 12) && z.cps.toList.all (fun c => decide (c ∈ signs.cps.toList)) && z.cps.toList.head?.any (fun c => decide (c ∈ lets.cps.toList)) && !inV (.str z) (vS kwords)
mutual
def okC (nm : Nat → Str) (b : Nat) : Cmd → Prop
  | .call k => k < b ∧ okN (nm k) = true
  | .rep p cs => OkP p ∧ okCs nm b cs
  | .ifat cs ds => okCs nm b cs ∧ okCs nm b ds
  | _ => True
def okCs (nm : Nat → Str) (b : Nat) : List Cmd → Prop
  | [] => True
  | c :: cs => okC nm b c ∧ okCs nm b cs
end
theorem okCs_app {nm : Nat → Str} {b : Nat} : ∀ {cs ds : List Cmd}, okCs nm b (cs ++ ds) ↔ okCs nm b cs ∧ okCs nm b ds
  | [], ds => by simp [okCs]
  | c :: cs, ds => by simp only [List.cons_append, okCs, okCs_app (cs := cs) (ds := ds), and_assoc]
theorem okCs_mem {nm : Nat → Str} {b : Nat} {c : Cmd} : ∀ {cs : List Cmd}, okCs nm b cs → c ∈ cs → okC nm b c
  | [], _, h => absurd h List.not_mem_nil
  | d :: cs, o, h => by
    rcases List.mem_cons.mp h with h | h
    · subst h
      exact o.1
    · exact okCs_mem o.2 h
def inner : Cmd → List Cmd
  | .rep _ cs => cs
  | .ifat cs ds => cs ++ ds
  | _ => []
theorem csz_inner (c : Cmd) : cszs (inner c) + 1 = csz c := by
  cases c <;> simp only [inner, csz, cszs, cszs_app] <;> omega
theorem okC_inner {nm : Nat → Str} {b : Nat} {c : Cmd} (h : okC nm b c) : okCs nm b (inner c) := by
  cases c with
  | rep p cs => exact h.2
  | ifat cs ds => exact okCs_app.mpr h
  | _ => exact True.intro
theorem TpAll.snoc {K : PySem.W.Frag} {H : Hp} : ∀ {ds : List PyData} {xs : List V} {d : PyData}, TpAll K H xs (ds ++ [d]) → ∃ ys x, xs = ys ++ [x] ∧ TpAll K H ys ds ∧ Tp K H x d
  | [], xs, d, h => by
    obtain ⟨x, r, rfl, h1, h2⟩ := tpa_cons h
    cases tpa_nil h2
    exact ⟨[], x, rfl, .nil, h1⟩
  | e :: ds, xs, d, h => by
    obtain ⟨x, r, rfl, h1, h2⟩ := tpa_cons h
    obtain ⟨ys, y, rfl, h3, h4⟩ := TpAll.snoc h2
    exact ⟨x :: ys, y, rfl, .cons h1 h3, h4⟩
theorem ixn_ok (x : Bool) : okN (ixn x) = true := by
  cases x <;> decide +kernel
/-! shapework -/
abbrev S_is_name_value : Stmt := top 30
abbrev N_is_name_value : List Str := ["thing"]
theorem sc_is_name_value : FnScope N_is_name_value ["thing"] (defScope S_is_name_value) := ⟨rfl, rfl, rfl, by decide +kernel, rfl, by decide +kernel, by decide +kernel⟩
theorem nd_is_name_value : N_is_name_value.Nodup := sc_is_name_value.nd
abbrev S_has_word : Stmt := top 31
abbrev N_has_word : List Str := ["thing"]
theorem sc_has_word : FnScope N_has_word ["thing"] (defScope S_has_word) := ⟨rfl, rfl, rfl, by decide +kernel, rfl, by decide +kernel, by decide +kernel⟩
theorem nd_has_word : N_has_word.Nodup := sc_has_word.nd
abbrev S_is_part : Stmt := top 32
abbrev N_is_part : List Str := ["kind", "thing"]
theorem sc_is_part : FnScope N_is_part ["kind", "thing"] (defScope S_is_part) := ⟨rfl, rfl, rfl, by decide +kernel, rfl, by decide +kernel, by decide +kernel⟩
theorem nd_is_part : N_is_part.Nodup := sc_is_part.nd
abbrev S_has_parts : Stmt := top 33
abbrev N_has_parts : List Str := ["thing", "kinds", "kind", "part"]
theorem sc_has_parts : FnScope N_has_parts ["thing", "kinds"] (defScope S_has_parts) := ⟨rfl, rfl, rfl, by decide +kernel, rfl, by decide +kernel, by decide +kernel⟩
theorem nd_has_parts : N_has_parts.Nodup := sc_has_parts.nd
abbrev S_is_test_value : Stmt := top 34
abbrev N_is_test_value : List Str := ["thing"]
theorem sc_is_test_value : FnScope N_is_test_value ["thing"] (defScope S_is_test_value) := ⟨rfl, rfl, rfl, by decide +kernel, rfl, by decide +kernel, by decide +kernel⟩
theorem nd_is_test_value : N_is_test_value.Nodup := sc_is_test_value.nd
abbrev S_inner_commands : Stmt := top 35
abbrev N_inner_commands : List Str := ["thing", "word", "many", "fits"]
theorem sc_inner_commands : FnScope N_inner_commands ["thing"] (defScope S_inner_commands) := ⟨rfl, rfl, rfl, by decide +kernel, rfl, by decide +kernel, by decide +kernel⟩
theorem nd_inner_commands : N_inner_commands.Nodup := sc_inner_commands.nd
abbrev S_are_commands : Stmt := top 36
abbrev N_are_commands : List Str := ["things", "waiting", "inner"]
theorem sc_are_commands : FnScope N_are_commands ["things"] (defScope S_are_commands) := ⟨rfl, rfl, rfl, by decide +kernel, rfl, by decide +kernel, by decide +kernel⟩
theorem nd_are_commands : N_are_commands.Nodup := sc_are_commands.nd
abbrev S_is_size : Stmt := top 37
abbrev N_is_size : List Str := ["thing"]
theorem sc_is_size : FnScope N_is_size ["thing"] (defScope S_is_size) := ⟨rfl, rfl, rfl, by decide +kernel, rfl, by decide +kernel, by decide +kernel⟩
theorem nd_is_size : N_is_size.Nodup := sc_is_size.nd
abbrev S_is_procedure : Stmt := top 38
abbrev N_is_procedure : List Str := ["thing"]
theorem sc_is_procedure : FnScope N_is_procedure ["thing"] (defScope S_is_procedure) := ⟨rfl, rfl, rfl, by decide +kernel, rfl, by decide +kernel, by decide +kernel⟩
theorem nd_is_procedure : N_is_procedure.Nodup := sc_is_procedure.nd
abbrev S_is_script_value : Stmt := top 39
abbrev N_is_script_value : List Str := ["thing", "tapes", "indexes", "procedures", "part", "pair"]
theorem sc_is_script_value : FnScope N_is_script_value ["thing"] (defScope S_is_script_value) := ⟨rfl, rfl, rfl, by decide +kernel, rfl, by decide +kernel, by decide +kernel⟩
theorem nd_is_script_value : N_is_script_value.Nodup := sc_is_script_value.nd
def spName : Sp := fun vs H Q _ => ∃ z, vs = [.str z] ∧ okN z = true ∧ ∀ H', Same H H' → Q (.bl true) H'
def spHasWord (K : PySem.W.Frag) : Sp := fun vs H Q _ => ∃ a z xs, vs = [.ref a] ∧ SqT K H a (.str z :: xs) ∧ ∀ H', Same H H' → Q (.bl true) H'
def PartOk (k p : V) : Prop := ((k = .str "index" ∨ k = .str "procedure") ∧ ∃ z, p = .str z ∧ okN z = true) ∨ (k = .str "player" ∧ p = .str "one")
def spPart : Sp := fun vs H Q _ => ∃ k p, vs = [k, p] ∧ PartOk k p ∧ ∀ H', Same H H' → Q (.bl true) H'
def spParts (K : PySem.W.Frag) : Sp := fun vs H Q _ => ∃ a b x, ∃ ps ks : List V, vs = [.ref a, .ref b] ∧ SqT K H a (x :: ps) ∧ SqT K H b ks ∧ ps.length = ks.length ∧ ks.length ≤ 5 ∧ (∀ (i : Nat) (k p : V), ks[i]? = some k → ps[i]? = some p → PartOk k p) ∧ ∀ H', Same H H' → Q (.bl true) H'
def spTestV (K : PySem.W.Frag) : Sp := fun vs H Q _ => ∃ v, vs = [v] ∧ Tp K H v tAt ∧ ∀ H', Same H H' → Q (.bl true) H'
def spInner (K : PySem.W.Frag) : Sp := fun vs H Q _ => ∃ v nm b c, vs = [v] ∧ Tp K H v (enc nm c) ∧ okC nm b c ∧ csz c ≤ 1000 ∧ ∀ H' p xs, Same H H' → H p = none → H' p = some (.lst xs) → TpAll K H' xs (encs nm (inner c)) → Q (.ref p) H'
def spCmds (K : PySem.W.Frag) : Sp := fun vs H Q _ => ∃ v nm b cs, vs = [v] ∧ Tp K H v (.tuple (encs nm cs)) ∧ okCs nm b cs ∧ cszs cs ≤ 1000 ∧ ∀ H', Same H H' → Q (.bl true) H'
section
variable {P : Program} {w : World} {K : PySem.W.Frag} {mg : Str → Option Value} {base : Heap} {a : Ads}
theorem fk_is_name_value (T : Txt K mg w a) : Fk P w K mg base "is_name_value" 3 ["thing"] spName := by
  have F_is_word_of := fk_is_word_of (P := P) (base := base) T
  refine (show Df K mg "is_name_value" (top 30) from T.fn 13 _ rfl).fk sc_is_name_value (fun vs H Q E h => ?_) (fun _ _ _ _ _ _ us hl => match us, hl with | [_], _ => rfl) fun f cdv A outer s H vs Q E hr h => ?_
  · obtain ⟨z, rfl, _⟩ := h
    rfl
  · obtain ⟨z, rfl, ok, k⟩ := h
    have hu := hu_of hr
    simp only [okN, Bool.and_eq_true, decide_eq_true_eq, Bool.not_eq_true'] at ok
    obtain ⟨⟨⟨⟨o1, o2⟩, o3⟩, o4⟩, o5⟩ := ok
    have hl : z.length = z.cps.size := by simp [Str.length]
    refine ⟨_, (pss_cons (ps_if (PW.pt (pw_or (pt_not (pt_val (pe_f (F_is_word_of) (hr.mono (by decide)) rfl (pa_cons (pv 0) (pa_cons (pe_gs rfl T.NAME_SIGNS) pa_nil))))) (pw_or1 (pt_not (pt_chain op_le op_le pe_int (pe_callB call_len_str (by rfl) T.len (by decide +kernel) (pa_cons (pv 0) pa_nil)) (pe_gi rfl T.LONGEST_NAME)))))) (pss_one (ps_ret pe_bl)) pss_nil)
      (pss_one (ps_ret (pe_and (pe_cmpR op_in_sign (pe_ix ix_str (pv 0) pe_int (fun _ _ => rfl)) (pe_gs rfl T.LETTERS) (by rfl)) (pe_one (pe_cmpR (niS K rfl) (pv 0) (pe_gr rfl T.KEYWORDS) (by rfl))))))), ?_⟩
    refine ⟨_, rfl, z, signs, rfl, small_line (by omega), fun c hc => ?_, fun H1 s1 => ?_⟩
    · have := List.all_eq_true.mp o3 c hc
      exact of_decide_eq_true this
    refine ⟨_, rfl, ?_⟩
    refine iteF ?_
    refine ⟨_, rfl, _, rfl, small_le (by omega), _, _, rfl, rfl, _, rfl, ?_⟩
    rw [decide_eq_true (by omega)]
    refine iteT ⟨_, _, rfl, rfl, _, rfl, ?_⟩
    rw [decide_eq_true (by omega)]
    refine iteF ?_
    cases e : z.cps.toList with
    | nil =>
      rw [e] at o4
      cases o4
    | cons c r =>
      have o4' : c ∈ lets.cps.toList := by
        rw [e] at o4
        exact of_decide_eq_true o4
      refine ⟨_, rfl, _, _, c, rfl, rfl, small_le (by omega), by rw [e]; exact atI_zero _ _, c, lets, rfl, rfl, _, rfl, ?_⟩
      rw [decide_eq_true o4']
      refine iteT ⟨_, rfl, _, _, rfl, .inr (T.kws _), rfl, by decide +kernel, ?_⟩
      show Q (.bl (!inV (.str z) (vS kwords))) _
      rw [o5]
      exact k _ s1
theorem fk_has_word (T : Txt K mg w a) : Fk P w K mg base "has_word" 1 ["thing"] (spHasWord K) := by
  refine (show Df K mg "has_word" (top 31) from T.fn 14 _ rfl).fk sc_has_word (fun vs H Q E h => ?_) (fun _ _ _ _ _ _ us hl => match us, hl with | [_], _ => rfl) fun f cdv A outer s H vs Q E hr h => ?_
  · obtain ⟨p, z, xs, rfl, _⟩ := h
    rfl
  · obtain ⟨p, z, xs, rfl, hx, k⟩ := h
    have hu := hu_of hr
    refine ⟨_, (pss_one (ps_ret (pe_and (pe_callB (isA K rfl) (by rfl) T.isinstance (by decide +kernel) (pa_cons (pv 0) (pa_cons (pe_ty "tuple" rfl T.tuple (by decide +kernel)) pa_nil))) (pe_and (pe_cmpR (neE K rfl hu) (pv 0) (pe_tup pa_nil) (nomark _)) (pe_one (pe_callB (isA K rfl) (by rfl) T.isinstance (by decide +kernel) (pa_cons (pe_ix (ixT K rfl) (pv 0) pe_int (fun _ _ => rfl)) (pa_cons (pe_ty "str" rfl T.str (by decide +kernel)) pa_nil)))))))), ?_⟩
    refine ⟨_, rfl, _, _, _, rfl, .tup hx, _, rfl, iteT ⟨_, rfl, Nat.zero_le _, fun t ht => ?_⟩⟩
    have s1 : Same H (upd H t (.tup [])) := same_new ht
    refine ⟨_, _, _, rfl, rfl, .inr ⟨s1.tq hx, SqT.of upd_same⟩, _, rfl, iteT ⟨_, rfl, _, _, _, _, rfl, rfl, s1.tq hx, atI_zero _ _, _, _, _, rfl, .str z, k _ s1⟩⟩
theorem fk_is_part (T : Txt K mg w a) : Fk P w K mg base "is_part" 4 ["kind", "thing"] spPart := by
  have F_is_letter : True := True.intro
  have F_is_player := fk_is_player (P := P) (base := base) T
  have F_is_name_value := fk_is_name_value (P := P) (base := base) T
  refine (show Df K mg "is_part" (top 32) from T.fn 15 _ rfl).fk sc_is_part (fun vs H Q E h => ?_) (fun _ _ _ _ _ _ us hl => match us, hl with | [_, _], _ => rfl) fun f cdv A outer s H vs Q E hr h => ?_
  · obtain ⟨c, p, rfl, _⟩ := h
    rfl
  · obtain ⟨c, p, rfl, hp, k⟩ := h
    refine ⟨_, (pss_cons (ps_if (pt_cmpR op_eq (pv 0) pe_str (nomark _)) pss_never pss_nil)
      (pss_cons (ps_if (pt_cmpR op_eq (pv 0) pe_str (nomark _)) pss_never pss_nil)
      (pss_cons (ps_if (pt_cmpR op_eq (pv 0) pe_str (nomark _)) (pss_one (ps_ret (pe_f (F_is_player) (hr.mono (by decide)) rfl (pa_cons (pv 1) pa_nil)))) pss_nil)
      (pss_one (ps_ret (pe_f (F_is_name_value) (hr.mono (by decide)) rfl (pa_cons (pv 1) pa_nil))))))), ?_⟩
    rcases hp with ⟨rfl | rfl, z, rfl, ok⟩ | ⟨rfl, rfl⟩
    · refine ⟨_, rfl, rfl, _, rfl, iteN ⟨_, rfl, rfl, _, rfl, iteN ⟨_, rfl, rfl, _, rfl, iteN ?_⟩⟩⟩
      exact ⟨_, rfl, z, rfl, ok, k⟩
    · refine ⟨_, rfl, rfl, _, rfl, iteN ⟨_, rfl, rfl, _, rfl, iteN ⟨_, rfl, rfl, _, rfl, iteN ?_⟩⟩⟩
      exact ⟨_, rfl, z, rfl, ok, k⟩
    · refine ⟨_, rfl, rfl, _, rfl, iteN ⟨_, rfl, rfl, _, rfl, iteN ⟨_, rfl, rfl, _, rfl, iteY ?_⟩⟩⟩
      exact ⟨_, rfl, rfl, k⟩
theorem fk_has_parts (T : Txt K mg w a) : Fk P w K mg base "has_parts" 5 ["thing", "kinds"] (spParts K) := by
  have F_is_part := fk_is_part (P := P) (base := base) T
  refine (show Df K mg "has_parts" (top 33) from T.fn 16 _ rfl).fk sc_has_parts (fun vs H Q E h => ?_) (fun _ _ _ _ _ _ us hl => match us, hl with | [_, _], _ => rfl) fun f cdv A outer s H vs Q E hr h => ?_
  · obtain ⟨c, b, x, ps, ks, rfl, _⟩ := h
    rfl
  · obtain ⟨c, b, x, ps, ks, rfl, hc, hb, hl, h5, hp, k⟩ := h
    refine ⟨_, (pss_cons (ps_if (pt_cmpR op_ne (pe_callB (lenS K rfl) (by rfl) T.len (by decide +kernel) (pa_cons (pv 0) pa_nil)) (pe_op op_add (pe_callB (lenS K rfl) (by rfl) T.len (by decide +kernel) (pa_cons (pv 1) pa_nil)) pe_int) (nomark _)) (pss_one (ps_ret pe_bl)) pss_nil)
      (pss_one (ps_ret (pe_callB (allB K rfl rfl) (by rfl) T.all (by decide +kernel) (pa_cons (pe_lc (g := gTup K 2 (gCons (gName 2) (gCons (gName 3) gNil))) (own := [("kind", 2), ("part", 3)]) (by rfl) nd_has_parts (RZ.pi_zipA (by rfl) T.zip (pa_cons (pv 1) (pa_cons (pe_slice (slT K rfl) (pv 0) (po_some pe_int) po_none) pa_nil))) (blkOk_by (own := [("kind", 2), ("part", 3)]) (N := N_has_parts) (sc := defScope S_has_parts) (by decide +kernel)) (fun _ _ _ _ _ => (pgT K rfl rfl (pgs_cons (pg_name (i := 2) nd_has_parts rfl (by first | exact Or.inl rfl | exact Or.inr rfl)) (pgs_cons (pg_name (i := 3) nd_has_parts rfl (by first | exact Or.inl rfl | exact Or.inr rfl)) pgs_nil)))) (fun _ _ _ _ _ => pts_nil) (fun _ _ _ _ _ => (pe_f (F_is_part) (hr.mono (by decide)) rfl (pa_cons (pv 2) (pa_cons (pv 3) pa_nil))))) pa_nil))))), ?_⟩
    refine ⟨_, rfl, _, _, rfl, .inr hc, _, rfl, _, _, rfl, .inr hb, _, _, rfl, rfl, rfl, _, rfl, ?_⟩
    rw [show (!decide (V.int (((x :: ps).length : Nat) : Int) = V.int (((ks.length : Nat) : Int) + 1))) = false by rw [dec_int, List.length_cons, hl]; simp]
    refine iteF ⟨_, rfl, _, rfl, _, rfl, ?_⟩
    dsimp only [tNoPart]
    refine slA_tail hc fun H2 d s2 hd => ⟨b, d, ks, ps, rfl, .inr ⟨s2.tq hb, hd, fun D2 hD2 => ?_⟩⟩
    have hm : min ks.length ps.length = ks.length := by omega
    refine lc_all (walk_zipT (xs := ks) (ys := ps) rfl) hD2 (small_line (by omega)) (List.replicate (min ks.length ps.length) (.bl true)) (by simp) (fun H3 s3 => ⟨s3.tq (s2.tq hb), s3.tq hd⟩) ?_ ?_
    · rintro i x H3 H4 hi s3 ⟨T2, x1, x2, rfl, hT, rfl, hx1, hx2⟩ Kq q
      have sn : Same H3 (upd H3 T2 (.tup [x1, x2])) := same_new hT
      refine ⟨T2, _, rfl, SqT.of upd_same, rfl, _, _, rfl, _, _, rfl, rfl, rfl, ?_⟩
      refine ⟨_, rfl, _, rfl, x1, x2, rfl, hp i _ _ hx1 hx2, fun H5 s5 => q _ _ (sn.trans s5) (by rw [List.getElem?_replicate, if_pos hi])⟩
    · intro H3 s3 h3
      refine ⟨D2, List.replicate (min ks.length ps.length) true, rfl, SqL.of (by rw [List.map_replicate]; exact h3), ?_⟩
      rw [all_true]
      exact k _ (s2.trans s3)
theorem kdct_of {x : Str} {d : Addr} {rows : List (Str × List V)} {no : List Str} (t : TabAt K mg w x d rows no) {z : Str} {xs : List V} (h : (z, xs) ∈ rows) : ∃ b, KDct K w d z (.ref b) ∧ ∀ H, SqT K H b xs := by
  obtain ⟨es, n, D⟩ := t.kd
  obtain ⟨b, h1, h2⟩ := t.rows _ h
  exact ⟨b, ⟨es, n, .ref b, D.at_, D.lit, h1, rfl⟩, h2⟩
theorem fk_is_test_value (T : Txt K mg w a) : Fk P w K mg base "is_test_value" 6 ["thing"] (spTestV K) := by
  have F_is_tuple := fk_is_tuple (P := P) (base := base) T
  have F_has_word := fk_has_word (P := P) (base := base) T
  have F_has_parts := fk_has_parts (P := P) (base := base) T
  obtain ⟨es_, n_, D_⟩ := T.TEST_PARTS.kd
  refine (show Df K mg "is_test_value" (top 34) from T.fn 17 _ rfl).fk sc_is_test_value (fun vs H Q E h => ?_) (fun _ _ _ _ _ _ us hl => match us, hl with | [_], _ => rfl) fun f cdv A outer s H vs Q E hr h => ?_
  · obtain ⟨v, rfl, _⟩ := h
    rfl
  · obtain ⟨v, rfl, hv, k⟩ := h
    obtain ⟨c, x, y, z, rfl, hc, hx, hy, hz⟩ := tp_three hv
    cases tp_str hx
    cases tp_str hy
    cases tp_str hz
    obtain ⟨b, hb1, hb2⟩ := kdct_of T.TEST_PARTS (List.mem_cons_self ..)
    obtain ⟨b', hb3, _⟩ := T.TEST_PARTS.rows _ (List.mem_cons_self ..)
    refine ⟨_, (pss_cons (ps_while PassesOwn.never (PW.pt (pw_and (pt_val (pe_f (F_is_tuple) (hr.mono (by decide)) rfl (pa_cons (pv 0) (pa_cons pe_int pa_nil)))) (pw_and1 (pt_cmpR op_eq (pe_ix (ixT K rfl) (pv 0) pe_int (fun _ _ => rfl)) pe_str (nomark _))))) (pss_one (ps_set (i := 0) nd_is_test_value rfl (by first | exact Or.inl rfl | exact Or.inr rfl) (pe_ix (ixT K rfl) (pv 0) pe_int (fun _ _ => rfl)))))
      (pss_one (ps_ret (pe_and (pe_f (F_has_word) (hr.mono (by decide)) rfl (pa_cons (pv 0) pa_nil)) (pe_and (pe_cmpR (op_in_kd D_) (pe_ix (ixT K rfl) (pv 0) pe_int (fun _ _ => rfl)) (pe_gr rfl T.TEST_PARTS.mg) (by rfl)) (pe_one (pe_f (F_has_parts) (hr.mono (by decide)) rfl (pa_cons (pv 0) (pa_cons (pe_ix ix_kdict (pe_gr rfl T.TEST_PARTS.mg) (pe_ix (ixT K rfl) (pv 0) pe_int (fun _ _ => rfl)) (fun _ _ => rfl)) pa_nil))))))))), ?_⟩
    refine ⟨fun m σ H' => H' = H ∧ σ = start N_is_test_value [.ref c], ⟨0, rfl, rfl⟩, ?_⟩
    rintro m σ H' ⟨rfl, rfl⟩
    refine ⟨_, rfl, c, _, 2, rfl, hc, _, rfl, iteF (iteF ?_)⟩
    refine ⟨_, rfl, c, _, _, rfl, hc, fun H1 s1 => ⟨_, rfl, iteT ?_⟩⟩
    refine ⟨_, rfl, _, _, _, _, rfl, rfl, s1.tq hc, rfl, _, _, rfl, rfl, hb3, _, rfl, iteT ?_⟩
    refine ⟨_, rfl, _, rfl, _, _, _, _, rfl, rfl, s1.tq hc, rfl, _, _, _, rfl, rfl, hb1, ?_⟩
    refine ⟨_, _, _, _, _, rfl, s1.tq hc, hb2 _, rfl, by decide, fun i c p h1 h2 => ?_, fun H2 s2 => k _ (s1.trans s2)⟩
    match i, h1, h2 with
    | 0, h1, h2 =>
      cases Option.some.inj h1
      cases Option.some.inj h2
      exact .inl ⟨.inl rfl, _, rfl, by decide +kernel⟩
    | 1, h1, h2 =>
      cases Option.some.inj h1
      cases Option.some.inj h2
      exact .inl ⟨.inl rfl, _, rfl, by decide +kernel⟩
    | i + 2, h1, h2 => cases h1
def leafRows : List (Str × List V) := [("up", vS ["index"]), ("zero", vS ["index"]), ("do", vS ["procedure"]), ("wins", vS ["player"])]
theorem leaf_of {H : Hp} {v : V} {nm : Nat → Str} {b : Nat} {c : Cmd} (hv : Tp K H v (enc nm c)) (hok : okC nm b c) (h1 : ∀ cs ds, c ≠ .ifat cs ds) (h2 : ∀ p cs, c ≠ .rep p cs) :
    ∃ p wd pv kd, v = .ref p ∧ SqT K H p [.str wd, pv] ∧ (wd == ("if" : Str)) = false ∧ (wd == ("repeat" : Str)) = false ∧ (wd, [kd]) ∈ leafRows ∧ PartOk kd pv ∧ inner c = [] := by
  cases c with
  | ifat cs ds => exact absurd rfl (h1 cs ds)
  | rep p cs => exact absurd rfl (h2 p cs)
  | up x =>
    obtain ⟨p, y, z, rfl, hp, e1, e2⟩ := tp_two hv
    cases tp_str e1
    cases tp_str e2
    exact ⟨p, _, _, .str "index", rfl, hp, by decide +kernel, by decide +kernel, List.mem_cons_self .., .inl ⟨.inl rfl, _, rfl, ixn_ok x⟩, rfl⟩
  | zero x =>
    obtain ⟨p, y, z, rfl, hp, e1, e2⟩ := tp_two hv
    cases tp_str e1
    cases tp_str e2
    exact ⟨p, _, _, .str "index", rfl, hp, by decide +kernel, by decide +kernel, List.mem_cons_of_mem _ (List.mem_cons_self ..), .inl ⟨.inl rfl, _, rfl, ixn_ok x⟩, rfl⟩
  | call j =>
    obtain ⟨p, y, z, rfl, hp, e1, e2⟩ := tp_two hv
    cases tp_str e1
    cases tp_str e2
    exact ⟨p, _, _, .str "procedure", rfl, hp, by decide +kernel, by decide +kernel, List.mem_cons_of_mem _ (List.mem_cons_of_mem _ (List.mem_cons_self ..)), .inl ⟨.inr rfl, _, rfl, hok.2⟩, rfl⟩
  | win =>
    obtain ⟨p, y, z, rfl, hp, e1, e2⟩ := tp_two hv
    cases tp_str e1
    cases tp_str e2
    exact ⟨p, _, _, .str "player", rfl, hp, by decide +kernel, by decide +kernel, List.mem_cons_of_mem _ (List.mem_cons_of_mem _ (List.mem_cons_of_mem _ (List.mem_cons_self ..))), .inr ⟨rfl, rfl⟩, rfl⟩
theorem fk_inner_commands (T : Txt K mg w a) : Fk P w K mg base "inner_commands" 7 ["thing"] (spInner K) := by
  have F_is_test_value := fk_is_test_value (P := P) (base := base) T
  have F_is_poly_value := fk_is_poly_value (P := P) (base := base) T
  have F_has_word := fk_has_word (P := P) (base := base) T
  have F_has_parts := fk_has_parts (P := P) (base := base) T
  obtain ⟨es_, n_, D_⟩ := T.COMMAND_PARTS.kd
  refine (show Df K mg "inner_commands" (top 35) from T.fn 18 _ rfl).fk sc_inner_commands (fun vs H Q E h => ?_) (fun _ _ _ _ _ _ us hl => match us, hl with | [_], _ => rfl) fun f cdv A outer s H vs Q E hr h => ?_
  · obtain ⟨v, nm, b, c, rfl, _⟩ := h
    rfl
  · obtain ⟨v, nm, b, c, rfl, hv, hok, hz, k⟩ := h
    refine ⟨_, (pss_cons (ps_if (pt_not (pt_val (pe_f (F_has_word) (hr.mono (by decide)) rfl (pa_cons (pv 0) pa_nil)))) (pss_one (ps_ret pe_non)) pss_nil)
      (pss_cons (ps_par (by rfl) nd_inner_commands (i := 1) (j := 2) rfl rfl (by decide) rfl rfl (pa_cons (pe_ix (ixT K rfl) (pv 0) pe_int (fun _ _ => rfl)) (pa_cons (pe_callB (lenS K rfl) (by rfl) T.len (by decide +kernel) (pa_cons (pv 0) pa_nil)) pa_nil)) (by rfl))
      (pss_cons (ps_if (pt_cmpR op_eq (pv 1) pe_str (nomark _)) (pss_cons (ps_set (i := 3) nd_inner_commands rfl (by first | exact Or.inl rfl | exact Or.inr rfl) (pe_and (pe_cmpR op_eq (pv 2) pe_int (nomark _)) (pe_and (pe_f (F_is_test_value) (hr.mono (by decide)) rfl (pa_cons (pe_ix (ixT K rfl) (pv 0) pe_int (fun _ _ => rfl)) pa_nil)) (pe_and (pe_callB (isA K rfl) (by rfl) T.isinstance (by decide +kernel) (pa_cons (pe_ix (ixT K rfl) (pv 0) pe_int (fun _ _ => rfl)) (pa_cons (pe_ty "tuple" rfl T.tuple (by decide +kernel)) pa_nil))) (pe_one (pe_callB (isA K rfl) (by rfl) T.isinstance (by decide +kernel) (pa_cons (pe_ix (ixT K rfl) (pv 0) pe_int (fun _ _ => rfl)) (pa_cons (pe_ty "tuple" rfl T.tuple (by decide +kernel)) pa_nil))))))))
      (pss_one (ps_ret (pe_ifExp (pt_val (pv 3)) (pe_callTy call_list_of (by rfl) T.list (by decide +kernel) (pa_cons (pe_op (catT K rfl) (pe_ix (ixT K rfl) (pv 0) pe_int (fun _ _ => rfl)) (pe_ix (ixT K rfl) (pv 0) pe_int (fun _ _ => rfl))) pa_nil)) pe_non)))) pss_nil)
      (pss_cons (ps_if (pt_cmpR op_eq (pv 1) pe_str (nomark _)) (pss_cons (ps_set (i := 3) nd_inner_commands rfl (by first | exact Or.inl rfl | exact Or.inr rfl) (pe_and (pe_cmpR op_eq (pv 2) pe_int (nomark _)) (pe_and (pe_f (F_is_poly_value) (hr.mono (by decide)) rfl (pa_cons (pe_ix (ixT K rfl) (pv 0) pe_int (fun _ _ => rfl)) pa_nil)) (pe_one (pe_callB (isA K rfl) (by rfl) T.isinstance (by decide +kernel) (pa_cons (pe_ix (ixT K rfl) (pv 0) pe_int (fun _ _ => rfl)) (pa_cons (pe_ty "tuple" rfl T.tuple (by decide +kernel)) pa_nil)))))))
      (pss_one (ps_ret (pe_ifExp (pt_val (pv 3)) (pe_callTy call_list_of (by rfl) T.list (by decide +kernel) (pa_cons (pe_ix (ixT K rfl) (pv 0) pe_int (fun _ _ => rfl)) pa_nil)) pe_non)))) pss_nil)
      (pss_cons (ps_set (i := 3) nd_inner_commands rfl (by first | exact Or.inl rfl | exact Or.inr rfl) (pe_and (pe_cmpR (op_in_kd D_) (pv 1) (pe_gr rfl T.COMMAND_PARTS.mg) (by rfl)) (pe_one (pe_f (F_has_parts) (hr.mono (by decide)) rfl (pa_cons (pv 0) (pa_cons (pe_ix ix_kdict (pe_gr rfl T.COMMAND_PARTS.mg) (pv 1) (fun _ _ => rfl)) pa_nil))))))
      (pss_one (ps_ret (pe_ifExp (pt_val (pv 3)) (pe_lst pa_nil) pe_non)))))))), ?_⟩
    cases c with
    | ifat cs ds =>
      obtain ⟨p, xs, rfl, hp, r⟩ := tp_tup hv
      obtain ⟨x, r1, rfl, h1, r⟩ := tpa_cons r
      obtain ⟨y, r2, rfl, h2, r⟩ := tpa_cons r
      obtain ⟨z, r3, rfl, h3, r⟩ := tpa_cons r
      obtain ⟨u, r4, rfl, h4, r⟩ := tpa_cons r
      cases tpa_nil r
      cases tp_str h1
      obtain ⟨pz, zs, rfl, hz1, hz2⟩ := tp_tup h3
      obtain ⟨pu, us, rfl, hu1, hu2⟩ := tp_tup h4
      refine ⟨_, rfl, p, _, _, rfl, hp, fun H1 s1 => ⟨_, rfl, iteF ?_⟩⟩
      refine ⟨_, rfl, _, _, _, _, rfl, rfl, s1.tq hp, rfl, _, rfl, _, _, rfl, .inr (s1.tq hp), ?_⟩
      refine ⟨_, _, rfl, _, rfl, rfl, _, rfl, iteY ?_⟩
      refine ⟨_, rfl, rfl, _, rfl, iteT ⟨_, rfl, _, _, _, _, rfl, rfl, s1.tq hp, rfl, _, rfl, h2.same s1, fun H2 s2 => ⟨_, rfl, iteT ?_⟩⟩⟩
      have s12 := s1.trans s2
      refine ⟨_, rfl, _, _, _, _, rfl, rfl, s12.tq hp, rfl, _, _, _, rfl, .tup (s12.tq hz1), _, rfl, iteT ?_⟩
      refine ⟨_, rfl, _, _, _, _, rfl, rfl, s12.tq hp, rfl, _, _, _, rfl, .tup (s12.tq hu1), ?_⟩
      refine ⟨_, rfl, _, rfl, iteT ?_⟩
      refine ⟨_, rfl, _, _, _, _, rfl, rfl, s12.tq hp, rfl, _, rfl, _, _, _, _, rfl, rfl, s12.tq hp, rfl, ?_⟩
      have l1 := hz2.len
      have l2 := hu2.len
      have l3 := len_cszs cs
      have l4 := len_cszs ds
      rw [encs_map, List.length_map] at l1 l2
      have hz' : 1 + cszs cs + cszs ds ≤ 1000 := by rw [csz] at hz; exact hz
      refine cat_any (s12.tq hz1) (s12.tq hu1) (small_le (by omega)) fun H3 q s3 hq => ⟨q, _, rfl, .inr hq, fun l hl => ?_⟩
      have s123 := (s12.trans s3).trans (same_new (o := .lst (zs ++ us)) hl)
      refine k _ l (zs ++ us) s123 ?_ upd_same ?_
      · cases e : H l with
        | none => rfl
        | some o =>
          have := (s12.trans s3) l o e
          rw [hl] at this
          cases this
      · show TpAll K _ _ (encs nm (cs ++ ds))
        rw [encs_app]
        exact (hz2.same s123).app (hu2.same s123)
    | rep q cs =>
      obtain ⟨p, x, y, z, rfl, hp, h1, h2, h3⟩ := tp_three hv
      cases tp_str h1
      obtain ⟨pz, zs, rfl, hz1, hz2⟩ := tp_tup h3
      refine ⟨_, rfl, p, _, _, rfl, hp, fun H1 s1 => ⟨_, rfl, iteF ?_⟩⟩
      refine ⟨_, rfl, _, _, _, _, rfl, rfl, s1.tq hp, rfl, _, rfl, _, _, rfl, .inr (s1.tq hp), ?_⟩
      refine ⟨_, _, rfl, _, rfl, rfl, _, rfl, iteN ⟨_, rfl, rfl, _, rfl, iteY ?_⟩⟩
      refine ⟨_, rfl, rfl, _, rfl, iteT ⟨_, rfl, _, _, _, _, rfl, rfl, s1.tq hp, rfl, _, q, rfl, h2.same s1, hok.1, fun H2 s2 => ⟨_, rfl, iteT ?_⟩⟩⟩
      have s12 := s1.trans s2
      refine ⟨_, rfl, _, _, _, _, rfl, rfl, s12.tq hp, rfl, _, _, _, rfl, .tup (s12.tq hz1), ?_⟩
      refine ⟨_, rfl, _, rfl, iteT ?_⟩
      refine ⟨_, rfl, _, _, _, _, rfl, rfl, s12.tq hp, rfl, pz, _, rfl, .inr (s12.tq hz1), fun l hl => ?_⟩
      have s123 := s12.trans (same_new (o := .lst zs) hl)
      refine k _ l zs s123 ?_ upd_same (hz2.same s123)
      cases e : H l with
      | none => rfl
      | some o =>
        have := s12 l o e
        rw [hl] at this
        cases this
    | _ =>
      obtain ⟨p, wd, pv, kd, rfl, hp, n1, n2, hm, ok, ei⟩ := leaf_of hv hok (fun _ _ e => nomatch e) (fun _ _ e => nomatch e)
      obtain ⟨b1, hb1, hb2⟩ := kdct_of T.COMMAND_PARTS hm
      obtain ⟨b', hb3, _⟩ := T.COMMAND_PARTS.rows _ hm
      refine ⟨_, rfl, p, _, _, rfl, hp, fun H1 s1 => ⟨_, rfl, iteF ?_⟩⟩
      refine ⟨_, rfl, _, _, _, _, rfl, rfl, s1.tq hp, atI_zero _ _, _, rfl, _, _, rfl, .inr (s1.tq hp), ?_⟩
      refine ⟨_, _, rfl, _, rfl, rfl, _, rfl, iteN ⟨_, rfl, rfl, _, rfl, iteN ?_ n2⟩ n1⟩
      refine ⟨_, rfl, _, _, rfl, rfl, hb3, _, rfl, iteT ?_⟩
      refine ⟨_, rfl, _, rfl, _, _, _, rfl, rfl, hb1, ?_⟩
      refine ⟨_, _, _, _, _, rfl, s1.tq hp, hb2 _, rfl, (by decide : 1 ≤ 5), fun i c p h1 h2 => ?_, fun H2 s2 => ⟨_, rfl, _, rfl, iteT ⟨Nat.zero_le _, fun l hl => ?_⟩⟩⟩
      · match i, h1, h2 with
        | 0, h1, h2 =>
          cases Option.some.inj h1
          cases Option.some.inj h2
          exact ok
        | i + 1, h1, h2 => cases h1
      · have s3 := (s1.trans s2).trans (same_new (o := .lst []) hl)
        refine k _ l [] s3 ?_ upd_same (by rw [ei]; exact .nil)
        cases e : H l with
        | none => rfl
        | some o =>
          have := (s1.trans s2) l o e
          rw [hl] at this
          cases this
theorem fk_are_commands (T : Txt K mg w a) : Fk P w K mg base "are_commands" 8 ["things"] (spCmds K) := by
  have F_inner_commands := fk_inner_commands (P := P) (base := base) T
  refine (show Df K mg "are_commands" (top 36) from T.fn 19 _ rfl).fk sc_are_commands (fun vs H Q E h => ?_) (fun _ _ _ _ _ _ us hl => match us, hl with | [_], _ => rfl) fun f cdv A outer s H vs Q E hr h => ?_
  · obtain ⟨v, nm, b, cs, rfl, _⟩ := h
    rfl
  · obtain ⟨v, nm, b, cs, rfl, hv, hok, hz, k⟩ := h
    have hu := hu_of hr
    obtain ⟨p, xs, rfl, hp, r⟩ := tp_tup hv
    refine ⟨_, (pss_cons (ps_set (i := 1) nd_are_commands rfl (by first | exact Or.inl rfl | exact Or.inr rfl) (pe_callTy call_list_of (by rfl) T.list (by decide +kernel) (pa_cons (pv 0) pa_nil)))
      (pss_cons (ps_while PassesOwn.never (pt_cmpR (neE K rfl hu) (pv 1) (pe_lst pa_nil) (nomark _)) (pss_cons (ps_set (i := 2) nd_are_commands rfl (by first | exact Or.inl rfl | exact Or.inr rfl) (pe_f (F_inner_commands) (hr.mono (by decide)) rfl (pa_cons (pe_bm0 PySem.F.plainAttrs_list PySem.F.slot_list_pop PySem.F.type_list_pop mt_pop (pv 1)) pa_nil)))
      (pss_cons (ps_if (pt_cmpR op_isN (pv 2) pe_non (nomark _)) (pss_one (ps_ret pe_bl)) pss_nil)
      (pss_one (ps_expr (pe_bm PySem.F.plainAttrs_list PySem.F.slot_list_extend PySem.F.type_list_extend mt_extend (pv 1) (pa_cons (pv 2) pa_nil)))))))
      (pss_one (ps_ret pe_bl)))), ?_⟩
    refine ⟨_, rfl, p, xs, rfl, .inr hp, fun l hl => ?_⟩
    refine ⟨fun m σ H' => Same H H' ∧ ∃ z ys ds, σ = [some (.ref p), some (.ref l), z] ∧ H' l = some (.lst ys) ∧ TpAll K H' ys (encs nm ds) ∧ okCs nm b ds ∧ m = cszs ds ∧ m ≤ 1000, ⟨cszs cs, same_new hl, none, xs, cs, rfl, upd_same, r.same (same_new hl), hok, rfl, hz⟩, ?_⟩
    rintro m σ H' ⟨s1, z, ys, ds, rfl, hy, hr2, hok2, rfl, hm⟩
    refine ⟨_, rfl, Nat.zero_le _, fun t ht => ⟨l, t, ys, rfl, rfl, .inl ⟨SqL.of ((same_new ht) _ _ hy), SqL.of upd_same⟩, _, rfl, ?_⟩⟩
    have s2 : Same H' (upd H' t (.lst [])) := same_new ht
    have s12 := s1.trans s2
    rcases List.eq_nil_or_concat ds with rfl | ⟨ds', c, rfl⟩
    · cases tpa_nil hr2
      exact iteF (k _ s12)
    · rw [List.concat_eq_append, encs_app] at hr2
      rw [List.concat_eq_append] at hok2 hm
      obtain ⟨ys', x, rfl, h3, h4⟩ := hr2.snoc
      have ne : (!(ys' ++ [x]).isEmpty) = true := by cases ys' <;> rfl
      show if (!(ys' ++ [x]).isEmpty) = true then _ else _
      rw [ne]
      have hsz := cszs_app ds' [c]
      have hsc : cszs [c] = csz c := by rw [cszs, cszs, Nat.add_zero]
      have hin := csz_inner c
      have okc := (okCs_app.mp hok2)
      refine iteT ⟨fun σ' H'' => Same H H'' ∧ ∃ z ys, σ' = [some (.ref p), some (.ref l), z] ∧ H'' l = some (.lst ys) ∧ TpAll K H'' ys (encs nm (ds' ++ inner c)), ?_, ?_⟩
      · rintro σ' H'' ⟨s3, z', ys2, e, e2, e3⟩
        refine ⟨cszs (ds' ++ inner c), ?_, s3, z', ys2, _, e, e2, e3, okCs_app.mpr ⟨okc.1, okC_inner okc.2.1⟩, rfl, ?_⟩
        · rw [List.concat_eq_append, cszs_app, cszs_app]
          omega
        · rw [cszs_app]
          omega
      · have hy2 := s2 _ _ hy
        refine ⟨_, rfl, .inl ⟨rfl, _, SqL.of hy2⟩, l, _, x, rfl, rfl, hy2, by simp, ?_⟩
        rw [List.dropLast_concat]
        have s3 : Same H (upd (upd H' t (.lst [])) l (.lst ys')) := s12.upd hl
        have k3 : Kept H' (upd (upd H' t (.lst [])) l (.lst ys')) := s2.kept.write hy2 True.intro
        refine ⟨x, nm, b, c, rfl, h4.kept k3, okc.2.1, by omega, fun H4 q zs s4 hq hq2 hq3 => ?_⟩
        have hl4 := s4 _ _ (upd_same (H := upd H' t (.lst [])) (a := l) (o := .lst ys'))
        refine ⟨_, rfl, rfl, _, rfl, iteF ?_⟩
        refine ⟨_, rfl, .inl ⟨rfl, _, SqL.of hl4⟩, _, rfl, l, q, ys', zs, rfl, rfl, hl4, hq2, ?_, ?_⟩
        · have l1 := h3.len
          have l2 := hq3.len
          rw [encs_map, List.length_map] at l1 l2
          have l3 := len_cszs ds'
          have l4 := len_cszs (inner c)
          exact small_le (by omega)
        · refine ⟨(s3.trans s4).upd hl, _, _, rfl, upd_same, ?_⟩
          rw [encs_app]
          have k4 : Kept H4 (upd H4 l (.lst (ys' ++ zs))) := (Kept.refl _).write hl4 True.intro
          exact (h3.kept ((k3.trans s4.kept).trans k4)).app (hq3.kept k4)
end
/-! ### a whole program -/
def encD (d : Str × Poly) : PyData := .tuple [.str d.1, encP d.2]
def encPr (nm : Nat → Str) (d : Str × List Cmd) : PyData := .tuple [.str d.1, .tuple (encs nm d.2)]
structure Scr where
  tapes : List (Str × Poly)
  bi : Nat
  bj : Nat
  nm : Nat → Str
  P : List (Str × List Cmd)
def Scr.ixs (S : Scr) : List (Str × Poly) := [("i", [(0, S.bi)]), ("j", [(0, S.bj)])]
def encScr (S : Scr) : PyData := .tuple [.tuple (S.tapes.map encD), .tuple (S.ixs.map encD), .tuple (S.P.map (encPr S.nm))]
structure OkScr (S : Scr) : Prop where
  tok : ∀ d ∈ S.tapes, okN d.1 = true ∧ OkP d.2
  tlen : S.tapes.length ≤ 10
  tnd : (("input" : Str) :: S.tapes.map (·.1)).Nodup
  bi : 1 ≤ S.bi
  bj : 1 ≤ S.bj
  plen : S.P.length ≤ 10
  ppos : 1 ≤ S.P.length
  pok : ∀ k d, S.P[k]? = some d → d.1 = S.nm k ∧ okN d.1 = true ∧ okCs S.nm k d.2 ∧ cszs d.2 ≤ 1000
  inj : ∀ j k, j < S.P.length → k < S.P.length → S.nm j = S.nm k → j = k
theorem okP_one {b : Nat} (h : 1 ≤ b) : OkP [(0, b)] := by
  refine ⟨(by decide : 1 ≤ 1000), fun q hq => ?_, fun i x y hx hy => ?_, fun q hq => ?_⟩
  · cases List.mem_singleton.mp hq
    exact h
  · cases i <;> cases hy
  · cases List.mem_singleton.mp hq
    exact Nat.zero_le _
theorem OkScr.iok {S : Scr} (o : OkScr S) : ∀ d ∈ S.ixs, okN d.1 = true ∧ OkP d.2 := by
  intro d hd
  rcases List.mem_cons.mp hd with rfl | hd
  · exact ⟨(by decide +kernel : okN "i" = true), okP_one o.bi⟩
  · cases List.mem_singleton.mp hd
    exact ⟨(by decide +kernel : okN "j" = true), okP_one o.bj⟩
def spSize (K : PySem.W.Frag) : Sp := fun vs H Q _ => ∃ v d, vs = [v] ∧ Tp K H v (encD d) ∧ okN d.1 = true ∧ OkP d.2 ∧ ∀ H', Same H H' → Q (.bl true) H'
def spProc (K : PySem.W.Frag) : Sp := fun vs H Q _ => ∃ v nm b d, vs = [v] ∧ Tp K H v (encPr nm d) ∧ okN d.1 = true ∧ okCs nm b d.2 ∧ cszs d.2 ≤ 1000 ∧ ∀ H', Same H H' → Q (.bl true) H'
def spScr (K : PySem.W.Frag) : Sp := fun vs H Q _ => ∃ v S, vs = [v] ∧ Tp K H v (encScr S) ∧ OkScr S ∧ ∀ H', Same H H' → Q (.bl true) H'
section
variable {P : Program} {w : World} {K : PySem.W.Frag} {mg : Str → Option Value} {base : Heap} {a : Ads}
theorem fk_is_size (T : Txt K mg w a) : Fk P w K mg base "is_size" 4 ["thing"] (spSize K) := by
  have F_is_tuple := fk_is_tuple (P := P) (base := base) T
  have F_is_name_value := fk_is_name_value (P := P) (base := base) T
  have F_is_poly_value := fk_is_poly_value (P := P) (base := base) T
  refine (show Df K mg "is_size" (top 37) from T.fn 20 _ rfl).fk sc_is_size (fun vs H Q E h => ?_) (fun _ _ _ _ _ _ us hl => match us, hl with | [_], _ => rfl) fun f cdv A outer s H vs Q E hr h => ?_
  · obtain ⟨v, d, rfl, _⟩ := h
    rfl
  · obtain ⟨v, d, rfl, hv, h1, h2, k⟩ := h
    obtain ⟨p, x, y, rfl, hp, e1, e2⟩ := tp_two hv
    cases tp_str e1
    refine ⟨_, (pss_one (ps_ret (pe_and (pe_f (F_is_tuple) (hr.mono (by decide)) rfl (pa_cons (pv 0) (pa_cons pe_int pa_nil))) (pe_and (pe_f (F_is_name_value) (hr.mono (by decide)) rfl (pa_cons (pe_ix (ixT K rfl) (pv 0) pe_int (fun _ _ => rfl)) pa_nil)) (pe_one (pe_f (F_is_poly_value) (hr.mono (by decide)) rfl (pa_cons (pe_ix (ixT K rfl) (pv 0) pe_int (fun _ _ => rfl)) pa_nil))))))), ?_⟩
    refine ⟨_, rfl, _, _, _, rfl, hp, _, rfl, iteT ⟨_, rfl, _, _, _, _, rfl, rfl, hp, rfl, _, rfl, h1, fun H1 s1 => ⟨_, rfl, iteT ?_⟩⟩⟩
    exact ⟨_, rfl, _, _, _, _, rfl, rfl, s1.tq hp, rfl, _, _, rfl, e2.same s1, h2, fun H2 s2 => k _ (s1.trans s2)⟩
theorem fk_is_procedure (T : Txt K mg w a) : Fk P w K mg base "is_procedure" 9 ["thing"] (spProc K) := by
  have F_is_tuple := fk_is_tuple (P := P) (base := base) T
  have F_is_name_value := fk_is_name_value (P := P) (base := base) T
  have F_are_commands := fk_are_commands (P := P) (base := base) T
  refine (show Df K mg "is_procedure" (top 38) from T.fn 21 _ rfl).fk sc_is_procedure (fun vs H Q E h => ?_) (fun _ _ _ _ _ _ us hl => match us, hl with | [_], _ => rfl) fun f cdv A outer s H vs Q E hr h => ?_
  · obtain ⟨v, nm, b, d, rfl, _⟩ := h
    rfl
  · obtain ⟨v, nm, b, d, rfl, hv, h1, h2, h3, k⟩ := h
    obtain ⟨p, x, y, rfl, hp, e1, e2⟩ := tp_two hv
    cases tp_str e1
    obtain ⟨py, ys, rfl, hy, ry⟩ := tp_tup e2
    refine ⟨_, (pss_one (ps_ret (pe_and (pe_f (F_is_tuple) (hr.mono (by decide)) rfl (pa_cons (pv 0) (pa_cons pe_int pa_nil))) (pe_and (pe_f (F_is_name_value) (hr.mono (by decide)) rfl (pa_cons (pe_ix (ixT K rfl) (pv 0) pe_int (fun _ _ => rfl)) pa_nil)) (pe_and (pe_callB (isA K rfl) (by rfl) T.isinstance (by decide +kernel) (pa_cons (pe_ix (ixT K rfl) (pv 0) pe_int (fun _ _ => rfl)) (pa_cons (pe_ty "tuple" rfl T.tuple (by decide +kernel)) pa_nil))) (pe_one (pe_f (F_are_commands) (hr.mono (by decide)) rfl (pa_cons (pe_ix (ixT K rfl) (pv 0) pe_int (fun _ _ => rfl)) pa_nil)))))))), ?_⟩
    refine ⟨_, rfl, _, _, _, rfl, hp, _, rfl, iteT ⟨_, rfl, _, _, _, _, rfl, rfl, hp, rfl, _, rfl, h1, fun H1 s1 => ⟨_, rfl, iteT ?_⟩⟩⟩
    refine ⟨_, rfl, _, _, _, _, rfl, rfl, s1.tq hp, rfl, _, _, _, rfl, .tup (s1.tq hy), _, rfl, iteT ?_⟩
    exact ⟨_, rfl, _, _, _, _, rfl, rfl, s1.tq hp, rfl, _, nm, b, _, rfl, e2.same s1, h2, h3, fun H2 s2 => k _ (s1.trans s2)⟩
theorem fk_is_script_value (T : Txt K mg w a) : Fk P w K mg base "is_script_value" 10 ["thing"] (spScr K) := by
  have F_is_tuple := fk_is_tuple (P := P) (base := base) T
  have F_is_size := fk_is_size (P := P) (base := base) T
  have F_is_procedure := fk_is_procedure (P := P) (base := base) T
  refine (show Df K mg "is_script_value" (top 39) from T.fn 22 _ rfl).fk sc_is_script_value (fun vs H Q E h => ?_) (fun _ _ _ _ _ _ us hl => match us, hl with | [_], _ => rfl) fun f cdv A outer s H vs Q E hr h => ?_
  · obtain ⟨v, S, rfl, _⟩ := h
    rfl
  · obtain ⟨v, S, rfl, hv, ok, k⟩ := h
    obtain ⟨p, x, y, z, rfl, hp, e1, e2, e3⟩ := tp_three hv
    obtain ⟨px, xs, rfl, hx, rx⟩ := tp_tup e1
    obtain ⟨py, ys, rfl, hy, ry⟩ := tp_tup e2
    obtain ⟨pz, zs, rfl, hz, rz⟩ := tp_tup e3
    have lx := rx.len
    have ly := ry.len
    have lz := rz.len
    rw [List.length_map] at lx ly lz
    have lt := ok.tlen
    have lp := ok.plen
    have l2 : S.ixs.length = 2 := rfl
    refine ⟨_, (pss_cons (ps_if (PW.pt (pw_or (pt_not (pt_val (pe_f (F_is_tuple) (hr.mono (by decide)) rfl (pa_cons (pv 0) (pa_cons pe_int pa_nil))))) (pw_or1 (pt_not (pt_val (pe_callB (allB K rfl rfl) (by rfl) T.all (by decide +kernel) (pa_cons (pe_lc (own := [("part", 4)]) (by rfl) nd_is_script_value (pi_tup (pv 0)) (blkOk_by (own := [("part", 4)]) (N := N_is_script_value) (sc := defScope S_is_script_value) (by decide +kernel)) (fun _ _ _ _ _ => (pg_name (i := 4) nd_is_script_value rfl (by first | exact Or.inl rfl | exact Or.inr rfl))) (fun _ _ _ _ _ => pts_nil) (fun _ _ _ _ _ => (pe_callB (isA K rfl) (by rfl) T.isinstance (by decide +kernel) (pa_cons (pv 4) (pa_cons (pe_ty "tuple" rfl T.tuple (by decide +kernel)) pa_nil))))) pa_nil))))))) (pss_one (ps_ret pe_bl)) pss_nil)
      (pss_cons (ps_asg (pv 0) (pgT K rfl rfl (pgs_cons (pg_name (i := 1) nd_is_script_value rfl (by first | exact Or.inl rfl | exact Or.inr rfl)) (pgs_cons (pg_name (i := 2) nd_is_script_value rfl (by first | exact Or.inl rfl | exact Or.inr rfl)) (pgs_cons (pg_name (i := 3) nd_is_script_value rfl (by first | exact Or.inl rfl | exact Or.inr rfl)) pgs_nil)))))
      (pss_one (ps_ret (pe_and (pe_callB (allB K rfl rfl) (by rfl) T.all (by decide +kernel) (pa_cons (pe_lc (own := [("pair", 5)]) (by rfl) nd_is_script_value (pi_tup (pe_op (catT K rfl) (pv 1) (pv 2))) (blkOk_by (own := [("pair", 5)]) (N := N_is_script_value) (sc := defScope S_is_script_value) (by decide +kernel)) (fun _ _ _ _ _ => (pg_name (i := 5) nd_is_script_value rfl (by first | exact Or.inl rfl | exact Or.inr rfl))) (fun _ _ _ _ _ => pts_nil) (fun _ _ _ _ _ => (pe_f (F_is_size) (hr.mono (by decide)) rfl (pa_cons (pv 5) pa_nil)))) pa_nil)) (pe_one (pe_callB (allB K rfl rfl) (by rfl) T.all (by decide +kernel) (pa_cons (pe_lc (own := [("pair", 5)]) (by rfl) nd_is_script_value (pi_tup (pv 3)) (blkOk_by (own := [("pair", 5)]) (N := N_is_script_value) (sc := defScope S_is_script_value) (by decide +kernel)) (fun _ _ _ _ _ => (pg_name (i := 5) nd_is_script_value rfl (by first | exact Or.inl rfl | exact Or.inr rfl))) (fun _ _ _ _ _ => pts_nil) (fun _ _ _ _ _ => (pe_f (F_is_procedure) (hr.mono (by decide)) rfl (pa_cons (pv 5) pa_nil)))) pa_nil)))))))), ?_⟩
    refine ⟨_, rfl, _, _, _, rfl, hp, _, rfl, iteF ?_⟩
    refine ⟨_, rfl, p, rfl, ⟨_, hp⟩, fun D hD => ?_⟩
    refine lc_all (walk_tup (xs := [.ref px, .ref py, .ref pz])) hD (small_line (by show 3 ≤ 1000000; decide)) (List.replicate 3 (.bl true)) rfl (fun H1 s1 => s1.tq hp) ?_ ?_
    · rintro i u H1 H2 hi s1 ⟨rfl, hu⟩ Kq q
      have : ∃ c cs, u = .ref c ∧ SqT K H2 c cs := by
        match i, hu with
        | 0, hu => exact ⟨px, xs, (Option.some.inj hu).symm, s1.tq hx⟩
        | 1, hu => exact ⟨py, ys, (Option.some.inj hu).symm, s1.tq hy⟩
        | 2, hu => exact ⟨pz, zs, (Option.some.inj hu).symm, s1.tq hz⟩
        | i + 3, hu => cases hu
      obtain ⟨c, cs, rfl, hc⟩ := this
      refine ⟨rfl, _, rfl, _, _, _, rfl, .tup hc, ?_⟩
      exact q _ _ (Same.refl _) (by rw [List.getElem?_replicate]; exact if_pos hi)
    · intro H1 s1 h1
      refine ⟨D, List.replicate 3 true, rfl, SqL.of (by rw [List.map_replicate]; exact h1), _, rfl, ?_⟩
      rw [all_true]
      refine iteF ?_
      refine ⟨_, rfl, p, _, rfl, s1.tq hp, rfl, _, _, rfl, _, _, rfl, _, _, rfl, rfl, ?_⟩
      refine ⟨_, rfl, _, rfl, cat_any (s1.tq hx) (s1.tq hy) (small_le (by omega)) fun H2 q s2 hq => ⟨q, rfl, ⟨_, hq⟩, fun D2 hD2 => ?_⟩⟩
      have s12 := s1.trans s2
      refine lc_all walk_tup hD2 (small_line (by rw [List.length_append]; omega)) (List.replicate (xs ++ ys).length (.bl true)) (by simp) (fun H3 s3 => s3.tq hq) ?_ ?_
      · rintro i u H3 H4 hi s3 ⟨rfl, hu⟩ Kq k3
        have r := ((rx.app ry).same s12).same s3
        obtain ⟨d, hd, ht⟩ := r.at hu
        rw [← List.map_append] at hd
        obtain ⟨d', hd', rfl⟩ := List.mem_map.mp (List.mem_of_getElem? hd)
        have ok2 : okN d'.1 = true ∧ OkP d'.2 := by
          rcases List.mem_append.mp hd' with m | m
          · exact ok.tok _ m
          · exact ok.iok _ m
        refine ⟨rfl, _, rfl, u, d', rfl, ht, ok2.1, ok2.2, fun H5 s5 => k3 _ _ s5 (by rw [List.getElem?_replicate, if_pos hi])⟩
      · intro H3 s3 h3
        refine ⟨D2, List.replicate (xs ++ ys).length true, rfl, SqL.of (by rw [List.map_replicate]; exact h3), _, rfl, ?_⟩
        rw [all_true]
        refine iteT ?_
        have s123 := s12.trans s3
        refine ⟨_, rfl, pz, rfl, ⟨_, s123.tq hz⟩, fun D3 hD3 => ?_⟩
        refine lc_all walk_tup hD3 (small_line (by omega)) (List.replicate zs.length (.bl true)) (by simp) (fun H4 s4 => s4.tq (s123.tq hz)) ?_ ?_
        · rintro i u H4 H5 hi s4 ⟨rfl, hu⟩ Kq k4
          obtain ⟨d, hd, ht⟩ := ((rz.same s123).same s4).at hu
          rw [List.getElem?_map] at hd
          cases e : S.P[i]? with
          | none =>
            rw [e] at hd
            cases hd
          | some d' =>
            rw [e] at hd
            cases hd
            obtain ⟨_, o1, o2, o3⟩ := ok.pok i d' e
            refine ⟨rfl, _, rfl, u, S.nm, i, d', rfl, ht, o1, o2, o3, fun H6 s6 => k4 _ _ s6 (by rw [List.getElem?_replicate, if_pos hi])⟩
        · intro H4 s4 h4
          refine ⟨D3, List.replicate zs.length true, rfl, SqL.of (by rw [List.map_replicate]; exact h4), ?_⟩
          rw [all_true]
          exact k _ (s123.trans s4)
end
end NPK
set_option Elab.async false
set_option linter.all false
set_option maxRecDepth 100000
set_option maxHeartbeats 2000000
namespace NPK
open PySem PySem.Spec PyProof.Rows L2 NP
theorem walk_enumN {K : PySem.W.Frag} {a : Addr} {xs : List V} : Walk (ItN K a) xs.length (fun H => SqT K H a xs) (YPair (fun i => some (.int (i : Nat))) (fun i => xs[i]?)) := by
  refine ⟨fun i H hi q => ⟨xs, xs[i], q, List.getElem?_eq_getElem hi⟩, fun H q => ⟨xs, q, rfl⟩, fun i H x H' hi q y => ?_⟩
  obtain ⟨T, x, e1, e2, e3, e4⟩ := y
  exact ⟨T, _, x, e1, e2, e3, rfl, e4 xs q⟩
theorem none_of_same {H H' : Hp} {l : Addr} (s : Same H H') (h : H' l = none) : H l = none := by
  cases e : H l with
  | none => rfl
  | some o =>
    have := s l o e
    rw [h] at this
    cases this
/-! ### commands behind their places -/
def MM : Nat := 3000
/-- a pair of a place and a command -/
def Row (K : PySem.W.Frag) (nm : Nat → Str) (b : Nat) (H : Hp) (c : Cmd) (v : V) : Prop :=
  ∃ t pl ps cv, v = .ref t ∧ SqT K H t [.ref pl, cv] ∧ SqT K H pl ps ∧ ps.length + 2 * csz c ≤ MM ∧ Tp K H cv (enc nm c) ∧ okC nm b c
inductive Rows (K : PySem.W.Frag) (nm : Nat → Str) (b : Nat) (H : Hp) : List Cmd → List V → Prop
  | nil : Rows K nm b H [] []
  | cons {c : Cmd} {v : V} {cs : List Cmd} {vs : List V} (h : Row K nm b H c v) (r : Rows K nm b H cs vs) : Rows K nm b H (c :: cs) (v :: vs)
section
variable {K : PySem.W.Frag} {nm : Nat → Str} {b : Nat} {H H' : Hp}
theorem Row.kept {c : Cmd} {v : V} (h : Row K nm b H c v) (s : Kept H H') : Row K nm b H' c v := by
  obtain ⟨t, pl, ps, cv, e, h1, h2, h3, h4, h5⟩ := h
  exact ⟨t, pl, ps, cv, e, s.tq h1, s.tq h2, h3, h4.kept s, h5⟩
theorem Rows.kept (s : Kept H H') : ∀ {cs : List Cmd} {vs : List V}, Rows K nm b H cs vs → Rows K nm b H' cs vs
  | _, _, .nil => .nil
  | _, _, .cons h r => .cons (h.kept s) (Rows.kept s r)
theorem Rows.app : ∀ {cs ds : List Cmd} {vs ws : List V}, Rows K nm b H cs vs → Rows K nm b H ds ws → Rows K nm b H (cs ++ ds) (vs ++ ws)
  | _, _, _, _, .nil, h => h
  | _, _, _, _, .cons h r, h' => .cons h (Rows.app r h')
theorem Rows.len : ∀ {cs : List Cmd} {vs : List V}, Rows K nm b H cs vs → vs.length = cs.length
  | _, _, .nil => rfl
  | _, _, .cons _ r => congrArg (· + 1) (Rows.len r)
theorem Rows.rev : ∀ {cs : List Cmd} {vs : List V}, Rows K nm b H cs vs → Rows K nm b H cs.reverse vs.reverse
  | _, _, .nil => .nil
  | _, _, .cons h r => by
    rw [List.reverse_cons, List.reverse_cons]
    exact Rows.app (Rows.rev r) (.cons h .nil)
theorem Rows.snoc : ∀ {cs : List Cmd} {c : Cmd} {vs : List V}, Rows K nm b H (cs ++ [c]) vs → ∃ ws v, vs = ws ++ [v] ∧ Rows K nm b H cs ws ∧ Row K nm b H c v
  | [], c, vs, h => by
    cases h with
    | cons h r =>
      cases r
      exact ⟨[], _, rfl, .nil, h⟩
  | d :: cs, c, vs, h => by
    cases h with
    | cons h r =>
      obtain ⟨ws, v, rfl, r1, r2⟩ := Rows.snoc r
      exact ⟨_ :: ws, v, rfl, .cons h r1, r2⟩
theorem Rows.mem {v : V} : ∀ {cs : List Cmd} {vs : List V}, Rows K nm b H cs vs → v ∈ vs → ∃ c, Row K nm b H c v
  | _, _, .nil, h => absurd h List.not_mem_nil
  | _, _, .cons h r, hm => by
    rcases List.mem_cons.mp hm with e | e
    · subst e
      exact ⟨_, h⟩
    · exact Rows.mem r e
theorem Rows.of : ∀ {cs : List Cmd} {vs : List V}, vs.length = cs.length → (∀ (i : Nat) (v : V) (c : Cmd), vs[i]? = some v → cs[i]? = some c → Row K nm b H c v) → Rows K nm b H cs vs
  | [], [], _, _ => .nil
  | c :: cs, v :: vs, h, r => .cons (r 0 v c rfl rfl) (Rows.of (Nat.succ.inj h) fun i v c h1 h2 => r (i + 1) v c h1 h2)
end
theorem cszs_rev : ∀ cs : List Cmd, cszs cs.reverse = cszs cs
  | [] => rfl
  | c :: cs => by rw [List.reverse_cons, cszs_app, cszs_rev cs, cszs, cszs, cszs, Nat.add_zero, Nat.add_comm]
/-- what LIST_PLACES tells of a command: places of lists, the lists -/
def subsOf : Cmd → List Int × List (List Cmd)
  | .rep _ cs => ([2], [cs])
  | .ifat cs ds => ([2, 3], [cs, ds])
  | _ => ([], [])
theorem subs_inner (c : Cmd) : (subsOf c).2.flatten = inner c := by
  cases c <;> simp [subsOf, inner]
theorem subs_len (c : Cmd) : (subsOf c).1.length = (subsOf c).2.length := by
  cases c <;> rfl
theorem subs_two (c : Cmd) : (subsOf c).1.length ≤ 2 := by
  cases c <;> simp [subsOf]
/-- a place in a command: its list -/
theorem subs_at {K : PySem.W.Frag} {H : Hp} {nm : Nat → Str} {cv : V} {c : Cmd} (h : Tp K H cv (enc nm c)) : ∃ p wd xs, cv = .ref p ∧ SqT K H p (.str wd :: xs) ∧
    (∀ (i : Nat) (at' : Int) (sub : List Cmd), (subsOf c).1[i]? = some at' → (subsOf c).2[i]? = some sub → ∃ q ys, atI (.str wd :: xs) at' = some (.ref q) ∧ SqT K H q ys ∧ TpAll K H ys (encs nm sub)) ∧
    ((subsOf c = ([], []) ∧ wd ∈ (["up", "zero", "do", "wins"] : List Str)) ∨ (wd, vI (subsOf c).1) ∈ ([("if", vI [2, 3]), ("repeat", vI [2])] : List (Str × List V))) ∧ (wd = "if" → Tp K H (xs.getD 0 .non) tAt) ∧ (wd == "if") = decide (wd = "if") := by
  have hd : ∀ wd : Str, (wd == ("if" : Str)) = decide (wd = "if") := fun wd => rfl
  cases c with
  | up x =>
    obtain ⟨p, y, z, rfl, hp, e1, e2⟩ := tp_two h
    cases tp_str e1
    exact ⟨p, _, _, rfl, hp, fun i a s e => (by cases e), .inl ⟨rfl, List.mem_cons_self ..⟩, fun e => absurd e (by decide +kernel), hd _⟩
  | zero x =>
    obtain ⟨p, y, z, rfl, hp, e1, e2⟩ := tp_two h
    cases tp_str e1
    exact ⟨p, _, _, rfl, hp, fun i a s e => (by cases e), .inl ⟨rfl, List.mem_cons_of_mem _ (List.mem_cons_self ..)⟩, fun e => absurd e (by decide +kernel), hd _⟩
  | call k =>
    obtain ⟨p, y, z, rfl, hp, e1, e2⟩ := tp_two h
    cases tp_str e1
    exact ⟨p, _, _, rfl, hp, fun i a s e => (by cases e), .inl ⟨rfl, List.mem_cons_of_mem _ (List.mem_cons_of_mem _ (List.mem_cons_self ..))⟩, fun e => absurd e (by decide +kernel), hd _⟩
  | win =>
    obtain ⟨p, y, z, rfl, hp, e1, e2⟩ := tp_two h
    cases tp_str e1
    exact ⟨p, _, _, rfl, hp, fun i a s e => (by cases e), .inl ⟨rfl, List.mem_cons_of_mem _ (List.mem_cons_of_mem _ (List.mem_cons_of_mem _ (List.mem_cons_self ..)))⟩, fun e => absurd e (by decide +kernel), hd _⟩
  | rep q cs =>
    obtain ⟨p, x, y, z, rfl, hp, e1, e2, e3⟩ := tp_three h
    cases tp_str e1
    obtain ⟨pz, zs, rfl, hz, rz⟩ := tp_tup e3
    refine ⟨p, _, _, rfl, hp, fun i a s ea es => ?_, .inr (List.mem_cons_of_mem _ (List.mem_cons_self ..)), fun e => absurd e (by decide +kernel), hd _⟩
    match i, ea, es with
    | 0, ea, es =>
      cases Option.some.inj ea
      cases Option.some.inj es
      exact ⟨pz, zs, rfl, hz, rz⟩
    | i + 1, ea, es => cases ea
  | ifat cs ds =>
    obtain ⟨p, xs, rfl, hp, r⟩ := tp_tup h
    obtain ⟨x, r1, rfl, h1, r⟩ := tpa_cons r
    obtain ⟨y, r2, rfl, h2, r⟩ := tpa_cons r
    obtain ⟨z, r3, rfl, h3, r⟩ := tpa_cons r
    obtain ⟨u, r4, rfl, h4, r⟩ := tpa_cons r
    cases tpa_nil r
    cases tp_str h1
    obtain ⟨pz, zs, rfl, hz, rz⟩ := tp_tup h3
    obtain ⟨pu, us, rfl, hu, ru⟩ := tp_tup h4
    refine ⟨p, _, _, rfl, hp, fun i a s ea es => ?_, .inr (List.mem_cons_self ..), fun _ => h2, hd _⟩
    match i, ea, es with
    | 0, ea, es =>
      cases Option.some.inj ea
      cases Option.some.inj es
      exact ⟨pz, zs, rfl, hz, rz⟩
    | 1, ea, es =>
      cases Option.some.inj ea
      cases Option.some.inj es
      exact ⟨pu, us, rfl, hu, ru⟩
    | i + 2, ea, es => cases ea
theorem flat_mem {sub : List Cmd} : ∀ {L : List (List Cmd)}, sub ∈ L → cszs sub ≤ cszs L.flatten
  | [], h => absurd h List.not_mem_nil
  | l :: L, h => by
    rw [List.flatten_cons, cszs_app]
    rcases List.mem_cons.mp h with e | e
    · subst e
      omega
    · have := flat_mem e
      omega
theorem flat_ok {nm : Nat → Str} {b : Nat} {sub : List Cmd} : ∀ {L : List (List Cmd)}, okCs nm b L.flatten → sub ∈ L → okCs nm b sub
  | [], _, h => absurd h List.not_mem_nil
  | l :: L, o, h => by
    rw [List.flatten_cons] at o
    have o2 := okCs_app.mp o
    rcases List.mem_cons.mp h with e | e
    · subst e
      exact o2.1
    · exact flat_ok o2.2 e
theorem flat_take (L : List (List Cmd)) (k : Nat) : (L.take k).flatten.length ≤ L.flatten.length := by
  have h : L.flatten.length = ((L.take k) ++ (L.drop k)).flatten.length := by rw [List.take_append_drop]
  rw [h, List.flatten_append, List.length_append]
  omega
/-! listwork -/
abbrev S_numbered : Stmt := top 7
abbrev N_numbered : List Str := ["things", "path", "at", "thing"]
theorem sc_numbered : FnScope N_numbered ["things", "path"] (defScope S_numbered) := ⟨rfl, rfl, rfl, by decide +kernel, rfl, by decide +kernel, by decide +kernel⟩
theorem nd_numbered : N_numbered.Nodup := sc_numbered.nd
abbrev S_commands_in : Stmt := top 8
abbrev N_commands_in : List Str := ["commands", "path", "found", "waiting", "place", "command", "inner", "at"]
theorem sc_commands_in : FnScope N_commands_in ["commands", "path"] (defScope S_commands_in) := ⟨rfl, rfl, rfl, by decide +kernel, rfl, by decide +kernel, by decide +kernel⟩
theorem nd_commands_in : N_commands_in.Nodup := sc_commands_in.nd
abbrev S_tests_in : Stmt := top 9
abbrev N_tests_in : List Str := ["test", "path", "found"]
theorem sc_tests_in : FnScope N_tests_in ["test", "path"] (defScope S_tests_in) := ⟨rfl, rfl, rfl, by decide +kernel, rfl, by decide +kernel, by decide +kernel⟩
theorem nd_tests_in : N_tests_in.Nodup := sc_tests_in.nd
abbrev S_named_parts : Stmt := top 48
abbrev N_named_parts : List Str := ["commands", "path", "found", "place", "command"]
theorem sc_named_parts : FnScope N_named_parts ["commands", "path"] (defScope S_named_parts) := ⟨rfl, rfl, rfl, by decide +kernel, rfl, by decide +kernel, by decide +kernel⟩
theorem nd_named_parts : N_named_parts.Nodup := sc_named_parts.nd
abbrev S_unknown_faults : Stmt := top 49
abbrev N_unknown_faults : List Str := ["path", "part", "tapes", "indexes", "procedures", "word", "places", "at"]
theorem sc_unknown_faults : FnScope N_unknown_faults ["path", "part", "tapes", "indexes", "procedures"] (defScope S_unknown_faults) := ⟨rfl, rfl, rfl, by decide +kernel, rfl, by decide +kernel, by decide +kernel⟩
theorem nd_unknown_faults : N_unknown_faults.Nodup := sc_unknown_faults.nd
abbrev S_input_faults : Stmt := top 50
abbrev N_input_faults : List Str := ["path", "part", "at"]
theorem sc_input_faults : FnScope N_input_faults ["path", "part"] (defScope S_input_faults) := ⟨rfl, rfl, rfl, by decide +kernel, rfl, by decide +kernel, by decide +kernel⟩
theorem nd_input_faults : N_input_faults.Nodup := sc_input_faults.nd
abbrev S_twice_faults : Stmt := top 47
abbrev N_twice_faults : List Str := ["script", "found", "sort", "earlier", "at", "declared"]
theorem sc_twice_faults : FnScope N_twice_faults ["script"] (defScope S_twice_faults) := ⟨rfl, rfl, rfl, by decide +kernel, rfl, by decide +kernel, by decide +kernel⟩
theorem nd_twice_faults : N_twice_faults.Nodup := sc_twice_faults.nd
abbrev S_all_faults : Stmt := top 51
abbrev N_all_faults : List Str := ["script", "found", "tapes", "indexes", "earlier", "at", "procedure", "path", "part", "tape", "index"]
theorem sc_all_faults : FnScope N_all_faults ["script"] (defScope S_all_faults) := ⟨rfl, rfl, rfl, by decide +kernel, rfl, by decide +kernel, by decide +kernel⟩
theorem nd_all_faults : N_all_faults.Nodup := sc_all_faults.nd
abbrev S_is_program_value : Stmt := top 52
abbrev N_is_program_value : List Str := ["thing"]
theorem sc_is_program_value : FnScope N_is_program_value ["thing"] (defScope S_is_program_value) := ⟨rfl, rfl, rfl, by decide +kernel, rfl, by decide +kernel, by decide +kernel⟩
theorem nd_is_program_value : N_is_program_value.Nodup := sc_is_program_value.nd
abbrev S_need_program : Stmt := top 53
abbrev N_need_program : List Str := ["program"]
theorem sc_need_program : FnScope N_need_program ["program"] (defScope S_need_program) := ⟨rfl, rfl, rfl, by decide +kernel, rfl, by decide +kernel, by decide +kernel⟩
theorem nd_need_program : N_need_program.Nodup := sc_need_program.nd
def spNum (K : PySem.W.Frag) : Sp := fun vs H Q _ => ∃ p pp xs ps nm b cs, vs = [.ref p, .ref pp] ∧ SqT K H p xs ∧ TpAll K H xs (encs nm cs) ∧ SqT K H pp ps ∧ ps.length + 1 + 2 * cszs cs ≤ MM ∧ okCs nm b cs ∧
  ∀ H' l ys, Same H H' → H l = none → H' l = some (.lst ys) → Rows K nm b H' cs ys → Q (.ref l) H'
def spCin (K : PySem.W.Frag) : Sp := fun vs H Q _ => ∃ p pp xs ps nm b cs, vs = [.ref p, .ref pp] ∧ SqT K H p xs ∧ TpAll K H xs (encs nm cs) ∧ SqT K H pp ps ∧ ps.length ≤ 3 ∧ cszs cs ≤ 1000 ∧ okCs nm b cs ∧
  ∀ H' l ys, Same H H' → H l = none → H' l = some (.lst ys) → ys.length ≤ 1000 → (∀ v ∈ ys, ∃ c, Row K nm b H' c v) → Q (.ref l) H'
def spTestsIn (K : PySem.W.Frag) : Sp := fun vs H Q _ => ∃ v pp ps, vs = [v, .ref pp] ∧ Tp K H v tAt ∧ SqT K H pp ps ∧
  ∀ H' l t, Same H H' → H l = none → H' l = some (.lst [.ref t]) → SqT K H' t [.ref pp, v] → Q (.ref l) H'
section
variable {P : Program} {w : World} {K : PySem.W.Frag} {mg : Str → Option Value} {base : Heap} {a : Ads}
theorem fk_numbered (T : Txt K mg w a) : Fk P w K mg base "numbered" 1 ["things", "path"] (spNum K) := by
  refine (show Df K mg "numbered" (top 7) from T.fn 0 _ rfl).fk sc_numbered (fun vs H Q E h => ?_) (fun _ _ _ _ _ _ us hl => match us, hl with | [_, _], _ => rfl) fun f cdv A outer s H vs Q E hr h => ?_
  · obtain ⟨p, pp, xs, ps, nm, b, cs, rfl, _⟩ := h
    rfl
  · obtain ⟨p, pp, xs, ps, nm, b, cs, rfl, hp, r, hpp, hz, hok, k⟩ := h
    have hl := r.len
    rw [encs_map, List.length_map] at hl
    have lc := len_cszs cs
    have hz' := hz
    unfold MM at hz'
    refine ⟨_, (pss_one (ps_ret (pe_lc (g := gTup K 2 (gCons (gName 2) (gCons (gName 3) gNil))) (own := [("at", 2), ("thing", 3)]) (by rfl) nd_numbered (pi_enumN (by rfl) T.enumerate (pa_cons (pv 0) pa_nil)) (blkOk_by (own := [("at", 2), ("thing", 3)]) (N := N_numbered) (sc := defScope S_numbered) (by decide +kernel)) (fun _ _ _ _ _ => (pgT K rfl rfl (pgs_cons (pg_name (i := 2) nd_numbered rfl (by first | exact Or.inl rfl | exact Or.inr rfl)) (pgs_cons (pg_name (i := 3) nd_numbered rfl (by first | exact Or.inl rfl | exact Or.inr rfl)) pgs_nil)))) (fun _ _ _ _ _ => pts_nil) (fun _ _ _ _ _ => (pe_tup (pa_cons (pe_op (catT K rfl) (pv 1) (pe_tup (pa_cons (pv 2) pa_nil))) (pa_cons (pv 3) pa_nil))))))), ?_⟩
    refine ⟨_, rfl, p, _, rfl, hp, fun D hD => ?_⟩
    refine lc_rel walk_enumN hD (small_line (by omega)) (fun i v H => ∀ c, cs[i]? = some c → Row K nm b H c v) (fun i y H H' s h c e => (h c e).kept s) (fun H1 s1 => s1.tq hp) ?_ ?_
    · rintro i x H1 H2 hi s1 ⟨T2, x1, x2, rfl, hT, rfl, hx1, hx2⟩ Kq q
      cases Option.some.inj hx1
      have sn : Same H1 (upd H1 T2 (.tup [.int (i : Nat), x2])) := same_new hT
      refine ⟨T2, _, rfl, SqT.of upd_same, rfl, _, _, rfl, _, _, rfl, rfl, rfl, ?_⟩
      refine ⟨_, rfl, _, rfl, small_le (by show 1 ≤ 1000000; decide), fun t ht => ?_⟩
      have sn2 := sn.trans (same_new (o := .tup [.int (i : Nat)]) ht)
      refine cat_any ((s1.trans sn2).tq hpp) (SqT.of upd_same) (small_le (by show ps.length + 1 ≤ _; omega)) fun H3 q3 s3 hq3 => ⟨_, rfl, small_le (by show 2 ≤ 1000000; decide), fun t3 ht3 => ?_⟩
      have s4 := same_new (o := .tup [.ref q3, x2]) ht3
      refine q _ _ ((sn2.trans s3).trans s4) fun c hc => ?_
      obtain ⟨d, hd, ht⟩ := r.at hx2
      rw [encs_map, List.getElem?_map, hc] at hd
      cases hd
      have hm := List.mem_of_getElem? hc
      have := cszs_mem hm
      refine ⟨t3, q3, _, x2, rfl, SqT.of upd_same, s4.tq hq3, ?_, ht.same (s1.trans ((sn2.trans s3).trans s4)), okCs_mem hok hm⟩
      rw [List.length_append]
      show ps.length + 1 + _ ≤ _
      omega
    · intro H1 ys s1 h1 hl1 hr1
      exact k _ D ys s1 hD h1 (Rows.of (by omega) fun i v c h2 h3 => hr1 i v h2 c h3)
theorem kgot_row {x : Str} {d : Addr} {rows : List (Str × List V)} {no : List Str} (t : TabAt K mg w x d rows no) {z : Str} {xs : List V} (h : (z, xs) ∈ rows) (v : V) : ∃ b, KGot K d z v (.ref b) ∧ ∀ H, SqT K H b xs := by
  obtain ⟨b, h1, h2⟩ := t.rows _ h
  exact ⟨b, ⟨_, h1, rfl⟩, h2⟩
theorem kgot_no {x : Str} {d : Addr} {rows : List (Str × List V)} {no : List Str} (t : TabAt K mg w x d rows no) {z : Str} (h : z ∈ no) (v : V) : KGot K d z v v := ⟨none, t.no _ h, rfl⟩
theorem fk_commands_in (T : Txt K mg w a) : Fk P w K mg base "commands_in" 2 ["commands", "path"] (spCin K) := by
  have F_numbered := fk_numbered (P := P) (base := base) T
  refine (show Df K mg "commands_in" (top 8) from T.fn 1 _ rfl).fk sc_commands_in (fun vs H Q E h => ?_) (fun _ _ _ _ _ _ us hl => match us, hl with | [_, _], _ => rfl) fun f cdv A outer s H vs Q E hr h => ?_
  · obtain ⟨p, pp, xs, ps, nm, b, cs, rfl, _⟩ := h
    rfl
  · obtain ⟨p, pp, xs, ps, nm, b, cs, rfl, hp, r, hpp, hz, hm, hok, k⟩ := h
    have hu := hu_of hr
    refine ⟨_, (pss_cons (ps_set (i := 2) nd_commands_in rfl (by first | exact Or.inl rfl | exact Or.inr rfl) (pe_lst pa_nil))
      (pss_cons (ps_set (i := 3) nd_commands_in rfl (by first | exact Or.inl rfl | exact Or.inr rfl) (pe_listRev rfl rfl T.list rfl T.reversed (pe_f (F_numbered) (hr.mono (by decide)) rfl (pa_cons (pv 0) (pa_cons (pv 1) pa_nil)))))
      (pss_cons (ps_while PassesOwn.never (pt_cmpR (neE K rfl hu) (pv 3) (pe_lst pa_nil) (nomark _)) (pss_cons (ps_asg (pe_bm0 PySem.F.plainAttrs_list PySem.F.slot_list_pop PySem.F.type_list_pop mt_pop (pv 3)) (pgT K rfl rfl (pgs_cons (pg_name (i := 4) nd_commands_in rfl (by first | exact Or.inl rfl | exact Or.inr rfl)) (pgs_cons (pg_name (i := 5) nd_commands_in rfl (by first | exact Or.inl rfl | exact Or.inr rfl)) pgs_nil))))
      (pss_cons (ps_expr (pe_bm PySem.F.plainAttrs_list PySem.F.slot_list_append PySem.F.type_list_append mt_append (pv 2) (pa_cons (pe_tup (pa_cons (pv 4) (pa_cons (pv 5) pa_nil))) pa_nil)))
      (pss_cons (ps_set (i := 6) nd_commands_in rfl (by first | exact Or.inl rfl | exact Or.inr rfl) (pe_lst pa_nil))
      (pss_cons (ps_for PassesOwn.never rfl (pi_tup (pe_kget2 (pe_gr rfl T.LIST_PLACES.mg) (pe_ix (ixT K rfl) (pv 5) pe_int (fun _ _ => rfl)) (pe_tup pa_nil) ⟨rfl, rfl, rfl, rfl⟩)) (pg_name (i := 7) nd_commands_in rfl (by first | exact Or.inl rfl | exact Or.inr rfl)) (pss_one (ps_expr (pe_bm PySem.F.plainAttrs_list PySem.F.slot_list_extend PySem.F.type_list_extend mt_extend (pv 6) (pa_cons (pe_f (F_numbered) (hr.mono (by decide)) rfl (pa_cons (pe_ix (ixT K rfl) (pv 5) (pv 7) (fun _ _ => rfl)) (pa_cons (pe_op (catT K rfl) (pv 4) (pe_tup (pa_cons (pv 7) pa_nil))) pa_nil))) pa_nil)))))
      (pss_one (ps_expr (pe_bm PySem.F.plainAttrs_list PySem.F.slot_list_extend PySem.F.type_list_extend mt_extend (pv 3) (pa_cons (pe_listRev rfl rfl T.list rfl T.reversed (pv 6)) pa_nil)))))))))
      (pss_one (ps_ret (pv 2)))))), ?_⟩
    refine ⟨Nat.zero_le _, fun lf hlf => ?_⟩
    have s0 : Same H (upd H lf (.lst [])) := same_new hlf
    refine ⟨_, rfl, _, rfl, p, pp, xs, ps, nm, b, cs, rfl, s0.tq hp, r.same s0, s0.tq hpp, by unfold MM; omega, hok, fun H1 l ys s1 hl hl2 hr1 => ⟨l, ys, rfl, SqL.of hl2, fun lw hlw => ?_⟩⟩
    have s01 := s0.trans s1
    have hlw0 : H lw = none := none_of_same s01 hlw
    have hf1 := s1 _ _ (upd_same (H := H) (a := lf) (o := .lst []))
    have hne : lf ≠ lw := by
      rintro rfl
      rw [hf1] at hlw
      cases hlw
    refine ⟨fun m σ H' => ∃ z4 z5 z6 z7 fs ws ds, σ = [some (.ref p), some (.ref pp), some (.ref lf), some (.ref lw), z4, z5, z6, z7] ∧ Same H H' ∧ H' lf = some (.lst fs) ∧ H' lw = some (.lst ws) ∧ fs.length + cszs ds ≤ 1000 ∧ (∀ v ∈ fs, ∃ c, Row K nm b H' c v) ∧ Rows K nm b H' ds ws ∧ m = cszs ds, ⟨cszs cs.reverse, none, none, none, none, [], _, _, rfl, s01.upd hlw0, ?_, upd_same, ?_, fun v hv => absurd hv List.not_mem_nil, hr1.rev.kept (same_new hlw).kept, rfl⟩, ?_⟩
    · rw [upd_ne hne]
      exact hf1
    · rw [cszs_rev]
      show 0 + _ ≤ _
      omega
    rintro m σ H' ⟨z4, z5, z6, z7, fs, ws, ds, rfl, s1', hf, hw, hb, hfs, hws, rfl⟩
    refine ⟨_, rfl, Nat.zero_le _, fun t ht => ⟨lw, t, ws, rfl, rfl, .inl ⟨SqL.of ((same_new ht) _ _ hw), SqL.of upd_same⟩, _, rfl, ?_⟩⟩
    have s2 : Same H' (upd H' t (.lst [])) := same_new ht
    have s12 := s1'.trans s2
    rcases List.eq_nil_or_concat ds with rfl | ⟨ds', c, rfl⟩
    · cases hws
      exact iteF ⟨_, rfl, k _ lf fs s12 hlf (s2 _ _ hf) (by omega) fun v hv => let ⟨c, hc⟩ := hfs v hv; ⟨c, hc.kept s2.kept⟩⟩
    · rw [List.concat_eq_append] at hws hb ⊢
      obtain ⟨ws', x, rfl, h3, h4⟩ := hws.snoc
      have ne : (!(ws' ++ [x]).isEmpty) = true := by cases ws' <;> rfl
      show if (!(ws' ++ [x]).isEmpty) = true then _ else _
      rw [ne]
      have hsz := cszs_app ds' [c]
      have hsc : cszs [c] = csz c := by rw [cszs, cszs, Nat.add_zero]
      have hin := csz_inner c
      obtain ⟨t1, pl, qs, cv, rfl, ht1, hpl, hq2, hcv, hokc⟩ := h4
      refine iteT ⟨fun σ' H'' => ∃ m', m' < cszs (ds' ++ [c]) ∧ ∃ z4 z5 z6 z7 fs ws ds, σ' = [some (.ref p), some (.ref pp), some (.ref lf), some (.ref lw), z4, z5, z6, z7] ∧ Same H H'' ∧ H'' lf = some (.lst fs) ∧ H'' lw = some (.lst ws) ∧ fs.length + cszs ds ≤ 1000 ∧ (∀ v ∈ fs, ∃ c, Row K nm b H'' c v) ∧ Rows K nm b H'' ds ws ∧ m' = cszs ds, fun σ' H'' h => h, ?_⟩
      have hw2 := s2 _ _ hw
      have hf2 := s2 _ _ hf
      refine ⟨_, rfl, .inl ⟨rfl, _, SqL.of hw2⟩, lw, _, .ref t1, rfl, rfl, hw2, by simp, ?_⟩
      rw [List.dropLast_concat]
      have k3 : Kept H' (upd (upd H' t (.lst [])) lw (.lst ws')) := s2.kept.write hw2 True.intro
      have s3 : Same H (upd (upd H' t (.lst [])) lw (.lst ws')) := s12.upd hlw0
      have hf3 : (upd (upd H' t (.lst [])) lw (.lst ws')) lf = some (.lst fs) := by
        rw [upd_ne hne]
        exact hf2
      refine ⟨t1, _, rfl, k3.tq ht1, rfl, _, _, rfl, _, _, rfl, rfl, ?_⟩
      refine ⟨_, rfl, .inl ⟨rfl, _, SqL.of hf3⟩, _, rfl, _, rfl, small_le (by show 2 ≤ 1000000; decide), fun t2 ht2 => ?_⟩
      have s4 := same_new (o := .tup [.ref pl, cv]) ht2
      refine ⟨lf, fs, _, rfl, rfl, s4 _ _ hf3, small_line (by omega), ?_⟩
      have kw4 : Kept H' (upd (upd (upd (upd H' t (.lst [])) lw (.lst ws')) t2 (.tup [.ref pl, cv])) lf (.lst (fs ++ [.ref t2]))) := (k3.trans s4.kept).write (s4 _ _ hf3) True.intro
      have sw4 : Same H (upd (upd (upd (upd H' t (.lst [])) lw (.lst ws')) t2 (.tup [.ref pl, cv])) lf (.lst (fs ++ [.ref t2]))) := (s3.trans s4).upd hlf
      have hw4 : (upd (upd (upd (upd H' t (.lst [])) lw (.lst ws')) t2 (.tup [.ref pl, cv])) lf (.lst (fs ++ [.ref t2]))) lw = some (.lst ws') := by
        rw [upd_ne (Ne.symm hne)]
        exact s4 _ _ upd_same
      have hf4 : (upd (upd (upd (upd H' t (.lst [])) lw (.lst ws')) t2 (.tup [.ref pl, cv])) lf (.lst (fs ++ [.ref t2]))) lf = some (.lst (fs ++ [.ref t2])) := upd_same
      have ht4 : SqT K (upd (upd (upd (upd H' t (.lst [])) lw (.lst ws')) t2 (.tup [.ref pl, cv])) lf (.lst (fs ++ [.ref t2]))) t2 [.ref pl, cv] := ((Kept.refl _).write (s4 _ _ hf3) True.intro).tq (SqT.of upd_same)
      generalize (upd (upd (upd (upd H' t (.lst [])) lw (.lst ws')) t2 (.tup [.ref pl, cv])) lf (.lst (fs ++ [.ref t2]))) = Hc at kw4 sw4 hw4 hf4 ht4 ⊢
      refine ⟨Nat.zero_le _, fun li hli => ?_⟩
      have s5 := same_new (o := .lst []) hli
      have hcv5 := (hcv.kept kw4).same s5
      obtain ⟨cp, wd, cxs, rfl, hcp, hsub, hrow, _⟩ := subs_at hcv5
      refine ⟨_, rfl, T.LIST_PLACES.kd, _, rfl, _, _, _, _, rfl, rfl, hcp, atI_zero _ _, Nat.zero_le _, fun te hte => ?_⟩
      have s6 := same_new (o := .tup []) hte
      have hget : ∃ q, KGot K a.lp wd (.ref te) (.ref q) ∧ SqT K (upd (upd Hc li (.lst [])) te (.tup [])) q (vI (subsOf c).1) := by
        rcases hrow with ⟨e1, e2⟩ | e1
        · rw [e1]
          exact ⟨te, kgot_no T.LIST_PLACES e2 _, SqT.of upd_same⟩
        · obtain ⟨b, h1, h2⟩ := kgot_row T.LIST_PLACES e1 (.ref te)
          exact ⟨b, h1, h2 _⟩
      obtain ⟨q, hq, hqs⟩ := hget
      refine ⟨wd, .ref q, rfl, hq, q, rfl, ⟨_, hqs⟩, ?_⟩
      have s56 := s5.trans s6
      refine for_it walk_tup (fun i σ H2 => ∃ z7 ys, σ = [some (.ref p), some (.ref pp), some (.ref lf), some (.ref lw), some (.ref pl), some (.ref cp), some (.ref li), z7] ∧ Same Hc H2 ∧ SqT K H2 q (vI (subsOf c).1) ∧ H2 li = some (.lst ys) ∧ Rows K nm b H2 (((subsOf c).2.take i).flatten) ys) ⟨_, [], rfl, s56, hqs, s6 _ _ upd_same, .nil⟩ (fun i σ H2 _ ⟨_, _, _, _, h, _⟩ => h) ?_ ?_
      · rintro i x σ H2 H3 hi ⟨z7, ys, rfl, sc, hq2', hl2', hr2'⟩ ⟨rfl, hx⟩
        rw [vI, List.getElem?_map] at hx
        cases ea : (subsOf c).1[i]? with
        | none =>
          rw [ea] at hx
          cases hx
        | some at' =>
        rw [ea] at hx
        cases hx
        have hi2 : i < (subsOf c).2.length := by
          rw [← subs_len]
          exact (List.getElem?_eq_some_iff.mp ea).1
        have es := List.getElem?_eq_getElem hi2
        generalize (subsOf c).2[i] = sub at es
        obtain ⟨_, _, _, ecp, hcp', hsub', _⟩ := subs_at ((hcv.kept kw4).same sc)
        cases ecp
        obtain ⟨sq, sys, hat, hsq, hsr⟩ := hsub' i at' sub ea es
        have hmem := List.mem_of_getElem? es
        have hsz2 := flat_mem hmem
        rw [subs_inner] at hsz2
        have hokin := okC_inner hokc
        rw [← subs_inner] at hokin
        refine ⟨_, rfl, .inl ⟨rfl, _, SqL.of hl2'⟩, _, rfl, _, rfl, _, _, _, _, rfl, rfl, hcp', hat, _, rfl, _, rfl, small_le (by show 1 ≤ 1000000; decide), fun t5 ht5 => ?_⟩
        have s7 := same_new (o := .tup [.int at']) ht5
        have hz2 : qs.length + 2 * csz c ≤ 3000 := hq2
        refine cat_any (s7.tq (sc.tq (kw4.tq hpl))) (SqT.of upd_same) (small_le (by show qs.length + 1 ≤ _; omega)) fun H4 q4 s8 hq4 => ?_
        have s78 := s7.trans s8
        refine ⟨sq, q4, sys, _, nm, b, sub, rfl, s78.tq hsq, hsr.same s78, hq4, ?_, flat_ok hokin hmem, fun H5 l5 ys5 s9 h5 h6 h7 => ?_⟩
        · rw [List.length_append]
          show qs.length + 1 + 1 + 2 * cszs sub ≤ 3000
          omega
        have s79 := s78.trans s9
        have hli5 := s79 _ _ hl2'
        have l1 := hr2'.len
        have l2 := h7.len
        have et : ((subsOf c).2.take (i + 1)).flatten = ((subsOf c).2.take i).flatten ++ sub := by
          rw [List.take_succ, es, Option.toList, List.flatten_append]
          simp
        have l3 := flat_take (subsOf c).2 (i + 1)
        rw [et, subs_inner, List.length_append] at l3
        have l4 := len_cszs (inner c)
        refine ⟨li, l5, ys, ys5, rfl, rfl, hli5, h6, small_le (by omega), ?_⟩
        have k9 : Kept _ (upd H5 li (.lst (ys ++ ys5))) := s79.kept.write hli5 True.intro
        refine ⟨_, _, rfl, (sc.trans s79).upd hli, k9.tq hq2', upd_same, ?_⟩
        rw [et]
        exact (hr2'.kept k9).app (h7.kept ((Kept.refl _).write hli5 True.intro))
      · rintro σ H2 ⟨z7, ys, rfl, sc, _, hl2', hr2'⟩
        rw [vI, List.length_map, subs_len, List.take_length, subs_inner] at hr2'
        have hw6 := sc _ _ hw4
        have hf6 := sc _ _ hf4
        refine ⟨_, rfl, .inl ⟨rfl, _, SqL.of hw6⟩, _, rfl, li, ys, rfl, SqL.of hl2', fun lr hlr => ?_⟩
        have s8 := same_new (o := .lst ys.reverse) hlr
        have l1 := hr2'.len
        have l2 := h3.len
        have l3 := len_cszs ds'
        have l4 := len_cszs (inner c)
        refine ⟨lw, lr, ws', ys.reverse, rfl, rfl, s8 _ _ hw6, upd_same, small_le (by rw [List.length_reverse]; omega), ?_⟩
        have k8 : Kept H2 (upd (upd H2 lr (.lst ys.reverse)) lw (.lst (ws' ++ ys.reverse))) := s8.kept.write (s8 _ _ hw6) True.intro
        refine ⟨cszs (ds' ++ (inner c).reverse), ?_, _, _, _, _, fs ++ [.ref t2], _, ds' ++ (inner c).reverse, rfl, ((sw4.trans sc).trans s8).upd hlw0, ?_, upd_same, ?_, ?_, ?_, rfl⟩
        · rw [cszs_app, cszs_app, cszs_rev]
          omega
        · rw [upd_ne hne]
          exact s8 _ _ hf6
        · rw [List.length_append, cszs_app, cszs_rev]
          show fs.length + 1 + _ ≤ _
          omega
        · intro v hv
          rcases List.mem_append.mp hv with hv | hv
          · obtain ⟨c', hc'⟩ := hfs v hv
            exact ⟨c', hc'.kept ((kw4.trans sc.kept).trans k8)⟩
          · cases List.mem_singleton.mp hv
            exact ⟨c, t2, pl, qs, _, rfl, ((sc.kept).trans k8).tq ht4, ((kw4.trans sc.kept).trans k8).tq hpl, hq2, hcv.kept ((kw4.trans sc.kept).trans k8), hokc⟩
        · exact (h3.kept ((kw4.trans sc.kept).trans k8)).app (hr2'.rev.kept k8)
theorem fk_tests_in (T : Txt K mg w a) : Fk P w K mg base "tests_in" 1 ["test", "path"] (spTestsIn K) := by
  refine (show Df K mg "tests_in" (top 9) from T.fn 2 _ rfl).fk sc_tests_in (fun vs H Q E h => ?_) (fun _ _ _ _ _ _ us hl => match us, hl with | [_, _], _ => rfl) fun f cdv A outer s H vs Q E hr h => ?_
  · obtain ⟨v, pp, ps, rfl, _⟩ := h
    rfl
  · obtain ⟨v, pp, ps, rfl, hv, hp, k⟩ := h
    obtain ⟨c, x, y, z, rfl, hc, hx, _, _⟩ := tp_three hv
    cases tp_str hx
    refine ⟨_, (pss_cons (ps_set (i := 2) nd_tests_in rfl (by first | exact Or.inl rfl | exact Or.inr rfl) (pe_lst (pa_cons (pe_tup (pa_cons (pv 1) (pa_cons (pv 0) pa_nil))) pa_nil)))
      (pss_cons (ps_while PassesOwn.never (pt_cmpR op_eq (pe_ix (ixT K rfl) (pv 0) pe_int (fun _ _ => rfl)) pe_str (nomark _)) pss_never)
      (pss_one (ps_ret (pv 2))))), ?_⟩
    refine ⟨_, rfl, _, rfl, small_le (by show 2 ≤ 1000000; decide), fun t ht => ⟨small_le (by show 1 ≤ 1000000; decide), fun l hl => ?_⟩⟩
    have s1 := same_new (o := .tup [.ref pp, .ref c]) ht
    have s2 := same_new (o := .lst [.ref t]) hl
    refine ⟨fun m σ H' => H' = upd (upd H t (.tup [.ref pp, .ref c])) l (.lst [.ref t]) ∧ σ = (start N_tests_in [.ref c, .ref pp]).set 2 (some (.ref l)), ⟨0, rfl, rfl⟩, ?_⟩
    rintro m σ H' ⟨rfl, rfl⟩
    refine ⟨_, rfl, _, _, _, _, rfl, rfl, (s1.trans s2).tq hc, rfl, rfl, _, rfl, iteN ⟨_, rfl, ?_⟩⟩
    exact k _ l t (s1.trans s2) (none_of_same s1 hl) upd_same (s2.tq (SqT.of upd_same))
/-- a pair of a place and a part (a command, or the test of one) -/
def Part (K : PySem.W.Frag) (nm : Nat → Str) (b : Nat) (H : Hp) (pv : V) : Prop := (∃ c, Tp K H pv (enc nm c) ∧ okC nm b c) ∨ Tp K H pv tAt
def Pair (K : PySem.W.Frag) (nm : Nat → Str) (b : Nat) (H : Hp) (v : V) : Prop := ∃ t pl ps pv, v = .ref t ∧ SqT K H t [.ref pl, pv] ∧ SqT K H pl ps ∧ Part K nm b H pv
theorem Part.kept {nm : Nat → Str} {b : Nat} {H H' : Hp} {v : V} (h : Part K nm b H v) (s : Kept H H') : Part K nm b H' v := by
  rcases h with ⟨c, h1, h2⟩ | h
  · exact .inl ⟨c, h1.kept s, h2⟩
  · exact .inr (h.kept s)
theorem Pair.kept {nm : Nat → Str} {b : Nat} {H H' : Hp} {v : V} (h : Pair K nm b H v) (s : Kept H H') : Pair K nm b H' v := by
  obtain ⟨t, pl, ps, pv, e, h1, h2, h3⟩ := h
  exact ⟨t, pl, ps, pv, e, s.tq h1, s.tq h2, h3.kept s⟩
def spNamed (K : PySem.W.Frag) : Sp := fun vs H Q _ => ∃ p pp xs ps nm b cs, vs = [.ref p, .ref pp] ∧ SqT K H p xs ∧ TpAll K H xs (encs nm cs) ∧ SqT K H pp ps ∧ ps.length ≤ 3 ∧ cszs cs ≤ 1000 ∧ okCs nm b cs ∧
  ∀ H' l ys, Same H H' → H l = none → H' l = some (.lst ys) → ys.length ≤ 2000 → (∀ v ∈ ys, Pair K nm b H' v) → Q (.ref l) H'
theorem fk_named_parts (T : Txt K mg w a) : Fk P w K mg base "named_parts" 3 ["commands", "path"] (spNamed K) := by
  have F_commands_in := fk_commands_in (P := P) (base := base) T
  have F_tests_in := fk_tests_in (P := P) (base := base) T
  refine (show Df K mg "named_parts" (top 48) from T.fn 24 _ rfl).fk sc_named_parts (fun vs H Q E h => ?_) (fun _ _ _ _ _ _ us hl => match us, hl with | [_, _], _ => rfl) fun f cdv A outer s H vs Q E hr h => ?_
  · obtain ⟨p, pp, xs, ps, nm, b, cs, rfl, _⟩ := h
    rfl
  · obtain ⟨p, pp, xs, ps, nm, b, cs, rfl, hp, r, hpp, hz, hm, hok, k⟩ := h
    refine ⟨_, (pss_cons (ps_set (i := 2) nd_named_parts rfl (by first | exact Or.inl rfl | exact Or.inr rfl) (pe_lst pa_nil))
      (pss_cons (ps_for PassesOwn.never rfl (pi_list (pe_f (F_commands_in) (hr.mono (by decide)) rfl (pa_cons (pv 0) (pa_cons (pv 1) pa_nil)))) (pgT K rfl rfl (pgs_cons (pg_name (i := 3) nd_named_parts rfl (by first | exact Or.inl rfl | exact Or.inr rfl)) (pgs_cons (pg_name (i := 4) nd_named_parts rfl (by first | exact Or.inl rfl | exact Or.inr rfl)) pgs_nil))) (pss_cons (ps_expr (pe_bm PySem.F.plainAttrs_list PySem.F.slot_list_append PySem.F.type_list_append mt_append (pv 2) (pa_cons (pe_tup (pa_cons (pv 3) (pa_cons (pv 4) pa_nil))) pa_nil)))
      (pss_one (ps_if (pt_cmpR op_eq (pe_ix (ixT K rfl) (pv 4) pe_int (fun _ _ => rfl)) pe_str (nomark _)) (pss_one (ps_expr (pe_bm PySem.F.plainAttrs_list PySem.F.slot_list_extend PySem.F.type_list_extend mt_extend (pv 2) (pa_cons (pe_f (F_tests_in) (hr.mono (by decide)) rfl (pa_cons (pe_ix (ixT K rfl) (pv 4) pe_int (fun _ _ => rfl)) (pa_cons (pe_op (catT K rfl) (pv 3) (pe_tup (pa_cons pe_int pa_nil))) pa_nil))) pa_nil)))) pss_nil))))
      (pss_one (ps_ret (pv 2))))), ?_⟩
    refine ⟨Nat.zero_le _, fun lf hlf => ?_⟩
    have s0 : Same H (upd H lf (.lst [])) := same_new hlf
    refine ⟨_, rfl, _, rfl, p, pp, xs, ps, nm, b, cs, rfl, s0.tq hp, r.same s0, s0.tq hpp, hz, hm, hok, fun H1 l ys s1 hl hl2 hl3 hr1 => ⟨l, rfl, ⟨ys, SqL.of hl2⟩, ?_⟩⟩
    have s01 := s0.trans s1
    have hf1 := s1 _ _ (upd_same (H := H) (a := lf) (o := .lst []))
    have hne : lf ≠ l := by
      rintro rfl
      rw [upd_same] at hl
      cases hl
    refine for_it walk_list (fun i σ H2 => ∃ z3 z4 fs, σ = [some (.ref p), some (.ref pp), some (.ref lf), z3, z4] ∧ Same H H2 ∧ H2 lf = some (.lst fs) ∧ H2 l = some (.lst ys) ∧ fs.length ≤ 2 * i ∧ (∀ v ∈ fs, Pair K nm b H2 v) ∧ ∀ v ∈ ys, ∃ c, Row K nm b H2 c v) ⟨none, none, [], rfl, s01, hf1, hl2, Nat.zero_le _, fun v hv => absurd hv List.not_mem_nil, hr1⟩ (fun i σ H2 _ ⟨_, _, _, _, _, _, h, _⟩ => SqL.of h) ?_ ?_
    · rintro i x σ H2 H3 hi ⟨z3, z4, fs, rfl, s2, hf, hl4, hfl, hfs, hrs⟩ ⟨rfl, hx⟩
      obtain ⟨c, t, pl, qs, cv, rfl, ht, hpl, hq, hcv, hokc⟩ := hrs x (List.mem_of_getElem? hx)
      obtain ⟨cp, wd, cxs, rfl, hcp, _, _, htst, hdec⟩ := subs_at hcv
      refine ⟨t, _, rfl, ht, rfl, _, _, rfl, _, _, rfl, rfl, ?_⟩
      refine ⟨_, rfl, .inl ⟨rfl, _, SqL.of hf⟩, _, rfl, _, rfl, small_le (by show 2 ≤ 1000000; decide), fun t2 ht2 => ?_⟩
      have s3 := same_new (o := .tup [.ref pl, .ref cp]) ht2
      refine ⟨lf, fs, _, rfl, rfl, s3 _ _ hf, small_line (by omega), ?_⟩
      have k4 : Kept _ (upd (upd H3 t2 (.tup [.ref pl, .ref cp])) lf (.lst (fs ++ [.ref t2]))) := s3.kept.write (s3 _ _ hf) True.intro
      have s4 : Same H (upd (upd H3 t2 (.tup [.ref pl, .ref cp])) lf (.lst (fs ++ [.ref t2]))) := (s2.trans s3).upd hlf
      have hf4 : (upd (upd H3 t2 (.tup [.ref pl, .ref cp])) lf (.lst (fs ++ [.ref t2]))) lf = some (.lst (fs ++ [.ref t2])) := upd_same
      have hl5 : (upd (upd H3 t2 (.tup [.ref pl, .ref cp])) lf (.lst (fs ++ [.ref t2]))) l = some (.lst ys) := by
        rw [upd_ne (Ne.symm hne)]
        exact s3 _ _ hl4
      have ht4 : SqT K (upd (upd H3 t2 (.tup [.ref pl, .ref cp])) lf (.lst (fs ++ [.ref t2]))) t2 [.ref pl, .ref cp] := ((Kept.refl _).write (s3 _ _ hf) True.intro).tq (SqT.of upd_same)
      generalize (upd (upd H3 t2 (.tup [.ref pl, .ref cp])) lf (.lst (fs ++ [.ref t2]))) = Hc at k4 s4 hf4 hl5 ht4 ⊢
      have hfs4 : ∀ v ∈ fs ++ [.ref t2], Pair K nm b Hc v := by
        intro v hv
        rcases List.mem_append.mp hv with hv | hv
        · exact (hfs v hv).kept k4
        · cases List.mem_singleton.mp hv
          exact ⟨t2, pl, qs, _, rfl, ht4, k4.tq hpl, .inl ⟨c, hcv.kept k4, hokc⟩⟩
      have hrs4 : ∀ v ∈ ys, ∃ c, Row K nm b Hc c v := fun v hv => let ⟨c, h⟩ := hrs v hv; ⟨c, h.kept k4⟩
      have hlen4 : (fs ++ [V.ref t2]).length = fs.length + 1 := List.length_append
      generalize (fs ++ [V.ref t2]) = fs4 at hf4 hfs4 hlen4
      refine ⟨_, rfl, _, _, _, _, rfl, rfl, k4.tq hcp, atI_zero _ _, rfl, _, rfl, ?_⟩
      by_cases hw : wd = "if"
      · rw [decide_eq_true (by rw [hw])]
        refine iteT ?_
        have ht1 := htst hw
        cases cxs with
        | nil => cases ht1
        | cons y cxs' =>
        have ht1' : Tp K _ y tAt := ht1
        refine ⟨_, rfl, .inl ⟨rfl, _, SqL.of hf4⟩, _, rfl, _, _, _, _, rfl, rfl, k4.tq hcp, atI_nat (j := 1) rfl, _, rfl, small_le (by show 1 ≤ 1000000; decide), fun t3 ht3 => ?_⟩
        have s5 := same_new (o := .tup [.int 1]) ht3
        have hq' : qs.length + 2 * csz c ≤ 3000 := hq
        refine cat_any (s5.tq (k4.tq hpl)) (SqT.of upd_same) (small_le (by show qs.length + 1 ≤ _; omega)) fun H5 q5 s6 hq5 => ?_
        have s56 := s5.trans s6
        refine ⟨y, q5, _, rfl, (ht1'.kept k4).same s56, hq5, fun H6 l6 t6 s7 h1 h2 h3 => ?_⟩
        have s567 := s56.trans s7
        refine ⟨lf, l6, _, [.ref t6], rfl, rfl, s567 _ _ hf4, h2, small_le (by show fs4.length + 1 ≤ _; omega), ?_⟩
        have k8 : Kept Hc (upd H6 lf (.lst (fs4 ++ [.ref t6]))) := s567.kept.write (s567 _ _ hf4) True.intro
        refine ⟨_, _, _, rfl, (s4.trans s567).upd hlf, upd_same, ?_, ?_, ?_, fun v hv => let ⟨c, h⟩ := hrs4 v hv; ⟨c, h.kept k8⟩⟩
        · rw [upd_ne (Ne.symm hne)]
          exact s567 _ _ hl5
        · rw [List.length_append]
          show fs4.length + 1 ≤ _
          omega
        · intro v hv
          rcases List.mem_append.mp hv with hv | hv
          · exact (hfs4 v hv).kept k8
          · cases List.mem_singleton.mp hv
            have k9 : Kept H6 (upd H6 lf (.lst (fs4 ++ [.ref t6]))) := (Kept.refl _).write (s567 _ _ hf4) True.intro
            exact ⟨t6, q5, _, y, rfl, k9.tq h3, (s7.kept.trans k9).tq hq5, .inr ((ht1'.kept k4).kept k8)⟩
      · rw [decide_eq_false (fun e => hw (V.str.inj e))]
        refine iteF ?_
        exact ⟨_, _, _, rfl, s4, hf4, hl5, by omega, hfs4, hrs4⟩
    · rintro σ H2 ⟨z3, z4, fs, rfl, s2, hf, hl4, hfl, hfs, hrs⟩
      exact ⟨_, rfl, k _ lf fs s2 hlf hf (by omega) hfs⟩
/-- the words of a part -/
theorem part_word {nm : Nat → Str} {b : Nat} {H : Hp} {v : V} (h : Part K nm b H v) : ∃ p wd xs, v = .ref p ∧ SqT K H p (.str wd :: xs) ∧ wd ∈ (["up", "zero", "do", "wins", "if", "repeat", "at"] : List Str) ∧
    ((wd ∈ (["do", "wins", "if", "repeat"] : List Str) ∧ (wd = "do" → ∃ k, xs = [.str (nm k)] ∧ k < b)) ∨ (∃ is : List Int, (wd, vI is) ∈ ([("up", vI [1]), ("zero", vI [1]), ("at", vI [1, 2])] : List (Str × List V)) ∧ is.length ≤ 2 ∧ (∀ i ∈ is, ∃ x, atI (.str wd :: xs) i = some (.str (ixn x))) ∧ wd ≠ "do")) := by
  rcases h with ⟨c, h, ok⟩ | h
  · cases c with
    | up x =>
      obtain ⟨p, y, z, rfl, hp, e1, e2⟩ := tp_two h
      cases tp_str e1
      cases tp_str e2
      refine ⟨p, _, _, rfl, hp, by simp, .inr ⟨[1], by simp, by decide, fun i hi => ?_, by decide +kernel⟩⟩
      cases List.mem_singleton.mp hi
      exact ⟨x, atI_nat (j := 1) rfl⟩
    | zero x =>
      obtain ⟨p, y, z, rfl, hp, e1, e2⟩ := tp_two h
      cases tp_str e1
      cases tp_str e2
      refine ⟨p, _, _, rfl, hp, by simp, .inr ⟨[1], by simp, by decide, fun i hi => ?_, by decide +kernel⟩⟩
      cases List.mem_singleton.mp hi
      exact ⟨x, atI_nat (j := 1) rfl⟩
    | call k =>
      obtain ⟨p, y, z, rfl, hp, e1, e2⟩ := tp_two h
      cases tp_str e1
      cases tp_str e2
      exact ⟨p, _, _, rfl, hp, by simp, .inl ⟨by simp, fun _ => ⟨k, rfl, ok.1⟩⟩⟩
    | win =>
      obtain ⟨p, y, z, rfl, hp, e1, e2⟩ := tp_two h
      cases tp_str e1
      exact ⟨p, _, _, rfl, hp, by simp, .inl ⟨by simp, fun e => absurd e (by decide +kernel)⟩⟩
    | rep q cs =>
      obtain ⟨p, x, y, z, rfl, hp, e1, e2, e3⟩ := tp_three h
      cases tp_str e1
      exact ⟨p, _, _, rfl, hp, by simp, .inl ⟨by simp, fun e => absurd e (by decide +kernel)⟩⟩
    | ifat cs ds =>
      obtain ⟨p, xs, rfl, hp, r⟩ := tp_tup h
      obtain ⟨x, r1, rfl, h1, r⟩ := tpa_cons r
      cases tp_str h1
      exact ⟨p, _, _, rfl, hp, by simp, .inl ⟨by simp, fun e => absurd e (by decide +kernel)⟩⟩
  · obtain ⟨p, x, y, z, rfl, hp, e1, e2, e3⟩ := tp_three h
    cases tp_str e1
    cases tp_str e2
    cases tp_str e3
    refine ⟨p, _, _, rfl, hp, by simp, .inr ⟨[1, 2], by simp, by decide, fun i hi => ?_, by decide +kernel⟩⟩
    rcases List.mem_cons.mp hi with rfl | hi
    · exact ⟨false, atI_nat (j := 1) rfl⟩
    · cases List.mem_singleton.mp hi
      exact ⟨true, atI_nat (j := 2) rfl⟩
theorem inV_str (z : Str) : ∀ l : List Str, inV (.str z) (vS l) = decide (z ∈ l)
  | [] => rfl
  | y :: l => by
    have h := inV_str z l
    unfold inV vS at h ⊢
    rw [List.map_cons, List.any_cons, h]
    show ((y == z) || decide (z ∈ l)) = decide (z ∈ y :: l)
    rw [Bool.eq_iff_iff, Bool.or_eq_true, beq_iff_eq, decide_eq_true_eq, decide_eq_true_eq, List.mem_cons]
    exact ⟨fun h => h.elim (fun h => .inl h.symm) .inr, fun h => h.elim (fun h => .inl h.symm) .inr⟩
theorem flat_vS : ∀ l : List Str, (vS l).all flatV = true
  | [] => rfl
  | _ :: l => flat_vS l
theorem nil_of_none {α : Type} {R : Nat → α → Prop} {n : Nat} {ys : List α} (h : ∀ y ∈ ys, ∃ i, i < n ∧ R i y) (hR : ∀ i y, ¬ R i y) : ys = [] := by
  cases ys with
  | nil => rfl
  | cons y r =>
    obtain ⟨i, _, h⟩ := h y (List.mem_cons_self ..)
    exact absurd h (hR i y)
def spUnk (K : PySem.W.Frag) : Sp := fun vs H Q _ => ∃ pl pv tl il ql ps qs nm b, vs = [.ref pl, pv, tl, .ref il, .ref ql] ∧ SqT K H pl ps ∧ Part K nm b H pv ∧ H il = some (.lst (vS ["i", "j"])) ∧ H ql = some (.lst (vS qs)) ∧ (∀ k, k < b → nm k ∈ qs) ∧
  ∀ H' l, Same H H' → H l = none → H' l = some (.lst []) → Q (.ref l) H'
def spInp (K : PySem.W.Frag) : Sp := fun vs H Q _ => ∃ pl pv ps nm b, vs = [.ref pl, pv] ∧ SqT K H pl ps ∧ Part K nm b H pv ∧
  ∀ H' l, Same H H' → H l = none → H' l = some (.lst []) → Q (.ref l) H'
theorem lc_none {J : It} {n : Nat} {G : Hp → Prop} {Y : Nat → Hp → V → Hp → Prop} (wk : Walk J n G Y) {g : TG} {tt : TT} {te : TE} {vs : List Nat} {σ : L2.St} {H1 : Hp} {D : Addr} {Qd : Hp → Prop} (hD : H1 D = none) (hn : n < sizeLine) (hG : ∀ H, Same H1 H → G H)
    (hs : ∀ i x H H', i < n → Same H1 H → Y i H x H' → ∀ (Kn : Hp → Prop) (Kq : VK), (∀ H4, Same H H4 → Kn H4) → g x (wipe σ vs) H' fun σ2 H2 => wipe σ2 vs = wipe σ vs ∧ tt σ2 H2 fun b H3 => if b = true then te σ2 H3 Kq else Kn H3)
    (hd : ∀ H, Same H1 H → H D = some (.lst []) → Qd H) :
    ∃ W : Nat → Nat → Hp → Prop, (∃ m, W 0 m (upd H1 D (.lst []))) ∧ ∀ i m H, W i m H →
      (J.stop i H ∧ Qd H) ∨ (J.go i H ∧ ∃ Nx : Hp → Prop, (∀ H', Nx H' → ∃ m', m' < m ∧ W (i + 1) m' H') ∧ ∀ x H', J.yld i H x H' → g x (wipe σ vs) H' fun σ2 H2 => wipe σ2 vs = wipe σ vs ∧ tt σ2 H2 fun b H3 =>
        if b = true then te σ2 H3 fun y H4 => ∃ acc, H4 D = some (.lst acc) ∧ acc.length < sizeLine ∧ Nx (upd H4 D (.lst (acc ++ [y]))) else Nx H3) :=
  lc_sel wk hD hn (fun _ _ _ => False) (fun _ _ _ _ _ h => h) hG (fun i x H H' hi s y Kn Kq kn _ => hs i x H H' hi s y Kn Kq kn) fun H ys s h _ hr => by
    have e : ys = [] := nil_of_none (R := fun _ _ => False) hr (fun _ _ h => h)
    subst e
    exact hd H s h
theorem fk_unknown_faults (T : Txt K mg w a) : Fk P w K mg base "unknown_faults" 1 ["path", "part", "tapes", "indexes", "procedures"] (spUnk K) := by
  refine (show Df K mg "unknown_faults" (top 49) from T.fn 25 _ rfl).fk sc_unknown_faults (fun vs H Q E h => ?_) (fun _ _ _ _ _ _ us hl => match us, hl with | [_, _, _, _, _], _ => rfl) fun f cdv A outer s H vs Q E hr h => ?_
  · obtain ⟨pl, pv, tl, il, ql, ps, qs, nm, b, rfl, _⟩ := h
    rfl
  · obtain ⟨pl, pv, tl, il, ql, ps, qs, nm, b, rfl, hpl, hpv, hil, hql, hqs, k⟩ := h
    obtain ⟨p, wd, xs, rfl, hp, hwd, hcase⟩ := part_word hpv
    refine ⟨_, (pss_cons (ps_set (i := 5) nd_unknown_faults rfl (by first | exact Or.inl rfl | exact Or.inr rfl) (pe_ix (ixT K rfl) (pv 1) pe_int (fun _ _ => rfl)))
      (pss_cons (ps_setLc (i := 6) (own := [("at", 7)]) (by rfl) nd_unknown_faults rfl rfl (sw_true rfl rfl rfl (by decide +kernel)) (pi_tup (pe_kget2 (pe_gr rfl T.TAPES_AT.mg) (pv 5) (pe_tup pa_nil) ⟨rfl, rfl, rfl, rfl⟩)) (blkOk_by (own := [("at", 7)]) (N := N_unknown_faults) (sc := defScope S_unknown_faults) (by decide +kernel)) (fun _ _ _ _ _ => (pg_name (i := 7) nd_unknown_faults rfl (by first | exact Or.inl rfl | exact Or.inr rfl))) (fun _ _ _ _ _ => (pts_one (pt_cmpR (niS K rfl) (pe_ix (ixT K rfl) (pv 1) (pv 7) (fun _ _ => rfl)) (pv 2) (rfl)))) (fun _ _ _ _ _ => (pv 7)))
      (pss_cons (ps_expr (pe_bm PySem.F.plainAttrs_list PySem.F.slot_list_extend PySem.F.type_list_extend mt_extend (pv 6) (pa_cons (pe_lc (own := [("at", 7)]) (by rfl) nd_unknown_faults (pi_tup (pe_kget2 (pe_gr rfl T.INDEXES_AT.mg) (pv 5) (pe_tup pa_nil) ⟨rfl, rfl, rfl, rfl⟩)) (blkOk_by (own := [("at", 7)]) (N := N_unknown_faults) (sc := defScope S_unknown_faults) (by decide +kernel)) (fun _ _ _ _ _ => (pg_name (i := 7) nd_unknown_faults rfl (by first | exact Or.inl rfl | exact Or.inr rfl))) (fun _ _ _ _ _ => (pts_one (pt_cmpR (niS K rfl) (pe_ix (ixT K rfl) (pv 1) (pv 7) (fun _ _ => rfl)) (pv 3) (rfl)))) (fun _ _ _ _ _ => (pv 7))) pa_nil)))
      (pss_cons (ps_if (PW.pt (pw_and (pt_cmpR op_eq (pv 5) pe_str (nomark _)) (pw_and1 (pt_cmpR (niS K rfl) (pe_ix (ixT K rfl) (pv 1) pe_int (fun _ _ => rfl)) (pv 4) (rfl))))) (pss_one (ps_expr (pe_bm PySem.F.plainAttrs_list PySem.F.slot_list_append PySem.F.type_list_append mt_append (pv 6) (pa_cons pe_int pa_nil)))) pss_nil)
      (pss_one (ps_ret (pe_lc (own := [("at", 7)]) (by rfl) nd_unknown_faults (pi_list (pv 6)) (blkOk_by (own := [("at", 7)]) (N := N_unknown_faults) (sc := defScope S_unknown_faults) (by decide +kernel)) (fun _ _ _ _ _ => (pg_name (i := 7) nd_unknown_faults rfl (by first | exact Or.inl rfl | exact Or.inr rfl))) (fun _ _ _ _ _ => pts_nil) (fun _ _ _ _ _ => (pe_tup (pa_cons pe_str (pa_cons (pe_op (catT K rfl) (pv 0) (pe_tup (pa_cons (pv 7) pa_nil))) pa_nil))))))))))), ?_⟩
    refine ⟨_, rfl, _, _, _, _, rfl, rfl, hp, atI_zero _ _, ?_⟩
    refine ⟨_, rfl, T.TAPES_AT.kd, _, rfl, Nat.zero_le _, fun te hte => ⟨wd, .ref te, rfl, kgot_no T.TAPES_AT hwd _, te, rfl, ⟨[], SqT.of upd_same⟩, fun D hD => ?_⟩⟩
    have s1 := same_new (o := .tup []) hte
    refine lc_none (walk_tup (xs := [])) hD (small_line (Nat.zero_le _)) (fun H1 s2 => s2.tq (SqT.of upd_same)) (fun i x H1 H2 hi => absurd hi (Nat.not_lt_zero _)) fun H1 s2 h1 => ?_
    have s12 := s1.trans s2
    have hD0 : H D = none := none_of_same s1 hD
    refine ⟨_, rfl, .inl ⟨rfl, _, SqL.of h1⟩, _, rfl, T.INDEXES_AT.kd, _, rfl, Nat.zero_le _, fun te2 hte2 => ?_⟩
    have s3 := same_new (o := .tup []) hte2
    have hget : ∃ q, ∃ is : List Int, KGot K a.ia wd (.ref te2) (.ref q) ∧ SqT K (upd H1 te2 (.tup [])) q (vI is) ∧ is.length ≤ 2 ∧ (∀ i ∈ is, ∃ x, atI (.str wd :: xs) i = some (.str (ixn x))) := by
      rcases hcase with ⟨e1, _⟩ | ⟨is, e1, e2, e3, _⟩
      · exact ⟨te2, [], kgot_no T.INDEXES_AT e1 _, SqT.of upd_same, by decide, fun i hi => absurd hi List.not_mem_nil⟩
      · obtain ⟨b, h1, h2⟩ := kgot_row T.INDEXES_AT e1 (.ref te2)
        exact ⟨b, is, h1, h2 _, e2, e3⟩
    obtain ⟨q, is, hq, hqt, hq2, hat⟩ := hget
    have s123 := s12.trans s3
    refine ⟨wd, .ref q, rfl, hq, q, rfl, ⟨_, hqt⟩, fun D2 hD2 => ?_⟩
    refine lc_none (walk_tup (xs := vI is)) hD2 (small_line (by rw [vI, List.length_map]; omega)) (fun H2 s4 => s4.tq hqt) ?_ ?_
    · rintro i x H2 H3 hi s4 ⟨rfl, hx⟩ Kn Kq qn
      rw [vI, List.getElem?_map] at hx
      cases ei : is[i]? with
      | none =>
        rw [ei] at hx
        cases hx
      | some at' =>
      rw [ei] at hx
      cases hx
      obtain ⟨x, ex⟩ := hat at' (List.mem_of_getElem? ei)
      refine ⟨rfl, _, rfl, _, rfl, _, _, _, _, rfl, rfl, (s123.trans s4).tq hp, ex, _, rfl, il, _, rfl, .inl (SqL.of ((s123.trans s4) _ _ hil)), rfl, flat_vS _, _, rfl, ?_⟩
      show if (!inV (.str (ixn x)) (vS ["i", "j"])) = true then _ else _
      rw [inV_str, decide_eq_true (by cases x <;> simp [ixn])]
      exact iteF (qn _ (Same.refl _))
    · intro H2 s4 h2
      have hD2' : (upd H1 te2 (.tup [])) D = some (.lst []) := s3 _ _ h1
      have h1' := s4 _ _ hD2'
      have s4' := s123.trans s4
      refine ⟨D, D2, [], [], rfl, rfl, h1', h2, Nat.zero_le _, ?_⟩
      have s5 : Same H (upd H2 D (.lst ([] ++ []))) := s4'.upd hD0
      have h5 : (upd H2 D (.lst ([] ++ []))) D = some (.lst []) := upd_same
      generalize (upd H2 D (.lst ([] ++ []))) = Hc at s5 h5 ⊢
      refine ⟨_, rfl, rfl, _, rfl, ?_⟩
      by_cases hw : wd = "do"
      · rw [decide_eq_true (by rw [hw])]
        rcases hcase with ⟨_, e2⟩ | ⟨_, _, _, _, e2⟩
        · obtain ⟨j, rfl, hj⟩ := e2 hw
          refine iteT ⟨_, rfl, _, _, _, _, rfl, rfl, s5.tq hp, atI_nat (j := 1) rfl, _, rfl, ql, _, rfl, .inl (SqL.of (s5 _ _ hql)), rfl, flat_vS _, _, rfl, ?_⟩
          show if (!inV (.str (nm j)) (vS qs)) = true then _ else _
          rw [inV_str, decide_eq_true (hqs j hj)]
          exact iteF ⟨_, rfl, D, rfl, ⟨_, SqL.of h5⟩, fun D3 hD3 => lc_none (walk_list (K := K) (a := D) (xs := [])) hD3 (small_line (Nat.zero_le _)) (fun H3 s6 => SqL.of (s6 _ _ h5)) (fun i x H3 H4 hi => absurd hi (Nat.not_lt_zero _)) fun H3 s6 h6 => k H3 D3 (s5.trans s6) (none_of_same s5 hD3) h6⟩
        · exact absurd hw e2
      · rw [decide_eq_false (fun e => hw (V.str.inj e))]
        exact iteF (iteF ⟨_, rfl, D, rfl, ⟨_, SqL.of h5⟩, fun D3 hD3 => lc_none (walk_list (K := K) (a := D) (xs := [])) hD3 (small_line (Nat.zero_le _)) (fun H3 s6 => SqL.of (s6 _ _ h5)) (fun i x H3 H4 hi => absurd hi (Nat.not_lt_zero _)) fun H3 s6 h6 => k H3 D3 (s5.trans s6) (none_of_same s5 hD3) h6⟩)
theorem fk_input_faults (T : Txt K mg w a) : Fk P w K mg base "input_faults" 1 ["path", "part"] (spInp K) := by
  refine (show Df K mg "input_faults" (top 50) from T.fn 26 _ rfl).fk sc_input_faults (fun vs H Q E h => ?_) (fun _ _ _ _ _ _ us hl => match us, hl with | [_, _], _ => rfl) fun f cdv A outer s H vs Q E hr h => ?_
  · obtain ⟨pl, pv, ps, nm, b, rfl, _⟩ := h
    rfl
  · obtain ⟨pl, pv, ps, nm, b, rfl, hpl, hpv, k⟩ := h
    obtain ⟨p, wd, xs, rfl, hp, hwd, hcase⟩ := part_word hpv
    refine ⟨_, (pss_one (ps_ret (pe_lc (own := [("at", 2)]) (by rfl) nd_input_faults (pi_tup (pe_kget2 (pe_gr rfl T.WRITTEN_AT.mg) (pe_ix (ixT K rfl) (pv 1) pe_int (fun _ _ => rfl)) (pe_tup pa_nil) ⟨rfl, rfl, rfl, rfl⟩)) (blkOk_by (own := [("at", 2)]) (N := N_input_faults) (sc := defScope S_input_faults) (by decide +kernel)) (fun _ _ _ _ _ => (pg_name (i := 2) nd_input_faults rfl (by first | exact Or.inl rfl | exact Or.inr rfl))) (fun _ _ _ _ _ => (pts_one (pt_cmpR op_eq (pe_ix (ixT K rfl) (pv 1) (pv 2) (fun _ _ => rfl)) (pe_gs rfl T.INPUT_faultwork) (nomark _)))) (fun _ _ _ _ _ => (pe_tup (pa_cons pe_str (pa_cons (pe_op (catT K rfl) (pv 0) (pe_tup (pa_cons (pv 2) pa_nil))) pa_nil))))))), ?_⟩
    refine ⟨_, rfl, T.WRITTEN_AT.kd, _, rfl, _, _, _, _, rfl, rfl, hp, atI_zero _ _, Nat.zero_le _, fun te hte => ⟨wd, .ref te, rfl, kgot_no T.WRITTEN_AT hwd _, te, rfl, ⟨[], SqT.of upd_same⟩, fun D hD => ?_⟩⟩
    have s1 := same_new (o := .tup []) hte
    exact lc_none (walk_tup (xs := [])) hD (small_line (Nat.zero_le _)) (fun H1 s2 => s2.tq (SqT.of upd_same)) (fun i x H1 H2 hi => absurd hi (Nat.not_lt_zero _)) fun H1 s2 h1 => k H1 D (s1.trans s2) (none_of_same s1 hD) h1
theorem nodup_take {α : Type} {L : List α} (h : L.Nodup) {k : Nat} {x : α} (e : L[k]? = some x) : x ∉ L.take k := by
  intro hm
  obtain ⟨j, hj, ej⟩ := List.getElem_of_mem hm
  obtain ⟨hk, ek⟩ := List.getElem?_eq_some_iff.mp e
  rw [List.length_take] at hj
  rw [List.getElem_take] at ej
  have := (List.getElem_inj h).mp (ej.trans ek.symm)
  omega
theorem take_snoc {α : Type} {L : List α} {k : Nat} {x : α} (e : L[k]? = some x) : L.take (k + 1) = L.take k ++ [x] := by
  rw [List.take_succ, e]
  rfl
/-- pairs with a name ahead -/
def Decl (K : PySem.W.Frag) (H : Hp) (names : List Str) (xs : List V) : Prop := xs.length = names.length ∧ ∀ (i : Nat) (x : V), xs[i]? = some x → ∃ t z y, x = .ref t ∧ names[i]? = some z ∧ SqT K H t [.str z, y]
theorem Decl.same {H H' : Hp} {names : List Str} {xs : List V} (h : Decl K H names xs) (s : Same H H') : Decl K H' names xs :=
  ⟨h.1, fun i x e => let ⟨t, z, y, e1, e2, e3⟩ := h.2 i x e; ⟨t, z, y, e1, e2, s.tq e3⟩⟩
theorem decl_of {α : Type} {H : Hp} {L : List α} {g : α → PyData} {nmf : α → Str} {rest : α → PyData} (hg : ∀ d, g d = .tuple [.str (nmf d), rest d]) {xs : List V} (r : TpAll K H xs (L.map g)) : Decl K H (L.map nmf) xs := by
  refine ⟨by rw [r.len, List.length_map, List.length_map], fun i x e => ?_⟩
  obtain ⟨d, hd, ht⟩ := r.at e
  rw [List.getElem?_map] at hd
  cases e2 : L[i]? with
  | none =>
    rw [e2] at hd
    cases hd
  | some d' =>
    rw [e2] at hd
    cases hd
    rw [hg] at ht
    obtain ⟨t, y, z, rfl, h1, h2, _⟩ := tp_two ht
    cases tp_str h2
    exact ⟨t, nmf d', z, rfl, by rw [List.getElem?_map, e2]; rfl, h1⟩
theorem OkScr.pnd {S : Scr} (o : OkScr S) : (S.P.map (·.1)).Nodup := by
  refine List.pairwise_iff_getElem.mpr fun i j hi hj hij => ?_
  rw [List.length_map] at hi hj
  rw [List.getElem_map, List.getElem_map]
  intro e'
  have e1 := (o.pok i _ (List.getElem?_eq_getElem hi)).1
  have e2 := (o.pok j _ (List.getElem?_eq_getElem hj)).1
  have := o.inj i j hi hj (by rw [← e1, ← e2]; exact e')
  omega
def Scr.names (S : Scr) : Nat → List Str
  | 0 => S.tapes.map (·.1)
  | 1 => S.ixs.map (·.1)
  | _ => S.P.map (·.1)
def ini (b : Bool) : List Str := if b then ["input"] else []
theorem OkScr.nd {S : Scr} (o : OkScr S) : ∀ i, (ini (decide (i = 0)) ++ S.names i).Nodup
  | 0 => o.tnd
  | 1 => by
    show [("i" : Str), "j"].Nodup
    decide +kernel
  | _ + 2 => o.pnd
theorem OkScr.nl {S : Scr} (o : OkScr S) : ∀ i, (S.names i).length ≤ 10
  | 0 => by
    show (S.tapes.map _).length ≤ 10
    rw [List.length_map]
    exact o.tlen
  | 1 => (by decide : 2 ≤ 10)
  | _ + 2 => by
    show (S.P.map _).length ≤ 10
    rw [List.length_map]
    exact o.plen
theorem scr_at {S : Scr} {H : Hp} {v : V} (h : Tp K H v (encScr S)) : ∃ p x y z, v = .ref p ∧ SqT K H p [x, y, z] ∧ ∀ i : Nat, i < 3 → ∃ q xs, [x, y, z][i]? = some (.ref q) ∧ SqT K H q xs ∧ Decl K H (S.names i) xs := by
  obtain ⟨p, x, y, z, rfl, hp, e1, e2, e3⟩ := tp_three h
  obtain ⟨px, xs, rfl, hx, rx⟩ := tp_tup e1
  obtain ⟨py, ys, rfl, hy, ry⟩ := tp_tup e2
  obtain ⟨pz, zs, rfl, hz, rz⟩ := tp_tup e3
  refine ⟨p, _, _, _, rfl, hp, fun i hi => ?_⟩
  match i, hi with
  | 0, _ => exact ⟨px, xs, rfl, hx, decl_of (g := encD) (nmf := Prod.fst) (rest := fun d => encP d.2) (fun d => rfl) rx⟩
  | 1, _ => exact ⟨py, ys, rfl, hy, decl_of (g := encD) (nmf := Prod.fst) (rest := fun d => encP d.2) (fun d => rfl) ry⟩
  | 2, _ => exact ⟨pz, zs, rfl, hz, decl_of (g := encPr S.nm) (nmf := Prod.fst) (rest := fun d => .tuple (encs S.nm d.2)) (fun d => rfl) rz⟩
theorem if_ini {b : Bool} {σ : L2.St} {H : Hp} {Q : VK} (h : ∀ l, H l = none → Q (.ref l) (upd H l (.lst (vS (ini b))))) : if b = true then tLst (tCons (tC (.str "input")) tNil) σ H Q else tLst tNil σ H Q := by
  cases b
  · exact iteF ⟨Nat.zero_le _, h⟩
  · exact iteT ⟨small_le (by show 1 ≤ 1000000; decide), h⟩
def spNoF (K : PySem.W.Frag) : Sp := fun vs H Q _ => ∃ v S, vs = [v] ∧ Tp K H v (encScr S) ∧ OkScr S ∧ ∀ H' l, Same H H' → H l = none → H' l = some (.lst []) → Q (.ref l) H'
theorem fk_twice_faults (T : Txt K mg w a) : Fk P w K mg base "twice_faults" 1 ["script"] (spNoF K) := by
  refine (show Df K mg "twice_faults" (top 47) from T.fn 23 _ rfl).fk sc_twice_faults (fun vs H Q E h => ?_) (fun _ _ _ _ _ _ us hl => match us, hl with | [_], _ => rfl) fun f cdv A outer s H vs Q E hr h => ?_
  · obtain ⟨v, S, rfl, _⟩ := h
    rfl
  · obtain ⟨v, S, rfl, hv, ok, k⟩ := h
    obtain ⟨p, x, y, z, rfl, hp, hat⟩ := scr_at hv
    refine ⟨_, (pss_cons (ps_set (i := 1) nd_twice_faults rfl (by first | exact Or.inl rfl | exact Or.inr rfl) (pe_lst pa_nil))
      (pss_cons (ps_for PassesOwn.never rfl (pi_range1 (by rfl) T.range (pa_cons (pe_gi rfl T.SORTS) pa_nil)) (pg_name (i := 2) nd_twice_faults rfl (by first | exact Or.inl rfl | exact Or.inr rfl)) (pss_cons (ps_set (i := 3) nd_twice_faults rfl (by first | exact Or.inl rfl | exact Or.inr rfl) (pe_ifExp (pt_cmpR op_eq (pv 2) pe_int (nomark _)) (pe_lst (pa_cons (pe_gs rfl T.INPUT_faultwork) pa_nil)) (pe_lst pa_nil)))
      (pss_one (ps_for PassesOwn.never rfl (pi_enumN (by rfl) T.enumerate (pa_cons (pe_ix (ixT K rfl) (pv 0) (pv 2) (fun _ _ => rfl)) pa_nil)) (pgT K rfl rfl (pgs_cons (pg_name (i := 4) nd_twice_faults rfl (by first | exact Or.inl rfl | exact Or.inr rfl)) (pgs_cons (pg_name (i := 5) nd_twice_faults rfl (by first | exact Or.inl rfl | exact Or.inr rfl)) pgs_nil))) (pss_cons (ps_if (pt_cmpR (inS K rfl) (pe_ix (ixT K rfl) (pv 5) pe_int (fun _ _ => rfl)) (pv 3) (rfl)) (pss_one (ps_expr (pe_bm PySem.F.plainAttrs_list PySem.F.slot_list_append PySem.F.type_list_append mt_append (pv 1) (pa_cons (pe_tup (pa_cons pe_str (pa_cons (pe_tup (pa_cons (pv 2) (pa_cons (pv 4) (pa_cons pe_int pa_nil)))) pa_nil))) pa_nil)))) pss_nil)
      (pss_one (ps_expr (pe_bm PySem.F.plainAttrs_list PySem.F.slot_list_append PySem.F.type_list_append mt_append (pv 3) (pa_cons (pe_ix (ixT K rfl) (pv 5) pe_int (fun _ _ => rfl)) pa_nil)))))))))
      (pss_one (ps_ret (pv 1))))), ?_⟩
    refine ⟨Nat.zero_le _, fun lf hlf => ?_⟩
    have s0 := same_new (o := .lst []) hlf
    refine ⟨3, rfl, by decide, by decide, ?_⟩
    refine for_it (walk_range (lo := 0) (n := 3)) (fun i σ H2 => ∃ z2 z3 z4 z5, σ = [some (.ref p), some (.ref lf), z2, z3, z4, z5] ∧ Same H H2 ∧ H2 lf = some (.lst [])) ⟨none, none, none, none, rfl, s0, upd_same⟩ (fun _ _ _ _ _ => True.intro) ?_ ?_
    · rintro i x1 σ H2 H3 hi ⟨z2, z3, z4, z5, rfl, s1, hf⟩ ⟨rfl, rfl⟩
      obtain ⟨q, xs, eq, hq, hd⟩ := hat i hi
      have eb : decide (V.int (0 + (i : Int)) = V.int 0) = decide (i = 0) := by
        rw [dec_int, Bool.eq_iff_iff]
        simp
      refine ⟨_, rfl, rfl, _, rfl, if_ini fun le hle => ?_⟩
      rw [eb]
      have s2 := same_new (o := .lst (vS (ini (decide (i = 0))))) hle
      have s12 := s1.trans s2
      have hle0 : H le = none := none_of_same s1 hle
      have hne : lf ≠ le := by
        rintro rfl
        rw [hf] at hle
        cases hle
      have hnl := ok.nl i
      have hnd := ok.nd i
      generalize hL : ini (decide (i = 0)) ++ S.names i = L at hnd
      have hLg : ∀ j, L[(ini (decide (i = 0))).length + j]? = (S.names i)[j]? := fun j => by
        rw [← hL, List.getElem?_append_right (Nat.le_add_right _ _), Nat.add_sub_cancel_left]
      have hI : ini (decide (i = 0)) = L.take (ini (decide (i = 0))).length := by rw [← hL, List.take_left]
      have hc : (ini (decide (i = 0))).length ≤ 1 := by cases decide (i = 0) <;> decide
      refine ⟨_, rfl, _, rfl, _, _, _, _, rfl, rfl, s12.tq hp, by rw [Int.zero_add]; exact atI_nat eq, q, xs, rfl, s12.tq hq, ?_⟩
      refine for_it walk_enumN (fun j σ H2 => ∃ z2 z4 z5, σ = [some (.ref p), some (.ref lf), z2, some (.ref le), z4, z5] ∧ Same H H2 ∧ H2 lf = some (.lst []) ∧ H2 le = some (.lst (vS (L.take ((ini (decide (i = 0))).length + j))))) ⟨_, _, _, rfl, s12, s2 _ _ hf, by rw [Nat.add_zero, ← hI]; exact upd_same⟩ (fun j σ H2 _ ⟨_, _, _, _, s3, _⟩ => s3.tq hq) ?_ ?_
      · rintro j x2 σ H2 H4 hj ⟨y2, y4, y5, rfl, s3, hf3, hl3⟩ ⟨T2, x1, x3, rfl, hT, rfl, hx1, hx2⟩
        cases Option.some.inj hx1
        obtain ⟨t, zz, yy, rfl, ez, ht⟩ := (hd.same s3).2 j x3 hx2
        have s4 := same_new (o := .tup [.int (j : Nat), .ref t]) hT
        refine ⟨T2, _, rfl, SqT.of upd_same, rfl, _, _, rfl, _, _, rfl, rfl, ?_⟩
        have eL := (hLg j).trans ez
        have hl4 := s4 _ _ hl3
        refine ⟨_, rfl, _, _, _, _, rfl, rfl, s4.tq ht, rfl, _, rfl, le, _, rfl, .inl (SqL.of hl4), rfl, flat_vS _, _, rfl, ?_⟩
        show if (inV (.str zz) (vS (L.take ((ini (decide (i = 0))).length + j)))) = true then _ else _
        rw [inV_str, decide_eq_false (nodup_take hnd eL)]
        refine iteF ?_
        have hlt : (L.take ((ini (decide (i = 0))).length + j)).length ≤ 11 := by
          rw [List.length_take, ← hL, List.length_append]
          omega
        refine ⟨_, rfl, .inl ⟨rfl, _, SqL.of hl4⟩, _, rfl, _, _, _, _, rfl, rfl, s4.tq ht, rfl, le, _, _, rfl, rfl, hl4, small_line (by rw [vS, List.length_map]; omega), ?_⟩
        refine ⟨_, _, _, rfl, (s3.trans s4).upd hle0, ?_, ?_⟩
        · rw [upd_ne hne]
          exact s4 _ _ hf3
        · rw [upd_same, ← Nat.add_assoc, take_snoc eL, vS, vS, List.map_append]
          rfl
      · rintro σ H2 ⟨y2, y4, y5, rfl, s3, hf3, _⟩
        exact ⟨_, _, _, _, rfl, s3, hf3⟩
    · rintro σ H2 ⟨z2, z3, z4, z5, rfl, s1, hf⟩
      exact ⟨_, rfl, k H2 lf s1 hlf hf⟩
theorem fk_all_faults (T : Txt K mg w a) : Fk P w K mg base "all_faults" 4 ["script"] (spNoF K) := by
  have F_twice_faults := fk_twice_faults (P := P) (base := base) T
  have F_named_parts := fk_named_parts (P := P) (base := base) T
  have F_unknown_faults := fk_unknown_faults (P := P) (base := base) T
  have F_input_faults := fk_input_faults (P := P) (base := base) T
  refine (show Df K mg "all_faults" (top 51) from T.fn 27 _ rfl).fk sc_all_faults (fun vs H Q E h => ?_) (fun _ _ _ _ _ _ us hl => match us, hl with | [_], _ => rfl) fun f cdv A outer s H vs Q E hr h => ?_
  · obtain ⟨v, S, rfl, _⟩ := h
    rfl
  · obtain ⟨v, S, rfl, hv, ok, k⟩ := h
    have hv' := hv
    obtain ⟨p, x, y, z, rfl, hp, e1, e2, e3⟩ := tp_three hv'
    obtain ⟨px, xs, rfl, hx, rx⟩ := tp_tup e1
    obtain ⟨py, ys, rfl, hy, ry⟩ := tp_tup e2
    obtain ⟨pz, zs, rfl, hz, rz⟩ := tp_tup e3
    have dx : Decl K H (S.names 0) xs := decl_of (g := encD) (nmf := Prod.fst) (rest := fun d => encP d.2) (fun d => rfl) rx
    have dy : Decl K H (S.names 1) ys := decl_of (g := encD) (nmf := Prod.fst) (rest := fun d => encP d.2) (fun d => rfl) ry
    have n0 := ok.nl 0
    have n1 := ok.nl 1
    have n2 := ok.plen
    have lx := dx.1
    have ly := dy.1
    have lz := rz.len
    rw [List.length_map] at lz
    refine ⟨_, (pss_cons (ps_set (i := 1) nd_all_faults rfl (by first | exact Or.inl rfl | exact Or.inr rfl) (pe_f (F_twice_faults) (hr.mono (by decide)) rfl (pa_cons (pv 0) pa_nil)))
      (pss_cons (ps_set (i := 2) nd_all_faults rfl (by first | exact Or.inl rfl | exact Or.inr rfl) (pe_op op_cat (pe_lst (pa_cons (pe_gs rfl T.INPUT_faultwork) pa_nil)) (pe_lc (own := [("tape", 9)]) (by rfl) nd_all_faults (pi_tup (pe_ix (ixT K rfl) (pv 0) pe_int (fun _ _ => rfl))) (blkOk_by (own := [("tape", 9)]) (N := N_all_faults) (sc := defScope S_all_faults) (by decide +kernel)) (fun _ _ _ _ _ => (pg_name (i := 9) nd_all_faults rfl (by first | exact Or.inl rfl | exact Or.inr rfl))) (fun _ _ _ _ _ => pts_nil) (fun _ _ _ _ _ => (pe_ix (ixT K rfl) (pv 9) pe_int (fun _ _ => rfl))))))
      (pss_cons (ps_setLc (i := 3) (own := [("index", 10)]) (by rfl) nd_all_faults rfl rfl (sw_true rfl rfl rfl (by decide +kernel)) (pi_tup (pe_ix (ixT K rfl) (pv 0) pe_int (fun _ _ => rfl))) (blkOk_by (own := [("index", 10)]) (N := N_all_faults) (sc := defScope S_all_faults) (by decide +kernel)) (fun _ _ _ _ _ => (pg_name (i := 10) nd_all_faults rfl (by first | exact Or.inl rfl | exact Or.inr rfl))) (fun _ _ _ _ _ => pts_nil) (fun _ _ _ _ _ => (pe_ix (ixT K rfl) (pv 10) pe_int (fun _ _ => rfl))))
      (pss_cons (ps_set (i := 4) nd_all_faults rfl (by first | exact Or.inl rfl | exact Or.inr rfl) (pe_lst pa_nil))
      (pss_cons (ps_for PassesOwn.never rfl (pi_enumN (by rfl) T.enumerate (pa_cons (pe_ix (ixT K rfl) (pv 0) (pe_gi rfl T.PROCEDURES) (fun _ _ => rfl)) pa_nil)) (pgT K rfl rfl (pgs_cons (pg_name (i := 5) nd_all_faults rfl (by first | exact Or.inl rfl | exact Or.inr rfl)) (pgs_cons (pg_name (i := 6) nd_all_faults rfl (by first | exact Or.inl rfl | exact Or.inr rfl)) pgs_nil))) (pss_cons (ps_for PassesOwn.never rfl (pi_list (pe_f (F_named_parts) (hr.mono (by decide)) rfl (pa_cons (pe_ix (ixT K rfl) (pv 6) pe_int (fun _ _ => rfl)) (pa_cons (pe_tup (pa_cons (pe_gi rfl T.PROCEDURES) (pa_cons (pv 5) (pa_cons pe_int pa_nil)))) pa_nil)))) (pgT K rfl rfl (pgs_cons (pg_name (i := 7) nd_all_faults rfl (by first | exact Or.inl rfl | exact Or.inr rfl)) (pgs_cons (pg_name (i := 8) nd_all_faults rfl (by first | exact Or.inl rfl | exact Or.inr rfl)) pgs_nil))) (pss_cons (ps_expr (pe_bm PySem.F.plainAttrs_list PySem.F.slot_list_extend PySem.F.type_list_extend mt_extend (pv 1) (pa_cons (pe_f (F_unknown_faults) (hr.mono (by decide)) rfl (pa_cons (pv 7) (pa_cons (pv 8) (pa_cons (pv 2) (pa_cons (pv 3) (pa_cons (pv 4) pa_nil)))))) pa_nil)))
      (pss_one (ps_expr (pe_bm PySem.F.plainAttrs_list PySem.F.slot_list_extend PySem.F.type_list_extend mt_extend (pv 1) (pa_cons (pe_f (F_input_faults) (hr.mono (by decide)) rfl (pa_cons (pv 7) (pa_cons (pv 8) pa_nil))) pa_nil))))))
      (pss_one (ps_expr (pe_bm PySem.F.plainAttrs_list PySem.F.slot_list_append PySem.F.type_list_append mt_append (pv 4) (pa_cons (pe_ix (ixT K rfl) (pv 6) pe_int (fun _ _ => rfl)) pa_nil))))))
      (pss_one (ps_ret (pv 1)))))))), ?_⟩
    refine ⟨_, rfl, _, S, rfl, hv, ok, fun H1 lf s1 hlf hf1 => ?_⟩
    refine ⟨small_le (by show 1 ≤ 1000000; decide), fun l1 hl1 => ?_⟩
    have s2 := s1.trans (same_new (o := .lst [.str "input"]) hl1)
    refine ⟨_, rfl, _, _, _, _, rfl, rfl, s2.tq hp, rfl, px, rfl, ⟨_, s2.tq hx⟩, fun D1 hD1 => ?_⟩
    refine lc_all walk_tup hD1 (small_line (by omega)) (vS (S.names 0)) (by rw [vS, List.length_map, lx]) (fun H2 s3 => s3.tq (s2.tq hx)) ?_ ?_
    · rintro i u H2 H3 hi s3 ⟨rfl, hu⟩ Kq q
      obtain ⟨t, zz, yy, rfl, ez, ht⟩ := ((dx.same s2).same s3).2 i u hu
      exact ⟨rfl, _, rfl, _, _, _, _, rfl, rfl, ht, rfl, q _ _ (Same.refl _) (by rw [vS, List.getElem?_map, ez]; rfl)⟩
    intro H2 s3 hD12
    refine ⟨l1, D1, [.str "input"], _, rfl, rfl, s3 _ _ upd_same, hD12, small_le (by rw [vS, List.length_map]; show 1 + _ ≤ _; omega), fun lt hlt => ?_⟩
    have s4 := (s2.trans s3).trans (same_new (o := .lst ([.str "input"] ++ vS (S.names 0))) hlt)
    have hf4 : (upd H2 lt (.lst ([.str "input"] ++ vS (S.names 0)))) lf = some (.lst []) := ((same_new (o := .lst [.str "input"]) hl1).trans s3).trans (same_new hlt) _ _ hf1
    generalize (upd H2 lt (.lst ([.str "input"] ++ vS (S.names 0)))) = H4 at s4 hf4 ⊢
    -- the indexes
    refine ⟨_, rfl, _, _, _, _, rfl, rfl, s4.tq hp, rfl, py, rfl, ⟨_, s4.tq hy⟩, fun li hli => ?_⟩
    refine lc_all walk_tup hli (small_line (by omega)) (vS (S.names 1)) (by rw [vS, List.length_map, ly]) (fun H2 s3 => s3.tq (s4.tq hy)) ?_ ?_
    · rintro i u H5 H6 hi s5 ⟨rfl, hu⟩ Kq q
      obtain ⟨t, zz, yy, rfl, ez, ht⟩ := ((dy.same s4).same s5).2 i u hu
      exact ⟨rfl, _, rfl, _, _, _, _, rfl, rfl, ht, rfl, q _ _ (Same.refl _) (by rw [vS, List.getElem?_map, ez]; rfl)⟩
    intro H5 s5 hli5
    refine ⟨Nat.zero_le _, fun le hle => ?_⟩
    have s6 : Same H5 (upd H5 le (.lst [])) := same_new hle
    have s06 := (s4.trans s5).trans s6
    have hle0 : H le = none := none_of_same (s4.trans s5) hle
    have hf6 := s6 _ _ (s5 _ _ hf4)
    have hli6 := s6 _ _ hli5
    have hle6 : (upd H5 le (.lst [])) le = some (.lst []) := upd_same
    have nfe : lf ≠ le := by
      rintro rfl
      rw [s5 _ _ hf4] at hle
      cases hle
    have nie : li ≠ le := by
      rintro rfl
      rw [hli5] at hle
      cases hle
    have nif : li ≠ lf := by
      rintro rfl
      rw [hf4] at hli
      cases hli
    generalize (upd H5 le (.lst [])) = H6 at s06 hf6 hli6 hle6 ⊢
    refine ⟨_, rfl, _, _, _, _, rfl, rfl, s06.tq hp, rfl, pz, zs, rfl, s06.tq hz, ?_⟩
    refine for_it walk_enumN (fun i σ H2 => ∃ z5 z6 z7 z8 z9 z10, σ = [some (.ref p), some (.ref lf), some (.ref lt), some (.ref li), some (.ref le), z5, z6, z7, z8, z9, z10] ∧ Same H H2 ∧ H2 lf = some (.lst []) ∧ H2 li = some (.lst (vS (S.names 1))) ∧ H2 le = some (.lst (vS ((S.names 2).take i)))) ⟨_, _, _, _, _, _, rfl, s06, hf6, hli6, hle6⟩ (fun i σ H2 _ ⟨_, _, _, _, _, _, _, s3, _⟩ => s3.tq hz) ?_ ?_
    · rintro i x2 σ H2 H3 hi ⟨z5, z6, z7, z8, z9, z10, rfl, s7, hf, hli7, hle7⟩ ⟨T2, x1, x3, rfl, hT, rfl, hx1, hx2⟩
      cases Option.some.inj hx1
      obtain ⟨d, hd, ht⟩ := (rz.same s7).at hx2
      rw [List.getElem?_map] at hd
      cases eP : S.P[i]? with
      | none =>
        rw [eP] at hd
        cases hd
      | some pr =>
      rw [eP] at hd
      cases hd
      obtain ⟨o1, o2, o3, o4⟩ := ok.pok i pr eP
      have s8 : Same H2 (upd H2 T2 (.tup [.int (i : Nat), x3])) := same_new hT
      obtain ⟨t, u, v2, rfl, htt, hu, hv2⟩ := tp_two (ht.same s8)
      cases tp_str hu
      obtain ⟨pb, bs, rfl, hb, rb⟩ := tp_tup hv2
      refine ⟨T2, _, rfl, SqT.of upd_same, rfl, _, _, rfl, _, _, rfl, rfl, ?_⟩
      refine ⟨_, rfl, _, _, _, _, rfl, rfl, htt, rfl, _, rfl, small_le (by show 3 ≤ 1000000; decide), fun t9 ht9 => ?_⟩
      have s9 := same_new (o := .tup [.int 2, .int (i : Nat), .int 1]) ht9
      refine ⟨pb, t9, bs, _, S.nm, i, pr.2, rfl, s9.tq hb, rb.same s9, SqT.of upd_same, (by exact Nat.le_refl 3), o4, o3, fun H7 lp ys7 s10 hlp hlp7 hy7 hpy => ⟨lp, rfl, ⟨_, SqL.of hlp7⟩, ?_⟩⟩
      have s11 := (s8.trans s9).trans s10
      have hlpo : H2 lp = none := none_of_same (s8.trans s9) hlp
      have npf : lp ≠ lf := by
        rintro rfl
        rw [hf] at hlpo
        cases hlpo
      have npe : lp ≠ le := by
        rintro rfl
        rw [hle7] at hlpo
        cases hlpo
      have hqs : ∀ k, k < i → S.nm k ∈ (S.names 2).take i := fun k hk => by
        have hi3 : i < S.P.length := (List.getElem?_eq_some_iff.mp eP).1
        have hk3 : k < S.P.length := by omega
        have e5 := (ok.pok k _ (List.getElem?_eq_getElem hk3)).1
        rw [List.mem_take_iff_getElem]
        refine ⟨k, by rw [show (S.names 2).length = S.P.length from List.length_map ..]; omega, ?_⟩
        exact (List.getElem_map _).trans e5
      refine for_it walk_list (fun j σ H2 => ∃ z7 z8, σ = [some (.ref p), some (.ref lf), some (.ref lt), some (.ref li), some (.ref le), some (.int (i : Nat)), some (.ref t), z7, z8, z9, z10] ∧ Same H H2 ∧ H2 lf = some (.lst []) ∧ H2 li = some (.lst (vS (S.names 1))) ∧ H2 le = some (.lst (vS ((S.names 2).take i))) ∧ H2 lp = some (.lst ys7) ∧ (∀ v ∈ ys7, Pair K S.nm i H2 v) ∧ SqT K H2 t [.str pr.1, .ref pb]) ⟨_, _, rfl, s7.trans s11, s11 _ _ hf, s11 _ _ hli7, s11 _ _ hle7, hlp7, hpy, (s9.trans s10).tq htt⟩ (fun i σ H2 _ ⟨_, _, _, _, _, _, _, h, _⟩ => SqL.of h) ?_ ?_
      · rintro j x5 σ H8 H9 hj ⟨y7, y8, rfl, s12, hf8, hli8, hle8, hlp8, hpy8, htt8⟩ ⟨rfl, hx5⟩
        obtain ⟨tt, pl, ps, pv, rfl, htt2, hpl, hpart⟩ := hpy8 x5 (List.mem_of_getElem? hx5)
        refine ⟨tt, _, rfl, htt2, rfl, _, _, rfl, _, _, rfl, rfl, ?_⟩
        refine ⟨_, rfl, .inl ⟨rfl, _, SqL.of hf8⟩, _, rfl, _, rfl, _, rfl, _, rfl, _, rfl, pl, pv, _, li, le, ps, _, S.nm, i, rfl, hpl, hpart, hli8, hle8, hqs, fun H10 l10 s13 hl10 hl10' => ?_⟩
        refine ⟨lf, l10, [], [], rfl, rfl, s13 _ _ hf8, hl10', Nat.zero_le _, ?_⟩
        have k13 : Kept H9 (upd H10 lf (.lst ([] ++ []))) := s13.kept.write (s13 _ _ hf8) True.intro
        have a1 : (upd H10 lf (.lst ([] ++ []))) lf = some (.lst []) := upd_same
        have a2 : (upd H10 lf (.lst ([] ++ []))) li = some (.lst (vS (S.names 1))) := by
          rw [upd_ne nif]
          exact s13 _ _ hli8
        have a3 : (upd H10 lf (.lst ([] ++ []))) le = some (.lst (vS ((S.names 2).take i))) := by
          rw [upd_ne (Ne.symm nfe)]
          exact s13 _ _ hle8
        have a4 : (upd H10 lf (.lst ([] ++ []))) lp = some (.lst ys7) := by
          rw [upd_ne npf]
          exact s13 _ _ hlp8
        have a5 : Same H (upd H10 lf (.lst ([] ++ []))) := (s12.trans s13).upd hlf
        generalize (upd H10 lf (.lst ([] ++ []))) = Hc at k13 a1 a2 a3 a4 a5 ⊢
        refine ⟨_, rfl, .inl ⟨rfl, _, SqL.of a1⟩, _, rfl, _, rfl, pl, pv, ps, S.nm, i, rfl, k13.tq hpl, hpart.kept k13, fun H11 l11 s14 hl11 hl11' => ?_⟩
        refine ⟨lf, l11, [], [], rfl, rfl, s14 _ _ a1, hl11', Nat.zero_le _, ?_⟩
        have k14 : Kept Hc (upd H11 lf (.lst ([] ++ []))) := s14.kept.write (s14 _ _ a1) True.intro
        refine ⟨_, _, rfl, (a5.trans s14).upd hlf, upd_same, ?_, ?_, ?_, fun v hv => (hpy8 v hv).kept (k13.trans k14), (k13.trans k14).tq htt8⟩
        · rw [upd_ne nif]
          exact s14 _ _ a2
        · rw [upd_ne (Ne.symm nfe)]
          exact s14 _ _ a3
        · rw [upd_ne npf]
          exact s14 _ _ a4
      · rintro σ H8 ⟨y7, y8, rfl, s12, hf8, hli8, hle8, hlp8, hpy8, htt8⟩
        have hz8 : (S.names 2)[i]? = some pr.1 := by
          show (S.P.map (·.1))[i]? = _
          rw [List.getElem?_map, eP]
          rfl
        refine ⟨_, rfl, .inl ⟨rfl, _, SqL.of hle8⟩, _, rfl, _, _, _, _, rfl, rfl, htt8, rfl, le, _, _, rfl, rfl, hle8, small_line (by rw [vS, List.length_map, List.length_take]; omega), ?_⟩
        refine ⟨_, _, _, _, _, _, rfl, s12.upd hle0, ?_, ?_, ?_⟩
        · rw [upd_ne nfe]
          exact hf8
        · rw [upd_ne nie]
          exact hli8
        · rw [upd_same, take_snoc hz8, vS, vS, List.map_append]
          rfl
    · rintro σ H2 ⟨z5, z6, z7, z8, z9, z10, rfl, s7, hf, _⟩
      exact ⟨_, rfl, k H2 lf s7 hlf hf⟩
theorem fk_is_program_value (T : Txt K mg w a) : Fk P w K mg base "is_program_value" 11 ["thing"] (spScr K) := by
  have F_is_script_value := fk_is_script_value (P := P) (base := base) T
  have F_all_faults := fk_all_faults (P := P) (base := base) T
  refine (show Df K mg "is_program_value" (top 52) from T.fn 28 _ rfl).fk sc_is_program_value (fun vs H Q E h => ?_) (fun _ _ _ _ _ _ us hl => match us, hl with | [_], _ => rfl) fun f cdv A outer s H vs Q E hr h => ?_
  · obtain ⟨v, S, rfl, _⟩ := h
    rfl
  · obtain ⟨v, S, rfl, hv, ok, k⟩ := h
    have hu := hu_of hr
    refine ⟨_, (pss_one (ps_ret (pe_and (pe_f (F_is_script_value) (hr.mono (by decide)) rfl (pa_cons (pv 0) pa_nil)) (pe_one (pe_cmpR (eqE K rfl hu) (pe_f (F_all_faults) (hr.mono (by decide)) rfl (pa_cons (pv 0) pa_nil)) (pe_lst pa_nil) (nomark _)))))), ?_⟩
    refine ⟨_, rfl, v, S, rfl, hv, ok, fun H1 s1 => ⟨_, rfl, iteT ?_⟩⟩
    refine ⟨_, rfl, v, S, rfl, hv.same s1, ok, fun H2 l s2 hl h2 => ⟨Nat.zero_le _, fun t ht => ?_⟩⟩
    have s3 := same_new (o := .lst []) ht
    exact ⟨l, t, [], rfl, rfl, .inl ⟨SqL.of (s3 _ _ h2), SqL.of upd_same⟩, k _ ((s1.trans s2).trans s3)⟩
def spNeed (K : PySem.W.Frag) : Sp := fun vs H Q _ => ∃ v S, vs = [v] ∧ Tp K H v (encScr S) ∧ OkScr S ∧ ∀ H', Same H H' → Q .non H'
theorem fk_need_program (T : Txt K mg w a) : Fk P w K mg base "need_program" 12 ["program"] (spNeed K) := by
  have F_is_program_value := fk_is_program_value (P := P) (base := base) T
  refine (show Df K mg "need_program" (top 53) from T.fn 29 _ rfl).fk sc_need_program (fun vs H Q E h => ?_) (fun _ _ _ _ _ _ us hl => match us, hl with | [_], _ => rfl) fun f cdv A outer s H vs Q E hr h => ?_
  · obtain ⟨v, S, rfl, _⟩ := h
    rfl
  · obtain ⟨v, S, rfl, hv, ok, k⟩ := h
    refine ⟨_, (pss_one (ps_if (pt_not (pt_val (pe_f (F_is_program_value) (hr.mono (by decide)) rfl (pa_cons (pv 0) pa_nil)))) pss_never pss_nil)), ?_⟩
    exact ⟨_, rfl, v, S, rfl, hv, ok, fun H1 s1 => ⟨_, rfl, iteF (k _ s1)⟩⟩
end
end NPK
set_option Elab.async false
set_option linter.all false
set_option maxRecDepth 100000
set_option maxHeartbeats 2000000
namespace NPK
open PySem PySem.Spec PyProof.Rows L2 NP
/-! ### a play as it stands in the heap -/
structure Lay where
  s : Addr
  sdx : Addr
  nu : Addr
  pi : Addr
  st : Addr
  tdx : Addr
  ds : Addr
  db : Addr
  dp : Addr
  hd : Addr
def ixK (x : Bool) : Key := .inr (ixn x)
def nums (i j : Nat) : List (Key × V) := [(ixK false, .int (i : Int)), (ixK true, .int (j : Int))]
theorem ixK_ne : ¬ (ixK false = ixK true) := by
  intro e
  have e2 : ixn false = ixn true := Sum.inr.inj e
  exact absurd e2 (by decide +kernel)
theorem nums_get (i j : Nat) : ∀ x : Bool, valV (nums i j) (ixK x) = some (.int ((if x then j else i : Nat) : Int))
  | false => by
    rw [nums, valV_pos rfl]
    rfl
  | true => by
    rw [nums, valV_neg ixK_ne, valV_pos rfl]
    rfl
theorem nums_put (i j n : Nat) : ∀ x : Bool, putK (nums i j) (ixK x) (.int (n : Int)) = if x then nums i n else nums n j
  | false => by
    have h : ¬ (ixK true = ixK false) := fun e => ixK_ne e.symm
    simp [putK, nums, h]
  | true => by simp [putK, nums, ixK_ne]
def sFlds (L : Lay) (n : Nat) (ch : V) : List (Str × V) := [("stage", .ref L.st), ("held", .ref L.hd), ("numbers", .ref L.nu), ("pile", .ref L.pi), ("steps", .int (n : Int)), ("champion", ch)]
def tFlds (L : Lay) (n : Nat) : List (Str × V) := [("length", .int (n : Int)), ("sizes", .ref L.ds), ("bounds", .ref L.db), ("bodies", .ref L.dp)]
/-- an entry of the pile -/
def EntAt (K : PySem.W.Frag) (nm : Nat → Str) (q : Addr) (H : Hp) (x : Ent) (v : V) : Prop :=
  ∃ a t xs, v = .ref a ∧ a ≠ q ∧ H a = some (.lst [.ref t, .int (x.2.1 : Nat), .int (x.2.2 : Nat)]) ∧ SqT K H t xs ∧ TpAll K H xs (encs nm x.1)
/-- the pile, its innermost entry last -/
inductive Ents (K : PySem.W.Frag) (nm : Nat → Str) (q : Addr) (H : Hp) : List Ent → List V → Prop
  | nil : Ents K nm q H [] []
  | snoc {x : Ent} {v : V} {P : List Ent} {vs : List V} (h : EntAt K nm q H x v) (r : Ents K nm q H P vs) : Ents K nm q H (x :: P) (vs ++ [v])
/-- all stays but the state, its numbers, its pile -/
def Stay (L : Lay) (H H' : Hp) : Prop := ∀ b o, H b = some o → b ≠ L.s → b ≠ L.nu → b ≠ L.pi → H' b = some o
structure PlayAt (K : PySem.W.Frag) (cP : Addr) (nm : Nat → Str) (L : Lay) (H : Hp) (c : Cf) (ch : V) : Prop where
  s : H L.s = some (.ins cP L.sdx (sFlds L c.st ch))
  nu : H L.nu = some (.dK (nums c.i c.j))
  pi : ∃ es, H L.pi = some (.lst es) ∧ Ents K nm L.pi H c.pile es
structure StageAt (K : PySem.W.Frag) (cS : Addr) (nm : Nat → Str) (L : Lay) (e : Stg) (H : Hp) : Prop where
  st : H L.st = some (.ins cS L.tdx (tFlds L e.n))
  db : H L.db = some (.dK (nums e.bi e.bj))
  dp : ∃ kvs, H L.dp = some (.dK kvs) ∧ ∀ k cs, e.B[k]? = some cs → ∃ t xs, valV kvs (.inr (nm k)) = some (.ref t) ∧ SqT K H t xs ∧ TpAll K H xs (encs nm cs)
  n1 : L.st ≠ L.s ∧ L.st ≠ L.nu ∧ L.st ≠ L.pi
  n2 : L.db ≠ L.s ∧ L.db ≠ L.nu ∧ L.db ≠ L.pi
  n3 : L.dp ≠ L.s ∧ L.dp ≠ L.nu ∧ L.dp ≠ L.pi
  n4 : L.s ≠ L.nu ∧ L.s ≠ L.pi ∧ L.nu ≠ L.pi
  len : e.n ≤ 4
section
variable {K : PySem.W.Frag} {cP cS : Addr} {nm : Nat → Str} {L : Lay} {e : Stg} {H H1 H2 : Hp} {c : Cf} {ch : V}
theorem Stay.refl : Stay L H H := fun _ _ h _ _ _ => h
theorem Stay.trans (a : Stay L H H1) (b : Stay L H1 H2) : Stay L H H2 := fun x o h h1 h2 h3 => b x o (a x o h h1 h2 h3) h1 h2 h3
theorem _root_.L2.Same.stay (s : Same H H1) : Stay L H H1 := fun x o h _ _ _ => s x o h
theorem Stay.s {o : HO} (a : Stay L H H1) : Stay L H (upd H1 L.s o) := fun x u h h1 h2 h3 => by
  rw [upd_ne h1]
  exact a x u h h1 h2 h3
theorem Stay.nu {o : HO} (a : Stay L H H1) : Stay L H (upd H1 L.nu o) := fun x u h h1 h2 h3 => by
  rw [upd_ne h2]
  exact a x u h h1 h2 h3
theorem Stay.pi {o : HO} (a : Stay L H H1) : Stay L H (upd H1 L.pi o) := fun x u h h1 h2 h3 => by
  rw [upd_ne h3]
  exact a x u h h1 h2 h3
theorem PlayAt.kept (p : PlayAt K cP nm L H c ch) (a : Stay L H H1) : Kept H H1 := by
  obtain ⟨es, hp, _⟩ := p.pi
  refine ⟨fun b xs h => a b _ h ?_ ?_ ?_, fun b o u h => a b _ h ?_ ?_ ?_⟩
  · rintro rfl
    rw [p.s] at h
    cases h
  · rintro rfl
    rw [p.nu] at h
    cases h
  · rintro rfl
    rw [hp] at h
    cases h
  · rintro rfl
    rw [p.s] at h
    cases h
  · rintro rfl
    rw [p.nu] at h
    cases h
  · rintro rfl
    rw [hp] at h
    cases h
theorem PlayAt.ne1 (p : PlayAt K cP nm L H c ch) : L.s ≠ L.nu := by
  intro h
  have := p.s
  rw [h, p.nu] at this
  cases this
theorem PlayAt.ne2 (p : PlayAt K cP nm L H c ch) : L.s ≠ L.pi := by
  obtain ⟨es, hp, _⟩ := p.pi
  intro h
  have := p.s
  rw [h, hp] at this
  cases this
theorem PlayAt.ne3 (p : PlayAt K cP nm L H c ch) : L.nu ≠ L.pi := by
  obtain ⟨es, hp, _⟩ := p.pi
  intro h
  have := p.nu
  rw [h, hp] at this
  cases this
theorem EntAt.stay {x : Ent} {v : V} (h : EntAt K nm L.pi H x v) (p : PlayAt K cP nm L H c ch) (a : Stay L H H1) : EntAt K nm L.pi H1 x v := by
  obtain ⟨b, t, xs, e, n, h1, h2, h3⟩ := h
  refine ⟨b, t, xs, e, n, a b _ h1 ?_ ?_ n, (p.kept a).tq h2, h3.kept (p.kept a)⟩
  · rintro rfl
    rw [p.s] at h1
    cases h1
  · rintro rfl
    rw [p.nu] at h1
    cases h1
theorem Ents.stay (p : PlayAt K cP nm L H c ch) (a : Stay L H H1) : ∀ {P : List Ent} {es : List V}, Ents K nm L.pi H P es → Ents K nm L.pi H1 P es
  | _, _, .nil => .nil
  | _, _, .snoc h r => .snoc (h.stay p a) (Ents.stay p a r)
theorem Ents.len {q : Addr} : ∀ {P : List Ent} {es : List V}, Ents K nm q H P es → es.length = P.length
  | _, _, .nil => rfl
  | _, _, .snoc h r => by rw [List.length_append, Ents.len r]; rfl
theorem StageAt.stay (h : StageAt K cS nm L e H) (p : PlayAt K cP nm L H c ch) (a : Stay L H H1) : StageAt K cS nm L e H1 := by
  obtain ⟨kvs, h1, h2⟩ := h.dp
  refine ⟨a _ _ h.st h.n1.1 h.n1.2.1 h.n1.2.2, a _ _ h.db h.n2.1 h.n2.2.1 h.n2.2.2, ⟨kvs, a _ _ h1 h.n3.1 h.n3.2.1 h.n3.2.2, fun k cs e => ?_⟩, h.n1, h.n2, h.n3, h.n4, h.len⟩
  obtain ⟨t, xs, h3, h4, h5⟩ := h2 k cs e
  exact ⟨t, xs, h3, (p.kept a).tq h4, h5.kept (p.kept a)⟩
/-- a change elsewhere -/
theorem PlayAt.same (p : PlayAt K cP nm L H c ch) (a : Same H H1) : PlayAt K cP nm L H1 c ch := by
  obtain ⟨es, hp, h⟩ := p.pi
  exact ⟨a _ _ p.s, a _ _ p.nu, es, a _ _ hp, h.stay p a.stay⟩
/-- the numbers set -/
theorem PlayAt.setN (p : PlayAt K cP nm L H c ch) (i j : Nat) : PlayAt K cP nm L (upd H L.nu (.dK (nums i j))) ⟨i, j, c.st, c.pile⟩ ch := by
  obtain ⟨es, hp, h⟩ := p.pi
  refine ⟨?_, upd_same, es, ?_, h.stay p (Stay.refl.nu)⟩
  · rw [upd_ne p.ne1]
    exact p.s
  · rw [upd_ne (Ne.symm p.ne3)]
    exact hp
/-- the state set -/
theorem PlayAt.setS (p : PlayAt K cP nm L H c ch) (n : Nat) (ch' : V) : PlayAt K cP nm L (upd H L.s (.ins cP L.sdx (sFlds L n ch'))) ⟨c.i, c.j, n, c.pile⟩ ch' := by
  obtain ⟨es, hp, h⟩ := p.pi
  refine ⟨upd_same, ?_, es, ?_, h.stay p (Stay.refl.s)⟩
  · rw [upd_ne (Ne.symm p.ne1)]
    exact p.nu
  · rw [upd_ne (Ne.symm p.ne2)]
    exact hp
/-- the pile set -/
theorem PlayAt.setP (p : PlayAt K cP nm L H c ch) {P : List Ent} {es : List V} (h : Ents K nm L.pi H P es) : PlayAt K cP nm L (upd H L.pi (.lst es)) ⟨c.i, c.j, c.st, P⟩ ch := by
  refine ⟨?_, ?_, es, upd_same, h.stay p (Stay.refl.pi)⟩
  · rw [upd_ne p.ne2]
    exact p.s
  · rw [upd_ne p.ne3]
    exact p.nu
end
/-! playwork -/
abbrev S_plain_test_holds : Stmt := top 60
abbrev N_plain_test_holds : List Str := ["state", "test", "word", "place", "letter", "other"]
theorem sc_plain_test_holds : FnScope N_plain_test_holds ["state", "test"] (defScope S_plain_test_holds) := ⟨rfl, rfl, rfl, by decide +kernel, rfl, by decide +kernel, by decide +kernel⟩
theorem nd_plain_test_holds : N_plain_test_holds.Nodup := sc_plain_test_holds.nd
abbrev S_test_holds : Stmt := top 61
abbrev N_test_holds : List Str := ["state", "test", "due"]
theorem sc_test_holds : FnScope N_test_holds ["state", "test"] (defScope S_test_holds) := ⟨rfl, rfl, rfl, by decide +kernel, rfl, by decide +kernel, by decide +kernel⟩
theorem nd_test_holds : N_test_holds.Nodup := sc_test_holds.nd
abbrev S_do_index : Stmt := top 64
abbrev N_do_index : List Str := ["state", "command", "word", "index", "bound"]
theorem sc_do_index : FnScope N_do_index ["state", "command"] (defScope S_do_index) := ⟨rfl, rfl, rfl, by decide +kernel, rfl, by decide +kernel, by decide +kernel⟩
theorem nd_do_index : N_do_index.Nodup := sc_do_index.nd
abbrev S_pass_command : Stmt := top 65
abbrev N_pass_command : List Str := ["state", "commands", "position", "rounds"]
theorem sc_pass_command : FnScope N_pass_command ["state"] (defScope S_pass_command) := ⟨rfl, rfl, rfl, by decide +kernel, rfl, by decide +kernel, by decide +kernel⟩
theorem nd_pass_command : N_pass_command.Nodup := sc_pass_command.nd
abbrev S_do_command : Stmt := top 66
abbrev N_do_command : List Str := ["state", "command", "word", "commands", "rounds"]
theorem sc_do_command : FnScope N_do_command ["state", "command"] (defScope S_do_command) := ⟨rfl, rfl, rfl, by decide +kernel, rfl, by decide +kernel, by decide +kernel⟩
theorem nd_do_command : N_do_command.Nodup := sc_do_command.nd
abbrev S_next_command : Stmt := top 67
abbrev N_next_command : List Str := ["state", "commands", "position", "rounds"]
theorem sc_next_command : FnScope N_next_command ["state"] (defScope S_next_command) := ⟨rfl, rfl, rfl, by decide +kernel, rfl, by decide +kernel, by decide +kernel⟩
theorem nd_next_command : N_next_command.Nodup := sc_next_command.nd
abbrev S_next_choice : Stmt := top 68
abbrev N_next_choice : List Str := ["state", "command"]
theorem sc_next_choice : FnScope N_next_choice ["state"] (defScope S_next_choice) := ⟨rfl, rfl, rfl, by decide +kernel, rfl, by decide +kernel, by decide +kernel⟩
theorem nd_next_choice : N_next_choice.Nodup := sc_next_choice.nd
def spTest (K : PySem.W.Frag) (cP : Addr) : Sp := fun vs H Q _ => ∃ nm L c ch v, vs = [.ref L.s, v] ∧ PlayAt K cP nm L H c ch ∧ Tp K H v tAt ∧ Q (.bl (decide (c.i = c.j))) H
section
variable {P : Program} {w : World} {K : PySem.W.Frag} {mg : Str → Option Value} {base : Heap} {a : Ads}
theorem fk_plain_test_holds (T : Txt K mg w a) : Fk P w K mg base "plain_test_holds" 1 ["state", "test"] (spTest K a.cP) := by
  refine (show Df K mg "plain_test_holds" (top 60) from T.fn 31 _ rfl).fk sc_plain_test_holds (fun vs H Q E h => ?_) (fun _ _ _ _ _ _ us hl => match us, hl with | [_, _], _ => rfl) fun f cdv A outer s H vs Q E hr h => ?_
  · obtain ⟨nm, L, c, ch, v, rfl, _⟩ := h
    rfl
  · obtain ⟨nm, L, c, ch, v, rfl, hp, hv, k⟩ := h
    have hu := hu_of hr
    obtain ⟨p, x, y, z, rfl, ht, h1, h2, h3⟩ := tp_three hv
    cases tp_str h1
    cases tp_str h2
    cases tp_str h3
    refine ⟨_, (pss_cons (ps_set (i := 2) nd_plain_test_holds rfl (by first | exact Or.inl rfl | exact Or.inr rfl) (pe_ix (ixT K rfl) (pv 1) pe_int (fun _ _ => rfl)))
      (pss_cons (ps_if (pt_cmpR op_eq (pv 2) pe_str (nomark _)) (pss_one (ps_ret (pe_cmpR op_eq (pe_dget hu (pe_fld (pv 0) rfl) (pe_ix (ixT K rfl) (pv 1) pe_int (fun _ _ => rfl)) (fun _ _ => rfl)) (pe_dget hu (pe_fld (pv 0) rfl) (pe_ix (ixT K rfl) (pv 1) pe_int (fun _ _ => rfl)) (fun _ _ => rfl)) (nomark _)))) pss_nil)
      pss_never)), ?_⟩
    refine ⟨_, rfl, _, _, _, _, rfl, rfl, ht, rfl, ?_⟩
    refine ⟨_, rfl, rfl, _, rfl, iteY ?_⟩
    refine ⟨_, rfl, L.s, a.cP, _, _, _, rfl, hp.s, T.clP, T.noP _ (by simp), rfl, _, rfl, _, _, _, _, rfl, rfl, ht, rfl, L.nu, _, rfl, (nums_get c.i c.j false) ▸ DGet.k hp.nu, ?_⟩
    refine ⟨_, rfl, L.s, a.cP, _, _, _, rfl, hp.s, T.clP, T.noP _ (by simp), rfl, _, rfl, _, _, _, _, rfl, rfl, ht, rfl, L.nu, _, rfl, (nums_get c.i c.j true) ▸ DGet.k hp.nu, rfl, ?_⟩
    have e : decide (V.int ((c.i : Nat) : Int) = V.int ((c.j : Nat) : Int)) = decide (c.i = c.j) := decide_eq_decide.mpr ⟨fun h => by have := V.int.inj h; omega, fun h => by rw [h]⟩
    show Q (.bl (decide (V.int ((c.i : Nat) : Int) = V.int ((c.j : Nat) : Int)))) H
    rw [e]
    exact k
theorem fk_test_holds (T : Txt K mg w a) : Fk P w K mg base "test_holds" 2 ["state", "test"] (spTest K a.cP) := by
  have F_plain_test_holds := fk_plain_test_holds (P := P) (base := base) T
  refine (show Df K mg "test_holds" (top 61) from T.fn 32 _ rfl).fk sc_test_holds (fun vs H Q E h => ?_) (fun _ _ _ _ _ _ us hl => match us, hl with | [_, _], _ => rfl) fun f cdv A outer s H vs Q E hr h => ?_
  · obtain ⟨nm, L, c, ch, v, rfl, _⟩ := h
    rfl
  · obtain ⟨nm, L, c, ch, v, rfl, hp, hv, k⟩ := h
    obtain ⟨p, x, y, z, rfl, ht, h1, h2, h3⟩ := tp_three hv
    cases tp_str h1
    refine ⟨_, (pss_cons (ps_set (i := 2) nd_test_holds rfl (by first | exact Or.inl rfl | exact Or.inr rfl) pe_bl)
      (pss_cons (ps_while PassesOwn.never (pt_cmpR op_eq (pe_ix (ixT K rfl) (pv 1) pe_int (fun _ _ => rfl)) pe_str (nomark _)) pss_never)
      (pss_one (ps_ret (pe_cmpR op_eq (pe_f (F_plain_test_holds) (hr.mono (by decide)) rfl (pa_cons (pv 0) (pa_cons (pv 1) pa_nil))) (pv 2) (nomark _)))))), ?_⟩
    refine ⟨fun m σ H' => H' = H ∧ σ = [some (.ref L.s), some (.ref p), some (.bl true)], ⟨0, rfl, rfl⟩, ?_⟩
    rintro m σ H' ⟨rfl, rfl⟩
    refine ⟨_, rfl, _, _, _, _, rfl, rfl, ht, rfl, rfl, _, rfl, iteN ?_⟩
    refine ⟨_, rfl, _, rfl, nm, L, c, ch, _, rfl, hp, hv, _, rfl, rfl, ?_⟩
    show Q (.bl (decide (V.bl (decide (c.i = c.j)) = V.bl true))) H'
    rw [dec_bl]
    cases h : decide (c.i = c.j) <;> rw [h] at k <;> exact k
def spIndex (K : PySem.W.Frag) (cS cP : Addr) : Sp := fun vs H Q _ => ∃ nm L e i j n pl ch v x, ∃ up : Bool, vs = [.ref L.s, v] ∧ PlayAt K cP nm L H ⟨i, j, n, pl⟩ ch ∧ StageAt K cS nm L e H ∧ Tp K H v (enc nm (if up then .up x else .zero x)) ∧
  ∀ H', Stay L H H' → PlayAt K cP nm L H' (if x then ⟨i, if up then min (j + 1) e.bj else 0, n, pl⟩ else ⟨if up then min (i + 1) e.bi else 0, j, n, pl⟩) ch → Q .non H'
theorem fk_do_index (T : Txt K mg w a) : Fk P w K mg base "do_index" 1 ["state", "command"] (spIndex K a.cS a.cP) := by
  refine (show Df K mg "do_index" (top 64) from T.fn 33 _ rfl).fk sc_do_index (fun vs H Q E h => ?_) (fun _ _ _ _ _ _ us hl => match us, hl with | [_, _], _ => rfl) fun f cdv A outer s H vs Q E hr h => ?_
  · obtain ⟨nm, L, e, i, j, n, pl, ch, v, x, up, rfl, _⟩ := h
    rfl
  · obtain ⟨nm, L, e, i, j, n, pl, ch, v, x, up, rfl, hp, hs, hv, k⟩ := h
    have hu := hu_of hr
    have hv' : Tp K H v (.tuple [.str (if up then "up" else "zero"), .str (ixn x)]) := by cases up <;> exact hv
    obtain ⟨p, y, z, rfl, ht, h1, h2⟩ := tp_two hv'
    cases tp_str h1
    cases tp_str h2
    refine ⟨_, (pss_cons (ps_par (by rfl) nd_do_index (i := 2) (j := 3) rfl rfl (by decide) rfl rfl (pa_cons (pe_ix (ixT K rfl) (pv 1) pe_int (fun _ _ => rfl)) (pa_cons (pe_ix (ixT K rfl) (pv 1) pe_int (fun _ _ => rfl)) pa_nil)) (by rfl))
      (pss_cons (ps_set (i := 4) nd_do_index rfl (by first | exact Or.inl rfl | exact Or.inr rfl) (pe_dget hu (pe_fld (pe_fld (pv 0) rfl) rfl) (pv 3) (fun _ _ => rfl)))
      (pss_one (ps_if (pt_cmpR op_eq (pv 2) pe_str (nomark _)) (pss_one (ps_dput hu (pe_fld (pv 0) rfl) (pv 3) pe_int rfl)) (pss_one (ps_if (pt_cmpR op_eq (pv 2) pe_str (nomark _)) (pss_one (ps_dput hu (pe_fld (pv 0) rfl) (pv 3) (pe_callB (call_min2 rfl) (by rfl) T.min (by decide +kernel) (pa_cons (pe_op op_add (pe_dget hu (pe_fld (pv 0) rfl) (pv 3) (fun _ _ => rfl)) pe_int) (pa_cons (pv 4) pa_nil))) rfl)) (pss_one (ps_if (pt_cmpR op_eq (pv 2) pe_str (nomark _)) pss_never pss_never)))))))), ?_⟩
    refine ⟨_, rfl, _, _, _, _, rfl, rfl, ht, rfl, _, rfl, _, _, _, _, rfl, rfl, ht, rfl, _, _, rfl, ?_⟩
    refine ⟨_, rfl, L.s, a.cP, _, _, _, rfl, hp.s, T.clP, T.noP _ (by simp), rfl, L.st, a.cS, _, _, _, rfl, hs.st, T.clS, T.noS _ (by simp), rfl, _, rfl, L.db, _, rfl, (nums_get e.bi e.bj x) ▸ DGet.k hs.db, ?_⟩
    cases up with
    | false =>
      refine ⟨_, rfl, rfl, _, rfl, iteY ?_⟩
      refine ⟨_, rfl, L.s, a.cP, _, _, _, rfl, hp.s, T.clP, T.noP _ (by simp), rfl, _, rfl, L.nu, _, rfl, DPut.k (k := ixK x) hp.nu (small_line (by show 2 ≤ 1000000; decide)), ?_⟩
      have e1 := nums_put i j 0 x
      have hq := k (upd H L.nu (.dK (if x then nums i 0 else nums 0 j))) Stay.refl.nu (by cases x <;> exact hp.setN _ _)
      rw [← e1] at hq
      exact hq
    | true =>
      refine ⟨_, rfl, rfl, _, rfl, iteN ?_⟩
      refine ⟨_, rfl, rfl, _, rfl, iteY ?_⟩
      refine ⟨_, rfl, L.s, a.cP, _, _, _, rfl, hp.s, T.clP, T.noP _ (by simp), rfl, _, rfl, L.nu, _, rfl, (nums_get i j x) ▸ DGet.k hp.nu, _, _, rfl, rfl, _, rfl, _, _, rfl, ?_⟩
      have em : (if (((if x then e.bj else e.bi : Nat) : Nat) : Int) < (((if x then j else i : Nat) : Nat) : Int) + 1 then (((if x then e.bj else e.bi : Nat) : Nat) : Int) else (((if x then j else i : Nat) : Nat) : Int) + 1) = ((min ((if x then j else i) + 1) (if x then e.bj else e.bi) : Nat) : Int) := by
        split <;> omega
      refine ⟨_, rfl, L.s, a.cP, _, _, _, rfl, hp.s, T.clP, T.noP _ (by simp), rfl, _, rfl, L.nu, _, rfl, DPut.k (k := ixK x) hp.nu (small_line (by show 2 ≤ 1000000; decide)), ?_⟩
      have hq := k (upd H L.nu (.dK (if x then nums i (min ((if x then j else i) + 1) (if x then e.bj else e.bi)) else nums (min ((if x then j else i) + 1) (if x then e.bj else e.bi)) j))) Stay.refl.nu (by cases x <;> exact hp.setN _ _)
      rw [← nums_put i j _ x, ← em] at hq
      exact hq
/-- the innermost entry's place one on, one step more -/
def spPass (K : PySem.W.Frag) (cP : Addr) : Sp := fun vs H Q _ => ∃ nm L i j n x P ch, vs = [.ref L.s] ∧ PlayAt K cP nm L H ⟨i, j, n, x :: P⟩ ch ∧
  ∀ H', Stay L H H' → PlayAt K cP nm L H' ⟨i, j, n + 1, pass (x :: P)⟩ ch → Q .non H'
theorem set_last {α : Type} (xs : List α) (x y : α) : (xs ++ [x]).set xs.length y = xs ++ [y] := by simp
theorem ixN_last {α : Type} (xs : List α) (x : α) : ixN (xs ++ [x]).length (-1) = some xs.length := by
  have hl : (xs ++ [x]).length = xs.length + 1 := by simp
  rw [hl]
  unfold ixN
  rw [if_neg (by omega), if_pos (by omega)]
  congr 1
  omega
theorem fk_pass_command (T : Txt K mg w a) : Fk P w K mg base "pass_command" 1 ["state"] (spPass K a.cP) := by
  refine (show Df K mg "pass_command" (top 65) from T.fn 34 _ rfl).fk sc_pass_command (fun vs H Q E h => ?_) (fun _ _ _ _ _ _ us hl => match us, hl with | [_], _ => rfl) fun f cdv A outer s H vs Q E hr h => ?_
  · obtain ⟨nm, L, i, j, n, x, pl, ch, rfl, _⟩ := h
    rfl
  · obtain ⟨nm, L, i, j, n, ⟨cs, kk, rr⟩, pl, ch, rfl, hp, k⟩ := h
    obtain ⟨es, hpi, hes⟩ := hp.pi
    cases hes with
    | snoc hx hr2 =>
    obtain ⟨b, t, xs, rfl, nb, hb, ht, hxs⟩ := hx
    refine ⟨_, (pss_cons (ps_asg (pe_ix (ixL K rfl) (pe_fld (pv 0) rfl) (pe_un un_neg pe_int) (fun _ _ => rfl)) (pg_unl rfl (pgs_cons (pg_name (i := 1) nd_pass_command rfl (by first | exact Or.inl rfl | exact Or.inr rfl)) (pgs_cons (pg_name (i := 2) nd_pass_command rfl (by first | exact Or.inl rfl | exact Or.inr rfl)) (pgs_cons (pg_name (i := 3) nd_pass_command rfl (by first | exact Or.inl rfl | exact Or.inr rfl)) pgs_nil)))))
      (pss_cons (ps_asg (pe_lst (pa_cons (pv 1) (pa_cons (pe_op op_add (pv 2) pe_int) (pa_cons (pv 3) pa_nil)))) (pg_sub (pe_fld (pv 0) rfl) (pe_un un_neg pe_int) set_list))
      (pss_one (ps_fldaug (pv 0) pe_int in_add)))), ?_⟩
    refine ⟨_, rfl, L.s, a.cP, _, _, _, rfl, hp.s, T.clP, T.noP _ (by simp), rfl, _, rfl, L.pi, _, _, _, rfl, rfl, SqL.of hpi, atI_last _ _, b, _, rfl, SqL.of hb, rfl, _, _, rfl, _, _, rfl, _, _, rfl, rfl, ?_⟩
    refine ⟨_, rfl, _, rfl, _, _, rfl, rfl, _, rfl, small_le (by show 3 ≤ 1000000; decide), fun l hl => ?_⟩
    have s1 := same_new (o := .lst [.ref t, .int ((kk : Nat) + 1), .int (rr : Nat)]) hl
    have hp1 := hp.same s1
    have hpi1 := s1 _ _ hpi
    refine ⟨_, rfl, L.s, a.cP, _, _, _, rfl, hp1.s, T.clP, T.noP _ (by simp), rfl, _, rfl, L.pi, _, _, _, rfl, rfl, hpi1, ixN_last _ _, ?_⟩
    rw [set_last]
    have hp2 := hp1.setP (P := (cs, kk + 1, rr) :: pl) (.snoc ⟨l, t, xs, rfl, ?_, ?_, s1.tq ht, hxs.same s1⟩ (hr2.stay hp s1.stay))
    · refine ⟨_, rfl, L.s, a.cP, _, _, _, rfl, hp2.s, T.clP, T.noP _ (by simp), rfl, _, _, rfl, rfl, L.sdx, _, hp2.s, (by show 6 < 1000; decide), ?_⟩
      exact k _ (s1.stay.pi.s) (hp2.setS (n + 1) ch)
    · rintro rfl
      rw [hpi] at hl
      cases hl
    · rw [upd_same]
      rfl
def champ (c : Cmd) (ch : V) : V := match c with
  | .win => .str "one"
  | _ => ch
def spDo (K : PySem.W.Frag) (cS cP : Addr) : Sp := fun vs H Q _ => ∃ nm L e i j n x P ch v c b, vs = [.ref L.s, v] ∧ PlayAt K cP nm L H ⟨i, j, n, x :: P⟩ ch ∧ StageAt K cS nm L e H ∧ Tp K H v (enc nm c) ∧ okC nm b c ∧ okc e c ∧ P.length ≤ 100000 ∧
  ∀ H', Stay L H H' → PlayAt K cP nm L H' (after e c i j n (x :: P)) (champ c ch) → Q .non H'
theorem iteIn {A B : Prop} {z : Str} {l : List Str} (k : B) (h : decide (z ∈ l) = false := by decide +kernel) : if (if false = true then !inV (.str z) (vS l) else inV (.str z) (vS l)) = true then A else B := by
  show if inV (.str z) (vS l) = true then A else B
  rw [inV_str, h]
  exact iteF k
theorem iteIy {A B : Prop} {z : Str} {l : List Str} (k : A) (h : decide (z ∈ l) = true := by decide +kernel) : if (if false = true then !inV (.str z) (vS l) else inV (.str z) (vS l)) = true then A else B := by
  show if inV (.str z) (vS l) = true then A else B
  rw [inV_str, h]
  exact iteT k
def cut1 : List Str := ["set", "copy", "clear"]
def cut2 : List Str := ["zero", "up", "down", "same"]
theorem fk_do_command (T : Txt K mg w a) : Fk P w K mg base "do_command" 3 ["state", "command"] (spDo K a.cS a.cP) := by
  have F_pass_command := fk_pass_command (P := P) (base := base) T
  have F_do_index := fk_do_index (P := P) (base := base) T
  have F_test_holds := fk_test_holds (P := P) (base := base) T
  have F_poly_value := fk_poly_value (P := P) (base := base) T
  refine (show Df K mg "do_command" (top 66) from T.fn 35 _ rfl).fk sc_do_command (fun vs H Q E h => ?_) (fun _ _ _ _ _ _ us hl => match us, hl with | [_, _], _ => rfl) fun f cdv A outer s H vs Q E hr h => ?_
  · obtain ⟨nm, L, e, i, j, n, x, pl, ch, v, c, b, rfl, _⟩ := h
    rfl
  · obtain ⟨nm, L, e, i, j, n, x, pl, ch, v, c, b, rfl, hp, hs, hv, hok, hoc, hl, k⟩ := h
    have hu := hu_of hr
    refine ⟨_, (pss_cons (ps_expr (pe_f (F_pass_command) (hr.mono (by decide)) rfl (pa_cons (pv 0) pa_nil)))
      (pss_cons (ps_set (i := 2) nd_do_command rfl (by first | exact Or.inl rfl | exact Or.inr rfl) (pe_ix (ixT K rfl) (pv 1) pe_int (fun _ _ => rfl)))
      (pss_one (ps_if (pt_cmpR (inS K rfl) (pv 2) (pe_tup (pa_cons pe_str (pa_cons pe_str (pa_cons pe_str pa_nil)))) (rfl)) pss_never (pss_one (ps_if (pt_cmpR (inS K rfl) (pv 2) (pe_tup (pa_cons pe_str (pa_cons pe_str (pa_cons pe_str (pa_cons pe_str pa_nil))))) (rfl)) (pss_one (ps_expr (pe_f (F_do_index) (hr.mono (by decide)) rfl (pa_cons (pv 0) (pa_cons (pv 1) pa_nil))))) (pss_one (ps_if (pt_cmpR op_eq (pv 2) pe_str (nomark _)) (pss_cons (ps_set (i := 3) nd_do_command rfl (by first | exact Or.inl rfl | exact Or.inr rfl) (pe_ifExp (pt_val (pe_f (F_test_holds) (hr.mono (by decide)) rfl (pa_cons (pv 0) (pa_cons (pe_ix (ixT K rfl) (pv 1) pe_int (fun _ _ => rfl)) pa_nil)))) (pe_ix (ixT K rfl) (pv 1) pe_int (fun _ _ => rfl)) (pe_ix (ixT K rfl) (pv 1) pe_int (fun _ _ => rfl))))
      (pss_one (ps_expr (pe_bm PySem.F.plainAttrs_list PySem.F.slot_list_append PySem.F.type_list_append mt_append (pe_fld (pv 0) rfl) (pa_cons (pe_lst (pa_cons (pv 3) (pa_cons pe_int (pa_cons pe_int pa_nil)))) pa_nil))))) (pss_one (ps_if (pt_cmpR op_eq (pv 2) pe_str (nomark _)) (pss_one (ps_expr (pe_bm PySem.F.plainAttrs_list PySem.F.slot_list_append PySem.F.type_list_append mt_append (pe_fld (pv 0) rfl) (pa_cons (pe_lst (pa_cons (pe_dget hu (pe_fld (pe_fld (pv 0) rfl) rfl) (pe_ix (ixT K rfl) (pv 1) pe_int (fun _ _ => rfl)) (fun _ _ => rfl)) (pa_cons pe_int (pa_cons pe_int pa_nil)))) pa_nil)))) (pss_one (ps_if (pt_cmpR op_eq (pv 2) pe_str (nomark _)) (pss_one (ps_fld (pv 0) (pe_ix (ixT K rfl) (pv 1) pe_int (fun _ _ => rfl)) rfl)) (pss_cons (ps_set (i := 4) nd_do_command rfl (by first | exact Or.inl rfl | exact Or.inr rfl) (pe_f (F_poly_value) (hr.mono (by decide)) rfl (pa_cons (pe_ix (ixT K rfl) (pv 1) pe_int (fun _ _ => rfl)) (pa_cons (pe_fld (pe_fld (pv 0) rfl) rfl) pa_nil))))
      (pss_one (ps_if (pt_cmpR op_gt (pv 4) pe_int (nomark _)) (pss_one (ps_expr (pe_bm PySem.F.plainAttrs_list PySem.F.slot_list_append PySem.F.type_list_append mt_append (pe_fld (pv 0) rfl) (pa_cons (pe_lst (pa_cons (pe_ix (ixT K rfl) (pv 1) pe_int (fun _ _ => rfl)) (pa_cons pe_int (pa_cons (pv 4) pa_nil)))) pa_nil)))) pss_nil))))))))))))))), ?_⟩
    refine ⟨_, rfl, nm, L, i, j, n, x, pl, ch, rfl, hp, fun H1 y1 hp1 => ?_⟩
    have hs1 := hs.stay hp y1
    have hv1 := hv.kept (hp.kept y1)
    clear hv hs
    obtain ⟨cs0, k0, r0⟩ := x
    -- push an entry
    have push : ∀ (H2 : Hp) (cs : List Cmd) (r l t : Nat) (xs : List V), Stay L H H2 → PlayAt K a.cP nm L H2 ⟨i, j, n + 1, pass ((cs0, k0, r0) :: pl)⟩ ch → SqT K H2 t xs → TpAll K H2 xs (encs nm cs) → H2 l = none →
        ∃ es, (upd H2 l (.lst [.ref t, .int 0, .int (r : Nat)])) L.s = some (.ins a.cP L.sdx (sFlds L (n + 1) ch)) ∧ (upd H2 l (.lst [.ref t, .int 0, .int (r : Nat)])) L.pi = some (.lst es) ∧ es.length < sizeLine ∧ Stay L H (upd (upd H2 l (.lst [.ref t, .int 0, .int (r : Nat)])) L.pi (.lst (es ++ [.ref l]))) ∧
          PlayAt K a.cP nm L (upd (upd H2 l (.lst [.ref t, .int 0, .int (r : Nat)])) L.pi (.lst (es ++ [.ref l]))) ⟨i, j, n + 1, (cs, 0, r) :: pass ((cs0, k0, r0) :: pl)⟩ ch := by
      intro H2 cs r l t xs y2 hp2 ht hxs hl2
      have s3 := same_new (o := .lst [.ref t, .int 0, .int (r : Nat)]) hl2
      have hp3 := hp2.same s3
      obtain ⟨es, he, hes⟩ := hp3.pi
      refine ⟨es, hp3.s, he, ?_, (y2.trans s3.stay).pi, hp3.setP (.snoc ⟨l, t, xs, rfl, ?_, upd_same, s3.tq ht, hxs.same s3⟩ hes)⟩
      · rw [hes.len]
        show pl.length + 1 < sizeLine
        exact small_line (by omega)
      · rintro rfl
        obtain ⟨es', he', _⟩ := hp2.pi
        rw [he'] at hl2
        cases hl2
    cases c with
    | up x =>
      have hv2 := hv1
      obtain ⟨p, y, z, rfl, ht, e1, e2⟩ := tp_two hv2
      cases tp_str e1
      refine ⟨_, rfl, _, _, _, _, rfl, rfl, ht, rfl, ?_⟩
      refine ⟨_, rfl, small_le (by show 3 ≤ 1000000; decide), fun t1 ht1 => ⟨t1, vS cut1, rfl, .inr (SqT.of upd_same), rfl, rfl, _, rfl, iteIn ?_⟩⟩
      have s2 := same_new (o := .tup (vS cut1)) ht1
      refine ⟨_, rfl, small_le (by show 4 ≤ 1000000; decide), fun t2 ht2 => ⟨t2, vS cut2, rfl, .inr (SqT.of upd_same), rfl, rfl, _, rfl, iteIy ?_⟩⟩
      have s3 := s2.trans (same_new (o := .tup (vS cut2)) ht2)
      refine ⟨_, rfl, _, rfl, nm, L, e, i, j, n + 1, _, ch, _, x, true, rfl, hp1.same s3, hs1.stay hp1 s3.stay, hv1.same s3, fun H2 y3 hp2 => ?_⟩
      refine k H2 ((y1.trans s3.stay).trans y3) ?_
      cases x <;> exact hp2
    | zero x =>
      have hv2 := hv1
      obtain ⟨p, y, z, rfl, ht, e1, e2⟩ := tp_two hv2
      cases tp_str e1
      refine ⟨_, rfl, _, _, _, _, rfl, rfl, ht, rfl, ?_⟩
      refine ⟨_, rfl, small_le (by show 3 ≤ 1000000; decide), fun t1 ht1 => ⟨t1, vS cut1, rfl, .inr (SqT.of upd_same), rfl, rfl, _, rfl, iteIn ?_⟩⟩
      have s2 := same_new (o := .tup (vS cut1)) ht1
      refine ⟨_, rfl, small_le (by show 4 ≤ 1000000; decide), fun t2 ht2 => ⟨t2, vS cut2, rfl, .inr (SqT.of upd_same), rfl, rfl, _, rfl, iteIy ?_⟩⟩
      have s3 := s2.trans (same_new (o := .tup (vS cut2)) ht2)
      refine ⟨_, rfl, _, rfl, nm, L, e, i, j, n + 1, _, ch, _, x, false, rfl, hp1.same s3, hs1.stay hp1 s3.stay, hv1.same s3, fun H2 y3 hp2 => ?_⟩
      refine k H2 ((y1.trans s3.stay).trans y3) ?_
      cases x <;> exact hp2
    | win =>
      have hv2 := hv1
      obtain ⟨p, y, z, rfl, ht, e1, e2⟩ := tp_two hv2
      cases tp_str e1
      cases tp_str e2
      refine ⟨_, rfl, _, _, _, _, rfl, rfl, ht, rfl, ?_⟩
      refine ⟨_, rfl, small_le (by show 3 ≤ 1000000; decide), fun t1 ht1 => ⟨t1, vS cut1, rfl, .inr (SqT.of upd_same), rfl, rfl, _, rfl, iteIn ?_⟩⟩
      have s2 := same_new (o := .tup (vS cut1)) ht1
      refine ⟨_, rfl, small_le (by show 4 ≤ 1000000; decide), fun t2 ht2 => ⟨t2, vS cut2, rfl, .inr (SqT.of upd_same), rfl, rfl, _, rfl, iteIn ?_⟩⟩
      have s3 := s2.trans (same_new (o := .tup (vS cut2)) ht2)
      have hp3 := hp1.same s3
      refine ⟨_, rfl, rfl, _, rfl, iteN ⟨_, rfl, rfl, _, rfl, iteN ⟨_, rfl, rfl, _, rfl, iteY ?_⟩⟩⟩
      refine ⟨_, rfl, _, _, _, _, rfl, rfl, s3.tq ht, rfl, _, rfl, L.s, a.cP, _, _, rfl, hp3.s, T.clP, T.noP _ (by simp), (by show 6 < 1000; decide), ?_⟩
      exact k _ ((y1.trans s3.stay).s) (hp3.setS (n + 1) (.str "one"))
    | call q =>
      have hv2 := hv1
      obtain ⟨p, y, z, rfl, ht, e1, e2⟩ := tp_two hv2
      cases tp_str e1
      cases tp_str e2
      refine ⟨_, rfl, _, _, _, _, rfl, rfl, ht, rfl, ?_⟩
      refine ⟨_, rfl, small_le (by show 3 ≤ 1000000; decide), fun t1 ht1 => ⟨t1, vS cut1, rfl, .inr (SqT.of upd_same), rfl, rfl, _, rfl, iteIn ?_⟩⟩
      have s2 := same_new (o := .tup (vS cut1)) ht1
      refine ⟨_, rfl, small_le (by show 4 ≤ 1000000; decide), fun t2 ht2 => ⟨t2, vS cut2, rfl, .inr (SqT.of upd_same), rfl, rfl, _, rfl, iteIn ?_⟩⟩
      have s3 := s2.trans (same_new (o := .tup (vS cut2)) ht2)
      have hp3 := hp1.same s3
      have hs3 := hs1.stay hp1 s3.stay
      refine ⟨_, rfl, rfl, _, rfl, iteN ⟨_, rfl, rfl, _, rfl, iteY ?_⟩⟩
      have hq := hoc q rfl
      obtain ⟨kvs, hd1, hd2⟩ := hs3.dp
      obtain ⟨tb, xb, g1, g2, g3⟩ := hd2 q _ (List.getElem?_eq_getElem hq)
      refine ⟨_, rfl, L.s, a.cP, _, _, _, rfl, hp3.s, T.clP, T.noP _ (by simp), rfl, .inl ⟨rfl, ?_⟩, _, rfl, L.s, a.cP, _, _, _, rfl, hp3.s, T.clP, T.noP _ (by simp), rfl, L.st, a.cS, _, _, _, rfl, hs3.st, T.clS, T.noS _ (by simp), rfl, _, rfl, _, _, _, _, rfl, rfl, s3.tq ht, rfl, L.dp, _, rfl, g1 ▸ DGet.k (k := .inr (nm q)) hd1, small_le (by show 3 ≤ 1000000; decide), fun l hl => ?_⟩
      · obtain ⟨es, he, _⟩ := hp3.pi
        exact ⟨es, SqL.of he⟩
      · obtain ⟨es, f1, f2, f3, f4, f5⟩ := push _ _ 0 l tb xb (y1.trans s3.stay) hp3 g2 g3 hl
        refine ⟨L.pi, es, _, rfl, rfl, f2, f3, k _ f4 ?_⟩
        show PlayAt _ _ _ _ _ ⟨i, j, n + 1, (e.B.getD q [], 0, 0) :: _⟩ _
        rw [List.getD_eq_getElem?_getD, List.getElem?_eq_getElem hq]
        exact f5
    | rep q cs =>
      have hv2 := hv1
      obtain ⟨p, y, z, u, rfl, ht, e1, e2, e3⟩ := tp_three hv2
      cases tp_str e1
      obtain ⟨pu, us, rfl, hu1, hu2⟩ := tp_tup e3
      refine ⟨_, rfl, _, _, _, _, rfl, rfl, ht, rfl, ?_⟩
      refine ⟨_, rfl, small_le (by show 3 ≤ 1000000; decide), fun t1 ht1 => ⟨t1, vS cut1, rfl, .inr (SqT.of upd_same), rfl, rfl, _, rfl, iteIn ?_⟩⟩
      have s2 := same_new (o := .tup (vS cut1)) ht1
      refine ⟨_, rfl, small_le (by show 4 ≤ 1000000; decide), fun t2 ht2 => ⟨t2, vS cut2, rfl, .inr (SqT.of upd_same), rfl, rfl, _, rfl, iteIn ?_⟩⟩
      have s3 := s2.trans (same_new (o := .tup (vS cut2)) ht2)
      have hp3 := hp1.same s3
      have hs3 := hs1.stay hp1 s3.stay
      refine ⟨_, rfl, rfl, _, rfl, iteN ⟨_, rfl, rfl, _, rfl, iteN ⟨_, rfl, rfl, _, rfl, iteN ?_⟩⟩⟩
      refine ⟨_, rfl, _, _, _, _, rfl, rfl, s3.tq ht, rfl, _, rfl, L.s, a.cP, _, _, _, rfl, hp3.s, T.clP, T.noP _ (by simp), rfl, L.st, a.cS, _, _, _, rfl, hs3.st, T.clS, T.noS _ (by simp), rfl, _, q, e.n, rfl, e2.same s3, hok.1, hs3.len, fun H4 s4 => ?_⟩
      have s34 := s3.trans s4
      have hp4 := hp3.same s4
      refine ⟨_, rfl, _, _, rfl, rfl, _, rfl, ?_⟩
      by_cases hpv : 0 < pval q e.n
      · rw [decide_eq_true (by omega)]
        refine iteT ⟨_, rfl, L.s, a.cP, _, _, _, rfl, hp4.s, T.clP, T.noP _ (by simp), rfl, .inl ⟨rfl, ?_⟩, _, rfl, _, _, _, _, rfl, rfl, s34.tq ht, rfl, _, rfl, small_le (by show 3 ≤ 1000000; decide), fun l hl => ?_⟩
        · obtain ⟨es, he, _⟩ := hp4.pi
          exact ⟨es, SqL.of he⟩
        · obtain ⟨es, f1, f2, f3, f4, f5⟩ := push _ _ (pval q e.n) l pu us (y1.trans s34.stay) hp4 (s34.tq hu1) (hu2.same s34) hl
          refine ⟨L.pi, es, _, rfl, rfl, f2, f3, k _ f4 ?_⟩
          show PlayAt _ _ _ _ _ (if 0 < pval q e.n then _ else _) _
          rw [if_pos hpv]
          exact f5
      · rw [decide_eq_false (by omega)]
        refine iteF (k _ (y1.trans s34.stay) ?_)
        show PlayAt _ _ _ _ _ (if 0 < pval q e.n then _ else _) _
        rw [if_neg hpv]
        exact hp4
    | ifat cs ds =>
      have hv2 := hv1
      obtain ⟨p, ps, rfl, ht, r⟩ := tp_tup hv2
      obtain ⟨x1, r1, rfl, e1, r⟩ := tpa_cons r
      obtain ⟨x2, r2, rfl, e2, r⟩ := tpa_cons r
      obtain ⟨x3, r3, rfl, e3, r⟩ := tpa_cons r
      obtain ⟨x4, r4, rfl, e4, r⟩ := tpa_cons r
      cases tpa_nil r
      cases tp_str e1
      obtain ⟨pu, us, rfl, hu1, hu2⟩ := tp_tup e3
      obtain ⟨pz, zs, rfl, hz1, hz2⟩ := tp_tup e4
      refine ⟨_, rfl, _, _, _, _, rfl, rfl, ht, rfl, ?_⟩
      refine ⟨_, rfl, small_le (by show 3 ≤ 1000000; decide), fun t1 ht1 => ⟨t1, vS cut1, rfl, .inr (SqT.of upd_same), rfl, rfl, _, rfl, iteIn ?_⟩⟩
      have s2 := same_new (o := .tup (vS cut1)) ht1
      refine ⟨_, rfl, small_le (by show 4 ≤ 1000000; decide), fun t2 ht2 => ⟨t2, vS cut2, rfl, .inr (SqT.of upd_same), rfl, rfl, _, rfl, iteIn ?_⟩⟩
      have s3 := s2.trans (same_new (o := .tup (vS cut2)) ht2)
      have hp3 := hp1.same s3
      refine ⟨_, rfl, rfl, _, rfl, iteY ?_⟩
      refine ⟨_, rfl, _, rfl, _, _, _, _, rfl, rfl, s3.tq ht, rfl, nm, L, _, ch, _, rfl, hp3, e2.same s3, _, rfl, ?_⟩
      by_cases hij : i = j
      · show if decide (i = j) = true then _ else _
        rw [decide_eq_true hij]
        refine iteT ⟨_, rfl, _, _, _, _, rfl, rfl, s3.tq ht, rfl, ?_⟩
        refine ⟨_, rfl, L.s, a.cP, _, _, _, rfl, hp3.s, T.clP, T.noP _ (by simp), rfl, .inl ⟨rfl, ?_⟩, _, rfl, small_le (by show 3 ≤ 1000000; decide), fun l hl => ?_⟩
        · obtain ⟨es, he, _⟩ := hp3.pi
          exact ⟨es, SqL.of he⟩
        · obtain ⟨es, f1, f2, f3, f4, f5⟩ := push _ _ 0 l pu us (y1.trans s3.stay) hp3 (s3.tq hu1) (hu2.same s3) hl
          refine ⟨L.pi, es, _, rfl, rfl, f2, f3, k _ f4 ?_⟩
          show PlayAt _ _ _ _ _ ⟨i, j, n + 1, (if i = j then cs else ds, 0, 0) :: _⟩ _
          rw [if_pos hij]
          exact f5
      · show if decide (i = j) = true then _ else _
        rw [decide_eq_false hij]
        refine iteF ⟨_, rfl, _, _, _, _, rfl, rfl, s3.tq ht, rfl, ?_⟩
        refine ⟨_, rfl, L.s, a.cP, _, _, _, rfl, hp3.s, T.clP, T.noP _ (by simp), rfl, .inl ⟨rfl, ?_⟩, _, rfl, small_le (by show 3 ≤ 1000000; decide), fun l hl => ?_⟩
        · obtain ⟨es, he, _⟩ := hp3.pi
          exact ⟨es, SqL.of he⟩
        · obtain ⟨es, f1, f2, f3, f4, f5⟩ := push _ _ 0 l pz zs (y1.trans s3.stay) hp3 (s3.tq hz1) (hz2.same s3) hl
          refine ⟨L.pi, es, _, rfl, rfl, f2, f3, k _ f4 ?_⟩
          show PlayAt _ _ _ _ _ ⟨i, j, n + 1, (if i = j then cs else ds, 0, 0) :: _⟩ _
          rw [if_neg hij]
          exact f5
/-- the next command, as the plain law tells it -/
def spNext (K : PySem.W.Frag) (cP : Addr) : Sp := fun vs H Q _ => ∃ nm L i j n P ch m o P' n', vs = [.ref L.s] ∧ PlayAt K cP nm L H ⟨i, j, n, P⟩ ch ∧ Nx m P n o P' n' ∧ P.length ≤ 100000 ∧ (∀ x ∈ P, x.1.length ≤ 100000) ∧
  ∀ H' v, Stay L H H' → PlayAt K cP nm L H' ⟨i, j, n', P'⟩ ch → (match o with | none => v = .non | some c => Tp K H' v (enc nm c)) → Q v H'
theorem fk_next_command (T : Txt K mg w a) : Fk P w K mg base "next_command" 1 ["state"] (spNext K a.cP) := by
  refine (show Df K mg "next_command" (top 67) from T.fn 36 _ rfl).fk sc_next_command (fun vs H Q E h => ?_) (fun _ _ _ _ _ _ us hl => match us, hl with | [_], _ => rfl) fun f cdv A outer s H vs Q E hr h => ?_
  · obtain ⟨nm, L, i, j, n, pl, ch, m, o, P', n', rfl, _⟩ := h
    rfl
  · obtain ⟨nm, L, i, j, n, pl, ch, m, o, P', n', rfl, hp, hx, hl, hcs, k⟩ := h
    have hu := hu_of hr
    refine ⟨_, (pss_cons (ps_while PassesOwn.never (pt_cmpR (neE K rfl hu) (pe_fld (pv 0) rfl) (pe_lst pa_nil) (nomark _)) (pss_cons (ps_asg (pe_ix (ixL K rfl) (pe_fld (pv 0) rfl) (pe_un un_neg pe_int) (fun _ _ => rfl)) (pg_unl rfl (pgs_cons (pg_name (i := 1) nd_next_command rfl (by first | exact Or.inl rfl | exact Or.inr rfl)) (pgs_cons (pg_name (i := 2) nd_next_command rfl (by first | exact Or.inl rfl | exact Or.inr rfl)) (pgs_cons (pg_name (i := 3) nd_next_command rfl (by first | exact Or.inl rfl | exact Or.inr rfl)) pgs_nil)))))
      (pss_cons (ps_if (pt_cmpR op_lt (pv 2) (pe_callB (lenS K rfl) (by rfl) T.len (by decide +kernel) (pa_cons (pv 1) pa_nil)) (nomark _)) (pss_one (ps_ret (pe_ix (ixT K rfl) (pv 1) (pv 2) (fun _ _ => rfl)))) pss_nil)
      (pss_cons (ps_if (pt_cmpR op_gt (pv 3) pe_int (nomark _)) (pss_one (ps_fldaug (pv 0) pe_int in_add)) pss_nil)
      (pss_one (ps_if (pt_cmpR op_gt (pv 3) pe_int (nomark _)) (pss_one (ps_asg (pe_lst (pa_cons (pv 1) (pa_cons pe_int (pa_cons (pe_op op_sub (pv 3) pe_int) pa_nil)))) (pg_sub (pe_fld (pv 0) rfl) (pe_un un_neg pe_int) set_list))) (pss_one (ps_expr (pe_bm0 PySem.F.plainAttrs_list PySem.F.slot_list_pop PySem.F.type_list_pop mt_pop (pe_fld (pv 0) rfl))))))))))
      (pss_one (ps_ret pe_non))), ?_⟩
    refine ⟨fun m σ H' => ∃ z1 z2 z3 n1 P1, σ = [some (.ref L.s), z1, z2, z3] ∧ Stay L H H' ∧ PlayAt K a.cP nm L H' ⟨i, j, n1, P1⟩ ch ∧ Nx m P1 n1 o P' n' ∧ P1.length ≤ 100000 ∧ ∀ x ∈ P1, x.1.length ≤ 100000, ⟨m, none, none, none, n, pl, rfl, Stay.refl, hp, hx, hl, hcs⟩, ?_⟩
    rintro m1 σ H1 ⟨z1, z2, z3, n1, P1, rfl, y1, hp1, hx1, hl1, hcs1⟩
    obtain ⟨es, hpi, hes⟩ := hp1.pi
    refine ⟨_, rfl, L.s, a.cP, _, _, _, rfl, hp1.s, T.clP, T.noP _ (by simp), rfl, Nat.zero_le _, fun t ht => ?_⟩
    have s1 := same_new (o := .lst []) ht
    refine ⟨L.pi, t, es, rfl, rfl, .inl ⟨SqL.of (s1 _ _ hpi), SqL.of upd_same⟩, _, rfl, ?_⟩
    have hp2 := hp1.same s1
    have y2 := y1.trans s1.stay
    have hpi2 := s1 _ _ hpi
    have hes2 := hes.stay hp1 s1.stay
    generalize (upd H1 t (.lst [])) = H2 at hp2 y2 hpi2 hes2 ⊢
    cases hx1 with
    | nil =>
      cases hes
      exact iteF (k H2 .non y2 hp2 rfl)
    | here h =>
      rename_i cs kk rr P c
      cases hes2 with
      | snoc hxe hr2 =>
      rename_i ve es'
      obtain ⟨b, tt, xs, rfl, nb, hb, htt, hxs⟩ := hxe
      have hlen := hxs.len
      rw [encs_map, List.length_map] at hlen
      have hlc := hcs1 _ (List.mem_cons_self ..)
      have ne : (!(es' ++ [V.ref b]).isEmpty) = true := by cases es' <;> rfl
      show if (!(es' ++ [V.ref b]).isEmpty) = true then _ else _
      rw [ne]
      refine iteT ⟨fun _ _ => False, fun _ _ q => q.elim, ?_⟩
      refine ⟨_, rfl, L.s, a.cP, _, _, _, rfl, hp2.s, T.clP, T.noP _ (by simp), rfl, _, rfl, L.pi, _, _, _, rfl, rfl, SqL.of hpi2, atI_last _ _, b, _, rfl, SqL.of hb, rfl, _, _, rfl, _, _, rfl, _, _, rfl, rfl, ?_⟩
      refine ⟨_, rfl, _, rfl, _, _, rfl, .inr htt, _, _, rfl, rfl, _, rfl, ?_⟩
      have hlen' : xs.length = cs.length := hlen
      have hkl : kk < xs.length := by
        have := (List.getElem?_eq_some_iff.mp h).1
        omega
      rw [decide_eq_true (show (kk : Int) < (xs.length : Int) by omega)]
      obtain ⟨cv, hcv, hct⟩ := hxs.get (i := kk) (d := enc nm c) (by rw [encs_map, List.getElem?_map, h]; rfl)
      exact iteT ⟨_, rfl, _, rfl, _, _, _, _, rfl, rfl, htt, atI_nat hcv, k H2 cv y2 hp2 hct⟩
    | round h x =>
      rename_i m2 cs kk rr P
      cases hes2 with
      | snoc hxe hr2 =>
      rename_i ve es'
      obtain ⟨b, tt, xs, rfl, nb, hb, htt, hxs⟩ := hxe
      have hlen := hxs.len
      rw [encs_map, List.length_map] at hlen
      have hlc := hcs1 _ (List.mem_cons_self ..)
      have ne : (!(es' ++ [V.ref b]).isEmpty) = true := by cases es' <;> rfl
      show if (!(es' ++ [V.ref b]).isEmpty) = true then _ else _
      rw [ne]
      refine iteT ⟨(fun σ' H'' => ∃ m', m' < m2 + 1 ∧ ∃ z1 z2 z3 n1 P1, σ' = [some (.ref L.s), z1, z2, z3] ∧ Stay L H H'' ∧ PlayAt K a.cP nm L H'' ⟨i, j, n1, P1⟩ ch ∧ Nx m' P1 n1 o P' n' ∧ P1.length ≤ 100000 ∧ ∀ x ∈ P1, x.1.length ≤ 100000), fun σ' H'' q => q, ?_⟩
      refine ⟨_, rfl, L.s, a.cP, _, _, _, rfl, hp2.s, T.clP, T.noP _ (by simp), rfl, _, rfl, L.pi, _, _, _, rfl, rfl, SqL.of hpi2, atI_last _ _, b, _, rfl, SqL.of hb, rfl, _, _, rfl, _, _, rfl, _, _, rfl, rfl, ?_⟩
      refine ⟨_, rfl, _, rfl, _, _, rfl, .inr htt, _, _, rfl, rfl, _, rfl, ?_⟩
      have h' : cs.length ≤ kk := h
      have hlen' : xs.length = cs.length := hlen
      rw [decide_eq_false (show ¬ (kk : Int) < (xs.length : Int) by omega)]
      refine iteF ⟨_, rfl, _, _, rfl, rfl, _, rfl, ?_⟩
      rw [decide_eq_true (show (0 : Int) < ((rr + 2 : Nat) : Int) by omega)]
      refine iteT ?_
      refine ⟨_, rfl, L.s, a.cP, _, _, _, rfl, hp2.s, T.clP, T.noP _ (by simp), rfl, _, _, rfl, rfl, L.sdx, _, hp2.s, (by show 6 < 1000; decide), ?_⟩
      have y3 := y2.s (o := .ins a.cP L.sdx (sFlds L (n1 + 1) ch))
      have hp3 := hp2.setS (n1 + 1) ch
      have hb3 : (upd H2 L.s (.ins a.cP L.sdx (sFlds L (n1 + 1) ch))) b = some (.lst [.ref tt, .int (kk : Nat), .int ((rr + 2 : Nat))]) := by
        rw [upd_ne (by rintro rfl; rw [hp2.s] at hb; cases hb)]
        exact hb
      have kk2 : Kept H2 (upd H2 L.s (.ins a.cP L.sdx (sFlds L (n1 + 1) ch))) := hp2.kept Stay.refl.s
      have hpi3 : (upd H2 L.s (.ins a.cP L.sdx (sFlds L (n1 + 1) ch))) L.pi = some (.lst (es' ++ [.ref b])) := by
        rw [upd_ne (Ne.symm hp2.ne2)]
        exact hpi2
      have hr3 := Ents.stay hp2 (Stay.refl.s (o := .ins a.cP L.sdx (sFlds L (n1 + 1) ch))) hr2
      refine ⟨_, rfl, _, _, rfl, rfl, _, rfl, ?_⟩
      rw [decide_eq_true (show (1 : Int) < ((rr + 2 : Nat) : Int) by omega)]
      refine iteT ?_
      refine ⟨_, rfl, _, rfl, _, _, rfl, rfl, small_le (by show 3 ≤ 1000000; decide), fun l hl => ?_⟩
      have e1 : ((rr + 2 : Nat) : Int) - 1 = ((rr + 1 : Nat) : Int) := by omega
      have s4 := same_new (o := .lst [.ref tt, .int 0, .int (((rr + 2 : Nat) : Int) - 1)]) hl
      have hp4 := hp3.same s4
      refine ⟨_, rfl, L.s, a.cP, _, _, _, rfl, hp4.s, T.clP, T.noP _ (by simp), rfl, _, rfl, L.pi, _, _, _, rfl, rfl, s4 _ _ hpi3, ixN_last _ _, ?_⟩
      rw [set_last]
      have hp5 := hp4.setP (P := (cs, 0, rr + 1) :: P) (.snoc ⟨l, tt, xs, rfl, (by rintro rfl; exact absurd (Eq.trans (Eq.symm hpi3) hl) (fun e => nomatch e)), (by rw [upd_same, e1]; rfl), s4.tq (kk2.tq htt), (hxs.kept kk2).same s4⟩ (hr3.stay hp3 s4.stay))
      refine ⟨m2, Nat.lt_succ_self _, _, _, _, n1 + 1, (cs, 0, rr + 1) :: P, rfl, (y3.trans s4.stay).pi, hp5, x, hl1, fun x hx => ?_⟩
      rcases List.mem_cons.mp hx with rfl | hx
      · exact hlc
      · exact hcs1 _ (List.mem_cons_of_mem _ hx)
    | last h x =>
      rename_i m2 cs kk P
      cases hes2 with
      | snoc hxe hr2 =>
      rename_i ve es'
      obtain ⟨b, tt, xs, rfl, nb, hb, htt, hxs⟩ := hxe
      have hlen := hxs.len
      rw [encs_map, List.length_map] at hlen
      have hlc := hcs1 _ (List.mem_cons_self ..)
      have ne : (!(es' ++ [V.ref b]).isEmpty) = true := by cases es' <;> rfl
      show if (!(es' ++ [V.ref b]).isEmpty) = true then _ else _
      rw [ne]
      refine iteT ⟨(fun σ' H'' => ∃ m', m' < m2 + 1 ∧ ∃ z1 z2 z3 n1 P1, σ' = [some (.ref L.s), z1, z2, z3] ∧ Stay L H H'' ∧ PlayAt K a.cP nm L H'' ⟨i, j, n1, P1⟩ ch ∧ Nx m' P1 n1 o P' n' ∧ P1.length ≤ 100000 ∧ ∀ x ∈ P1, x.1.length ≤ 100000), fun σ' H'' q => q, ?_⟩
      refine ⟨_, rfl, L.s, a.cP, _, _, _, rfl, hp2.s, T.clP, T.noP _ (by simp), rfl, _, rfl, L.pi, _, _, _, rfl, rfl, SqL.of hpi2, atI_last _ _, b, _, rfl, SqL.of hb, rfl, _, _, rfl, _, _, rfl, _, _, rfl, rfl, ?_⟩
      refine ⟨_, rfl, _, rfl, _, _, rfl, .inr htt, _, _, rfl, rfl, _, rfl, ?_⟩
      have h' : cs.length ≤ kk := h
      have hlen' : xs.length = cs.length := hlen
      rw [decide_eq_false (show ¬ (kk : Int) < (xs.length : Int) by omega)]
      refine iteF ⟨_, rfl, _, _, rfl, rfl, _, rfl, ?_⟩
      rw [decide_eq_true (show (0 : Int) < ((1 : Nat) : Int) by omega)]
      refine iteT ?_
      refine ⟨_, rfl, L.s, a.cP, _, _, _, rfl, hp2.s, T.clP, T.noP _ (by simp), rfl, _, _, rfl, rfl, L.sdx, _, hp2.s, (by show 6 < 1000; decide), ?_⟩
      have y3 := y2.s (o := .ins a.cP L.sdx (sFlds L (n1 + 1) ch))
      have hp3 := hp2.setS (n1 + 1) ch
      have hpi3 : (upd H2 L.s (.ins a.cP L.sdx (sFlds L (n1 + 1) ch))) L.pi = some (.lst (es' ++ [.ref b])) := by
        rw [upd_ne (Ne.symm hp2.ne2)]
        exact hpi2
      have hr3 := Ents.stay hp2 (Stay.refl.s (o := .ins a.cP L.sdx (sFlds L (n1 + 1) ch))) hr2
      refine ⟨_, rfl, _, _, rfl, rfl, _, rfl, ?_⟩
      rw [decide_eq_false (show ¬ (1 : Int) < ((1 : Nat) : Int) by omega)]
      refine iteF ?_
      refine ⟨_, rfl, L.s, a.cP, _, _, _, rfl, hp3.s, T.clP, T.noP _ (by simp), rfl, .inl ⟨rfl, _, SqL.of hpi3⟩, L.pi, _, .ref b, rfl, rfl, hpi3, by simp, ?_⟩
      rw [List.dropLast_concat]
      exact ⟨m2, Nat.lt_succ_self _, _, _, _, n1 + 1, P, rfl, y3.pi, hp3.setP hr3, x, by have : P.length + 1 ≤ 100000 := hl1; omega, fun x hx => hcs1 _ (List.mem_cons_of_mem _ hx)⟩
    | leave h x =>
      rename_i m2 cs kk P
      cases hes2 with
      | snoc hxe hr2 =>
      rename_i ve es'
      obtain ⟨b, tt, xs, rfl, nb, hb, htt, hxs⟩ := hxe
      have hlen := hxs.len
      rw [encs_map, List.length_map] at hlen
      have hlc := hcs1 _ (List.mem_cons_self ..)
      have ne : (!(es' ++ [V.ref b]).isEmpty) = true := by cases es' <;> rfl
      show if (!(es' ++ [V.ref b]).isEmpty) = true then _ else _
      rw [ne]
      refine iteT ⟨(fun σ' H'' => ∃ m', m' < m2 + 1 ∧ ∃ z1 z2 z3 n1 P1, σ' = [some (.ref L.s), z1, z2, z3] ∧ Stay L H H'' ∧ PlayAt K a.cP nm L H'' ⟨i, j, n1, P1⟩ ch ∧ Nx m' P1 n1 o P' n' ∧ P1.length ≤ 100000 ∧ ∀ x ∈ P1, x.1.length ≤ 100000), fun σ' H'' q => q, ?_⟩
      refine ⟨_, rfl, L.s, a.cP, _, _, _, rfl, hp2.s, T.clP, T.noP _ (by simp), rfl, _, rfl, L.pi, _, _, _, rfl, rfl, SqL.of hpi2, atI_last _ _, b, _, rfl, SqL.of hb, rfl, _, _, rfl, _, _, rfl, _, _, rfl, rfl, ?_⟩
      refine ⟨_, rfl, _, rfl, _, _, rfl, .inr htt, _, _, rfl, rfl, _, rfl, ?_⟩
      have h' : cs.length ≤ kk := h
      have hlen' : xs.length = cs.length := hlen
      rw [decide_eq_false (show ¬ (kk : Int) < (xs.length : Int) by omega)]
      refine iteF ⟨_, rfl, _, _, rfl, rfl, _, rfl, ?_⟩
      rw [decide_eq_false (show ¬ (0 : Int) < ((0 : Nat) : Int) by omega)]
      refine iteF ?_
      refine ⟨_, rfl, _, _, rfl, rfl, _, rfl, ?_⟩
      rw [decide_eq_false (show ¬ (1 : Int) < ((0 : Nat) : Int) by omega)]
      refine iteF ?_
      refine ⟨_, rfl, L.s, a.cP, _, _, _, rfl, hp2.s, T.clP, T.noP _ (by simp), rfl, .inl ⟨rfl, _, SqL.of hpi2⟩, L.pi, _, .ref b, rfl, rfl, hpi2, by simp, ?_⟩
      rw [List.dropLast_concat]
      exact ⟨m2, Nat.lt_succ_self _, _, _, _, n1, P, rfl, y2.pi, hp2.setP hr2, x, by have : P.length + 1 ≤ 100000 := hl1; omega, fun x hx => hcs1 _ (List.mem_cons_of_mem _ hx)⟩
/-- steps do not fall, and the pile stays small -/
theorem nx_le {m : Nat} {P : List Ent} {n : Nat} {o : Option Cmd} {P' : List Ent} {n' : Nat} (h : Nx m P n o P' n') : n ≤ n' ∧ P'.length ≤ P.length ∧ (∀ x ∈ P', ∃ y ∈ P, x.1 = y.1) ∧ (o = none → P' = []) ∧ (∀ c, o = some c → ∃ cs k r R, P' = (cs, k, r) :: R ∧ cs[k]? = some c) := by
  induction h with
  | nil => exact ⟨Nat.le_refl _, Nat.le_refl _, fun x hx => ⟨x, hx, rfl⟩, fun _ => rfl, fun c e => by cases e⟩
  | here h => exact ⟨Nat.le_refl _, Nat.le_refl _, fun x hx => ⟨x, hx, rfl⟩, fun e => (by cases e), fun c e => by cases e; exact ⟨_, _, _, _, rfl, h⟩⟩
  | round h x ih =>
    refine ⟨by omega, ih.2.1, fun x hx => ?_, ih.2.2.2⟩
    obtain ⟨y, hy, e⟩ := ih.2.2.1 x hx
    rcases List.mem_cons.mp hy with rfl | hy
    · exact ⟨_, List.mem_cons_self .., e⟩
    · exact ⟨y, List.mem_cons_of_mem _ hy, e⟩
  | last h x ih =>
    refine ⟨by omega, by rw [List.length_cons]; omega, fun x hx => ?_, ih.2.2.2⟩
    obtain ⟨y, hy, e⟩ := ih.2.2.1 x hx
    exact ⟨y, List.mem_cons_of_mem _ hy, e⟩
  | leave h x ih =>
    refine ⟨by omega, by rw [List.length_cons]; omega, fun x hx => ?_, ih.2.2.2⟩
    obtain ⟨y, hy, e⟩ := ih.2.2.1 x hx
    exact ⟨y, List.mem_cons_of_mem _ hy, e⟩
theorem after_st (e : Stg) (c : Cmd) (i j s : Nat) (P : List Ent) : (after e c i j s P).st = s + 1 := by
  cases c <;> simp only [after] <;> first | rfl | (split <;> rfl)
theorem pl_le {e : Stg} {l : Nat} {c : Cf} {b : Bool} {f : Cf} (h : Pl e l c b f) : c.st ≤ f.st := by
  induction h with
  | done h => exact (nx_le h).1
  | win h =>
    rw [after_st]
    exact Nat.le_succ_of_le (nx_le h).1
  | step h _ _ _ ih =>
    rw [after_st] at ih
    exact Nat.le_trans (nx_le h).1 (Nat.le_of_succ_le ih)
def Good (nm : Nat → Str) (cs : List Cmd) : Prop := ∃ b, okCs nm b cs ∧ cszs cs ≤ 1000
theorem pass_good {nm : Nat → Str} {P : List Ent} (h : ∀ x ∈ P, Good nm x.1) : ∀ x ∈ pass P, Good nm x.1 := by
  cases P with
  | nil => exact h
  | cons y P =>
    intro x hx
    rcases List.mem_cons.mp hx with rfl | hx
    · exact h y (List.mem_cons_self ..)
    · exact h x (List.mem_cons_of_mem _ hx)
theorem pass_len (P : List Ent) : (pass P).length = P.length := by cases P <;> rfl
theorem after_ok {nm : Nat → Str} {e : Stg} {c : Cmd} {i j s : Nat} {P : List Ent} {b : Nat} (hc : okC nm b c) (hz : csz c ≤ 1000) (hoc : okc e c) (hB : ∀ (k : Nat) (cs : List Cmd), e.B[k]? = some cs → Good nm cs) (h : ∀ x ∈ P, Good nm x.1) (hl : P.length ≤ s + 1) :
    (∀ x ∈ (after e c i j s P).pile, Good nm x.1) ∧ (after e c i j s P).pile.length ≤ s + 2 := by
  have hg := pass_good h
  have hlp := pass_len P
  have push : ∀ (y : Ent), Good nm y.1 → (∀ x ∈ y :: pass P, Good nm x.1) ∧ (y :: pass P).length ≤ s + 2 := fun y hy => by
    refine ⟨fun x hx => ?_, by rw [List.length_cons]; omega⟩
    rcases List.mem_cons.mp hx with rfl | hx
    · exact hy
    · exact hg x hx
  cases c with
  | up x => cases x <;> exact ⟨hg, by show (pass P).length ≤ _; omega⟩
  | zero x => cases x <;> exact ⟨hg, by show (pass P).length ≤ _; omega⟩
  | win => exact ⟨hg, by show (pass P).length ≤ _; omega⟩
  | call k =>
    have hk := hoc k rfl
    refine push (e.B.getD k [], 0, 0) ?_
    rw [List.getD_eq_getElem?_getD, List.getElem?_eq_getElem hk]
    exact hB k _ (List.getElem?_eq_getElem hk)
  | rep p cs =>
    have hz' : 1 + cszs cs ≤ 1000 := by rw [csz] at hz; exact hz
    simp only [after]
    split
    · exact push (cs, 0, _) ⟨b, hc.2, by show cszs cs ≤ 1000; omega⟩
    · exact ⟨hg, by show (pass P).length ≤ _; omega⟩
  | ifat cs ds =>
    have hz' : 1 + cszs cs + cszs ds ≤ 1000 := by rw [csz] at hz; exact hz
    refine push (if i = j then cs else ds, 0, 0) ?_
    show Good nm (if i = j then cs else ds)
    split
    · exact ⟨b, hc.1, by omega⟩
    · exact ⟨b, hc.2, by omega⟩
def who (b : Bool) : V := .str (if b then "one" else "two")
def spChoice (K : PySem.W.Frag) (cS cP : Addr) : Sp := fun vs H Q _ => ∃ nm L e c F l, ∃ b : Bool, vs = [.ref L.s] ∧ PlayAt K cP nm L H c .non ∧ StageAt K cS nm L e H ∧ Pl e l c b F ∧ F.st ≤ 2000 ∧ c.pile.length ≤ c.st + 1 ∧ (∀ x ∈ c.pile, Good nm x.1) ∧ (∀ (k : Nat) (cs : List Cmd), e.B[k]? = some cs → Good nm cs) ∧
  ∀ H', Stay L H H' → PlayAt K cP nm L H' F (who b) → Q .non H'
theorem fk_next_choice (T : Txt K mg w a) : Fk P w K mg base "next_choice" 4 ["state"] (spChoice K a.cS a.cP) := by
  have F_next_command := fk_next_command (P := P) (base := base) T
  have F_do_command := fk_do_command (P := P) (base := base) T
  refine (show Df K mg "next_choice" (top 68) from T.fn 37 _ rfl).fk sc_next_choice (fun vs H Q E h => ?_) (fun _ _ _ _ _ _ us hl => match us, hl with | [_], _ => rfl) fun f cdv A outer s H vs Q E hr h => ?_
  · obtain ⟨nm, L, e, c, F, l, b, rfl, _⟩ := h
    rfl
  · obtain ⟨nm, L, e, c, F, l, b, rfl, hp, hs, hpl, hF, hl, hg, hB, k⟩ := h
    refine ⟨_, (pss_cons (ps_while PassesOwn.never (pt_cmpR op_isN (pe_fld (pv 0) rfl) pe_non (nomark _)) (pss_cons (ps_set (i := 1) nd_next_choice rfl (by first | exact Or.inl rfl | exact Or.inr rfl) (pe_f (F_next_command) (hr.mono (by decide)) rfl (pa_cons (pv 0) pa_nil)))
      (pss_one (ps_if (pt_cmpR op_isN (pv 1) pe_non (nomark _)) (pss_one (ps_fld (pv 0) pe_str rfl)) (pss_one (ps_if (pt_cmpR op_eq (pe_ix (ixT K rfl) (pv 1) pe_int (fun _ _ => rfl)) pe_str (nomark _)) pss_never (pss_one (ps_expr (pe_f (F_do_command) (hr.mono (by decide)) rfl (pa_cons (pv 0) (pa_cons (pv 1) pa_nil)))))))))))
      (pss_one (ps_ret pe_non))), ?_⟩
    refine ⟨fun m σ H' => ∃ z, σ = [some (.ref L.s), z] ∧ Stay L H H' ∧ ((m = 0 ∧ PlayAt K a.cP nm L H' F (who b)) ∨ ∃ l c, m = l + 1 ∧ PlayAt K a.cP nm L H' c .non ∧ StageAt K a.cS nm L e H' ∧ Pl e l c b F ∧ c.pile.length ≤ c.st + 1 ∧ ∀ x ∈ c.pile, Good nm x.1), ⟨l + 1, none, rfl, Stay.refl, .inr ⟨l, c, rfl, hp, hs, hpl, hl, hg⟩⟩, ?_⟩
    rintro m σ H1 ⟨z, rfl, y1, ⟨rfl, hp1⟩ | ⟨l, c, rfl, hp1, hs1, hpl1, hl1, hg1⟩⟩
    · refine ⟨_, rfl, L.s, a.cP, _, _, _, rfl, hp1.s, T.clP, T.noP _ (by simp), rfl, rfl, _, rfl, ?_⟩
      exact iteF (k H1 y1 hp1)
    · refine ⟨_, rfl, L.s, a.cP, _, _, _, rfl, hp1.s, T.clP, T.noP _ (by simp), rfl, rfl, _, rfl, ?_⟩
      refine iteT ⟨fun σ' H'' => ∃ m', m' < l + 1 ∧ ∃ z, σ' = [some (.ref L.s), z] ∧ Stay L H H'' ∧ ((m' = 0 ∧ PlayAt K a.cP nm L H'' F (who b)) ∨ ∃ l c, m' = l + 1 ∧ PlayAt K a.cP nm L H'' c .non ∧ StageAt K a.cS nm L e H'' ∧ Pl e l c b F ∧ c.pile.length ≤ c.st + 1 ∧ ∀ x ∈ c.pile, Good nm x.1), fun σ' H'' q => q, ?_⟩
      have hle := pl_le hpl1
      have hcs : ∀ x ∈ c.pile, x.1.length ≤ 100000 := fun x hx => by
        obtain ⟨b', _, h⟩ := hg1 x hx
        have := len_cszs x.1
        omega
      cases hpl1 with
      | done h =>
        rename_i m0 i j s0 P0 P1 s1
        refine ⟨_, rfl, nm, L, i, j, s0, P0, .non, m0, none, P1, s1, rfl, hp1, h, by have : P0.length ≤ s0 + 1 := hl1; have : s0 ≤ _ := hle; omega, hcs, fun H2 v y2 hp2 hv => ?_⟩
        cases hv
        refine ⟨_, rfl, rfl, _, rfl, iteT ?_⟩
        refine ⟨_, rfl, L.s, a.cP, _, _, rfl, hp2.s, T.clP, T.noP _ (by simp), (by show 6 < 1000; decide), ?_⟩
        exact ⟨0, Nat.succ_pos _, _, rfl, (y1.trans y2).s, .inl ⟨rfl, hp2.setS s1 (.str "two")⟩⟩
      | win h =>
        rename_i m0 i j s0 P0 P1 s1
        obtain ⟨n1, n2, n3, _, n5⟩ := nx_le h
        obtain ⟨cs, kk, rr, R, rfl, hget⟩ := n5 .win rfl
        refine ⟨_, rfl, nm, L, i, j, s0, P0, .non, m0, some .win, _, s1, rfl, hp1, h, by have : P0.length ≤ s0 + 1 := hl1; have : s0 ≤ _ := hle; omega, hcs, fun H2 v y2 hp2 hv => ?_⟩
        have hv' : Tp K H2 v (enc nm .win) := hv
        obtain ⟨p, x1, x2, rfl, ht, e1, e2⟩ := tp_two hv'
        cases tp_str e1
        refine ⟨_, rfl, rfl, _, rfl, iteF ?_⟩
        refine ⟨_, rfl, _, _, _, _, rfl, rfl, ht, rfl, rfl, _, rfl, iteN ?_⟩
        have hs2 := hs1.stay hp1 y2
        refine ⟨_, rfl, _, rfl, nm, L, e, i, j, s1, _, R, .non, _, .win, 0, rfl, hp2, hs2, hv', True.intro, (fun k e => nomatch e), ?_, fun H3 y3 hp3 => ?_⟩
        · have : P0.length ≤ s0 + 1 := hl1
          have h2 : s0 ≤ _ := hle
          rw [List.length_cons] at n2
          omega
        · exact ⟨0, Nat.succ_pos _, _, rfl, (y1.trans y2).trans y3, .inl ⟨rfl, hp3⟩⟩
      | step h nw ok x =>
        rename_i l' m0 i j s0 P0 P1 s1 cc
        obtain ⟨n1, n2, n3, _, n5⟩ := nx_le h
        obtain ⟨cs, kk, rr, R, rfl, hget⟩ := n5 cc rfl
        have hl0 : P0.length ≤ s0 + 1 := hl1
        have hle0 : s0 ≤ F.st := hle
        refine ⟨_, rfl, nm, L, i, j, s0, P0, .non, m0, some cc, _, s1, rfl, hp1, h, by omega, hcs, fun H2 v y2 hp2 hv => ?_⟩
        have hv' : Tp K H2 v (enc nm cc) := hv
        have hg2 : ∀ x ∈ ((cs, kk, rr) :: R), Good nm x.1 := fun x hx => by
          obtain ⟨y, hy, e⟩ := n3 x hx
          rw [e]
          exact hg1 y hy
        obtain ⟨b', hb1, hb2⟩ := hg2 _ (List.mem_cons_self ..)
        have hmem := List.mem_of_getElem? hget
        have hokc := okCs_mem hb1 hmem
        have hzc := cszs_mem hmem
        have hzc2 : cszs cs ≤ 1000 := hb2
        obtain ⟨cp, wd, xs, rfl, hcp, _, hwd, _⟩ := subs_at hv'
        have hnch : (wd == ("choose" : Str)) = false := by
          rcases hwd with ⟨_, hm⟩ | hm
          · simp only [List.mem_cons, List.not_mem_nil, or_false] at hm
            rcases hm with rfl | rfl | rfl | rfl <;> decide +kernel
          · simp only [List.mem_cons, List.not_mem_nil, or_false, Prod.mk.injEq] at hm
            rcases hm with ⟨rfl, _⟩ | ⟨rfl, _⟩ <;> decide +kernel
        refine ⟨_, rfl, rfl, _, rfl, iteF ?_⟩
        refine ⟨_, rfl, _, _, _, _, rfl, rfl, hcp, atI_zero _ _, rfl, _, rfl, iteN ?_ hnch⟩
        have hs2 := hs1.stay hp1 y2
        have hRl : R.length ≤ 100000 := by
          rw [List.length_cons] at n2
          omega
        refine ⟨_, rfl, _, rfl, nm, L, e, i, j, s1, _, R, .non, _, cc, b', rfl, hp2, hs2, hv', hokc, ok, hRl, fun H3 y3 hp3 => ?_⟩
        have hao := after_ok (i := i) (j := j) (s := s1) hokc (by omega) ok hB hg2 (by omega)
        have hch : champ cc .non = .non := by
          cases cc with
          | win => exact absurd rfl nw
          | _ => rfl
        rw [hch] at hp3
        refine ⟨l' + 1, by omega, _, rfl, (y1.trans y2).trans y3, .inr ⟨l', _, rfl, hp3, hs2.stay hp2 y3, x, ?_, hao.1⟩⟩
        rw [after_st]
        exact hao.2
end
end NPK
set_option Elab.async false
set_option linter.all false
set_option maxRecDepth 100000
set_option maxHeartbeats 2000000
namespace NPK
open PySem PySem.Spec PyProof.Rows L2 NP
/-! ### dict comprehensions -/
theorem sw_trueD {kx vx : Expr} {gs : List Comprehension} {scope : Scope} {pos py : Pos} {y : Str} {l : Nat} {env : Env} (hk : env.scope.kind = .function) (hy : env.scope.names.lookup y = some .local) (hl : (py.line == pos.line) = true)
    (ha : (scope.names.any fun (n, k) => n == y && (k == .local || k == .cell)) = false) : swapsWith (.DictComp kx vx gs scope pos) (some (.Name y py)) l env = pure true := by
  have ky : env.kindOf y = some .local := hy
  have hb : env.blockKind = .function := by unfold Env.blockKind; rw [hk]; rfl
  unfold swapsWith
  simp only [hb, ky, ha, Expr.pos, hl]
  rfl
/-- y = {.. for ..}, a line of its own -/
theorem ps_setDc {X : Cx} {i : Nat} {y : Str} {py : Pos} {kx vx tg iter : Expr} {ifs : List Expr} {scope : Scope} {own : List (Str × Nat)} {pos spos : Pos} {wi : TI} {g : TG} {tt : TT} {tk tv : TE} (hc : X.calm = true) (hN : X.N.Nodup) (hy : X.N[i]? = some y) (hyl : X.env.scope.names.lookup y = some .local)
    (hsw : swapsWith (.DictComp kx vx [⟨tg, iter, ifs, 0⟩] scope pos) (some (.Name y py)) spos.line X.env = pure true) (hi : PI X tg iter wi) (ok : BlkOk X.N X.env.scope scope own)
    (hg : ∀ (s : Shared) (H : Hp) (C : Addr) (cl : List (Str × Addr)) (fp : List Addr), PG (X.blk s H scope (compEnvC scope cl C X.env) fp) tg g) (ht : ∀ (s : Shared) (H : Hp) (C : Addr) (cl : List (Str × Addr)) (fp : List Addr), PTs (X.blk s H scope (compEnvC scope cl C X.env) fp) ifs tt)
    (hk : ∀ (s : Shared) (H : Hp) (C : Addr) (cl : List (Str × Addr)) (fp : List Addr), PE (X.blk s H scope (compEnvC scope cl C X.env) fp) kx tk)
    (he : ∀ (s : Shared) (H : Hp) (C : Addr) (cl : List (Str × Addr)) (fp : List Addr), PE (X.blk s H scope (compEnvC scope cl C X.env) fp) vx tv) (hs : ∀ x, foldedSetIterable iter X.env x = pure x := by intro _; rfl) :
    PS X (.Assign [.Name y py] (.DictComp kx vx [⟨tg, iter, ifs, 0⟩] scope pos) spos) (tAsg (tDc wi g tt tk tv (own.map (·.2))) (gName i)) := by
  refine ⟨fun pins s σ H D I h => ?_⟩
  rw [exec_Assign_Name_used _ _ _ _ hsw]
  refine wpAny_bind (wpAny_standAt (wpAny_bind ?_))
  show wpAny _ X.A (do let _ ← comprehension (.DictComp kx vx [⟨tg, iter, ifs, 0⟩] scope pos) scope X.env (firstIterPos [⟨tg, iter, ifs, 0⟩] pos) newDict false (eval iter X.env) (some (assign (.Name y py) X.env))) _ _ s
  have h : tDc wi g tt tk tv (own.map (·.2)) σ H (fun x H1 => gName i x σ H1 D.nx) := h
  refine wpAny_bind (thn (dc_core (Qf := fun _ s' => SP X pins D .next s') hc hN I hi ok hg ht hk he hs h fun L C s' m H' I' q hn f => ?_) fun _ s' hq => wpAny_pure (wpAny_pure hq))
  show wpAny _ _ (assign (.Name y py) X.env (.ref L)) _ _ _
  refine wpAny_assign_Name (store_ok2 (v := V.ref L) I' hN hy (.inl hyl) rfl (fun s2 I2 ⟨a, sb, ha⟩ => ?_) (.inr hyl))
  obtain ⟨f0, f1, f2, f3, f4, f5⟩ := f
  have haC : C ≠ a := by
    rcases ha with z | z
    · rw [z]; exact f1
    · exact fun e => f4 y a z e.symm
  refine ⟨m, hn.sameBut sb haC, fun h3 sb3 => ?_⟩
  exact ⟨_, H', I2.turned (t' := s2.toks) (fun b o hb e => (sb3.2 b hb).trans e) f0 f1 f3 f4 f5, q⟩
section
variable {J : It} {n : Nat} {G : Hp → Prop} {Y : Nat → Hp → V → Hp → Prop}
/-- over a walk: the i-th key is ks i, its value is told by R; the dict at D within -/
theorem dc_rel (wk : Walk J n G Y) {g : TG} {tk tv : TE} {vs : List Nat} {σ : L2.St} {H1 : Hp} {D : Addr} {Qd : Hp → Prop} (hD : H1 D = none) (hn : n < sizeLine) (ks : Nat → Key) (hks : ∀ i j, i < n → j < n → ks i = ks j → i = j) (R : Nat → V → Hp → Prop)
    (hR : ∀ i z H H', (∀ b o, b ≠ D → H b = some o → H' b = some o) → (∃ kvs, H D = some (.dK kvs)) → R i z H → R i z H') (hG : ∀ H, Same H1 H → G H)
    (hs : ∀ i x H H', i < n → Same H1 H → (∃ kvs, H D = some (.dK kvs)) → Y i H x H' → ∀ Kq : V → V → Hp → Prop, (∀ z H5, Same H H5 → R i z H5 → Kq (kV (ks i)) z H5) → g x (wipe σ vs) H' fun σ2 H2 => wipe σ2 vs = wipe σ vs ∧ tk σ2 H2 fun y H4 => tv σ2 H4 fun z H5 => Kq y z H5)
    (hd : ∀ H kvs, Same H1 H → H D = some (.dK kvs) → kvs.length = n → (∀ (i : Nat) (k : Key) (z : V), kvs[i]? = some (k, z) → k = ks i ∧ R i z H) → Qd H) :
    ∃ W : Nat → Nat → Hp → Prop, (∃ m, W 0 m (upd H1 D (.dK []))) ∧ ∀ i m H, W i m H →
      (J.stop i H ∧ Qd H) ∨ (J.go i H ∧ ∃ Nx : Hp → Prop, (∀ H', Nx H' → ∃ m', m' < m ∧ W (i + 1) m' H') ∧ ∀ x H', J.yld i H x H' → g x (wipe σ vs) H' fun σ2 H2 => wipe σ2 vs = wipe σ vs ∧ tYes σ2 H2 fun b H3 =>
        if b = true then tk σ2 H3 fun y H4 => tv σ2 H4 fun z H5 => ∃ kvs k, y = kV k ∧ H5 D = some (.dK kvs) ∧ kvs.length < sizeLine ∧ Nx (upd H5 D (.dK (putK kvs k z))) else Nx H3) := by
  let Pv : Nat → Hp → Prop := fun i H => Same H1 H ∧ ∃ kvs, H D = some (.dK kvs) ∧ kvs.length = i ∧ ∀ (j : Nat) (k : Key) (z : V), kvs[j]? = some (k, z) → k = ks j ∧ R j z H
  refine ⟨fun i m H => m = n - i ∧ i ≤ n ∧ Pv i H, ⟨n, by simp, Nat.zero_le _, same_new hD, [], upd_same, rfl, fun j k z e => by simp at e⟩, ?_⟩
  rintro i m H ⟨rfl, hi, s, kvs, hk, hl, hr⟩
  have q := hG H s
  by_cases hlt : i < n
  · refine .inr ⟨wk.goes i H hlt q, Pv (i + 1), fun H' p' => ⟨n - (i + 1), by omega, rfl, hlt, p'⟩, fun x H' y => ?_⟩
    simp only [tYes, ↓reduceIte]
    refine hs i x H H' hlt s ⟨_, hk⟩ (wk.yields i H x H' hlt q y) _ fun z H5 s5 r5 => ?_
    have hk5 := s5 _ _ hk
    have hnew : valV kvs (ks i) = none := by
      cases e : valV kvs (ks i) with
      | none => rfl
      | some u =>
        exfalso
        unfold valV at e
        cases e2 : kvs.find? (fun kv => decide (kv.1 = ks i)) with
        | none =>
          rw [e2] at e
          cases e
        | some kv =>
          have hm := List.mem_of_find?_eq_some e2
          have hp := List.find?_some e2
          obtain ⟨j, hj, ej⟩ := List.getElem_of_mem hm
          have h1 := (hr j kv.1 kv.2 (by rw [List.getElem?_eq_getElem hj, ej])).1
          have h2 : kv.1 = ks i := of_decide_eq_true hp
          have := hks j i (by omega) hlt (h1.symm.trans h2)
          omega
    refine ⟨kvs, ks i, rfl, hk5, by rw [hl]; exact Nat.lt_trans hlt hn, (s.trans s5).upd hD, kvs ++ [(ks i, z)], by rw [upd_same, putK_new _ hnew], by rw [List.length_append, hl]; rfl, fun j k z' e => ?_⟩
    have out : ∀ b o, b ≠ D → H5 b = some o → (upd H5 D (.dK (putK kvs (ks i) z))) b = some o := fun b o hb e => by
      rw [upd_ne hb]
      exact e
    by_cases hj : j < kvs.length
    · rw [List.getElem?_append_left hj] at e
      obtain ⟨h1, h2⟩ := hr j k z' e
      exact ⟨h1, hR j z' _ _ (fun b o hb e => out b o hb (s5 _ _ e)) ⟨_, hk⟩ h2⟩
    · have ej : j = kvs.length := by
        have := (List.getElem?_eq_some_iff.mp e).1
        rw [List.length_append] at this
        have h1 : [(ks i, z)].length = 1 := rfl
        omega
      subst ej
      rw [List.getElem?_append_right (Nat.le_refl _), Nat.sub_self] at e
      cases Option.some.inj e
      rw [hl]
      exact ⟨rfl, hR i z _ _ out ⟨_, hk5⟩ r5⟩
  · have e : i = n := by omega
    subst e
    exact .inl ⟨wk.stops H q, hd H kvs s hk hl hr⟩
end
theorem walk_enumM {z : Str} : Walk (ItM z) z.cps.size (fun _ => True) (YPair (fun i => some (.int (i : Nat))) (fun i => (z.cps[i]?).map fun c => .str ⟨#[c]⟩)) := by
  refine ⟨fun i H hi _ => hi, fun H _ => rfl, fun i H x H' hi _ y => ?_⟩
  obtain ⟨T, c, e1, e2, e3, e4⟩ := y
  exact ⟨T, _, _, e1, e2, e3, rfl, by show (z.cps[i]?).map _ = _; rw [e4]; rfl⟩
theorem valV_at {kvs : List (Key × V)} {i : Nat} {k : Key} {z : V} (h : kvs[i]? = some (k, z)) (hd : ∀ (j : Nat) (u : V), kvs[j]? = some (k, u) → j = i) : valV kvs k = some z := by
  unfold valV
  cases e2 : kvs.find? (fun kv => decide (kv.1 = k)) with
  | none =>
    have := List.find?_eq_none.mp e2 (k, z) (List.mem_of_getElem? h)
    simp at this
  | some kv =>
    have hm := List.mem_of_find?_eq_some e2
    have hp0 := List.find?_some e2
    have hp : kv.1 = k := of_decide_eq_true hp0
    obtain ⟨j, hj, ej⟩ := List.getElem_of_mem hm
    have e3 : kvs[j]? = some (k, kv.2) := by rw [List.getElem?_eq_getElem hj, ej, ← hp]
    have e4 := hd j kv.2 e3
    subst e4
    rw [h] at e3
    cases e3
    rfl
/-- all stays but what stands at a -/
def But (a : Addr) (H H' : Hp) : Prop := ∀ b o, b ≠ a → H b = some o → H' b = some o
theorem But.kept {a : Addr} {H H' : Hp} {C dx : Addr} {fs : List (Str × V)} (h : But a H H') (e : H a = some (.ins C dx fs)) : Kept H H' := by
  refine ⟨fun b xs h1 => h b _ ?_ h1, fun b o u h1 => h b _ ?_ h1⟩ <;> (rintro rfl; rw [e] at h1; cases h1)
theorem But.refl {a : Addr} {H : Hp} : But a H H := fun _ _ _ h => h
theorem But.set {a : Addr} {H H' : Hp} {o : HO} (h : But a H H') : But a H (upd H' a o) := fun b u n e => by
  rw [upd_ne n]
  exact h b u n e
theorem But.same {a : Addr} {H H1 H2 : Hp} (h : But a H H1) (s : Same H1 H2) : But a H H2 := fun b u n e => s b u (h b u n e)
theorem lock_same {H H' : Hp} {d : Addr} {u : HO} {od : Obj} (s : Same (upd H d (.frz od u)) H') (h : H d = some u) : Same H (upd H' d u) := fun b o e => by
  by_cases hb : b = d
  · subst hb
    rw [upd_same, ← h, e]
  · rw [upd_ne hb]
    exact s b o (by rw [upd_ne hb]; exact e)
/-! playwork: how a play begins -/
abbrev S_PlayStageinit : Stmt := inClass (top 56) 0
abbrev N_PlayStageinit : List Str := ["self", "program", "word", "tapes", "indexes", "procedures", "name", "size", "bound", "commands"]
theorem sc_PlayStageinit : FnScope N_PlayStageinit ["self", "program", "word"] (defScope S_PlayStageinit) := ⟨rfl, rfl, rfl, by decide +kernel, rfl, by decide +kernel, by decide +kernel⟩
theorem nd_PlayStageinit : N_PlayStageinit.Nodup := sc_PlayStageinit.nd
abbrev S_PlayStateinit : Stmt := inClass (top 57) 0
abbrev N_PlayStateinit : List Str := ["self", "stage", "held", "numbers", "pile", "steps"]
theorem sc_PlayStateinit : FnScope N_PlayStateinit ["self", "stage", "held", "numbers", "pile", "steps"] (defScope S_PlayStateinit) := ⟨rfl, rfl, rfl, by decide +kernel, rfl, by decide +kernel, by decide +kernel⟩
theorem nd_PlayStateinit : N_PlayStateinit.Nodup := sc_PlayStateinit.nd
abbrev S_begun_play : Stmt := top 58
abbrev N_begun_play : List Str := ["program", "word", "stage", "held", "pile", "name", "place", "letter"]
theorem sc_begun_play : FnScope N_begun_play ["program", "word"] (defScope S_begun_play) := ⟨rfl, rfl, rfl, by decide +kernel, rfl, by decide +kernel, by decide +kernel⟩
theorem nd_begun_play : N_begun_play.Nodup := sc_begun_play.nd
def szs (S : Scr) (n : Nat) : List (Key × V) := S.tapes.map (fun d => ((.inr d.1 : Key), V.int ((pval d.2 n : Nat) : Int))) ++ [(.inr "input", .int (n : Int))]
def BodAt (K : PySem.W.Frag) (S : Scr) (H : Hp) (dp : Addr) : Prop := ∃ kvs : List (Key × V), H dp = some (.dK kvs) ∧ ∀ (k : Nat) (cs : List Cmd), (S.P.map (·.2))[k]? = some cs → ∃ t xs, valV kvs (.inr (S.nm k)) = some (.ref t) ∧ SqT K H t xs ∧ TpAll K H xs (encs S.nm cs)
def spStage (K : PySem.W.Frag) (cS : Addr) : Sp := fun vs H Q _ => ∃ a dx v S, ∃ z : Str, vs = [.ref a, v, .str z] ∧ H a = some (.ins cS dx []) ∧ Tp K H v (encScr S) ∧ OkScr S ∧ z.cps.size ≤ 4 ∧
  ∀ H' ds db dp, But a H H' → H' a = some (.ins cS dx [("length", .int (z.cps.size : Nat)), ("sizes", .ref ds), ("bounds", .ref db), ("bodies", .ref dp)]) → H' ds = some (.dK (szs S z.cps.size)) → H' db = some (.dK (nums S.bi S.bj)) → BodAt K S H' dp → H ds = none → H db = none → H dp = none → Q .non H'
def spState (cP : Addr) : Sp := fun vs H Q _ => ∃ a dx x1 x2 x3 x4 x5, vs = [.ref a, x1, x2, x3, x4, x5] ∧ H a = some (.ins cP dx []) ∧
  (Q .non (upd (upd (upd (upd (upd (upd H a (.ins cP dx [("stage", x1)])) a (.ins cP dx [("stage", x1), ("held", x2)])) a (.ins cP dx [("stage", x1), ("held", x2), ("numbers", x3)])) a (.ins cP dx [("stage", x1), ("held", x2), ("numbers", x3), ("pile", x4)])) a (.ins cP dx [("stage", x1), ("held", x2), ("numbers", x3), ("pile", x4), ("steps", x5)])) a (.ins cP dx [("stage", x1), ("held", x2), ("numbers", x3), ("pile", x4), ("steps", x5), ("champion", .non)])))
section
variable {P : Program} {w : World} {K : PySem.W.Frag} {mg : Str → Option Value} {base : Heap} {a : Ads}
/-- a method that keeps its promise -/
theorem fk_method {N ps : List Str} {k : Nat} {sp : Sp} {x q : Str} {st : Stmt} {f : Addr} {fd : FuncData} (F : FunD K x q (defArgs st) (defBody st) (defScope st) [] [] f fd) (S : FnScope N ps (defScope st)) (len : ∀ vs H Q E, sp vs H Q E → vs.length = ps.length)
    (hb : ∀ (kV doc pm : Value) (an : Option Addr) (cdv ct : Value) (us : List Value), us.length = ps.length → bindArgs (PySem.W.fnOf x q (defArgs st) (defBody st) (defScope st) .none kV doc pm an cdv ct) ⟨us, []⟩ = pure (ps.zip us))
    (hbody : ∀ (f : Addr) (cdv : Value) (A : Around) (outer : List Env) (s : Shared) (H : Hp) (vs : List V) (Q : VK) (E : XK), Room k (A.deeper (envOfC q (defScope st) s.heap.objs.size f cdv)) → sp vs H Q E →
      ∃ t, PSs (cxOf CX0 P w K mg base N q (defScope st) f cdv A outer s H E).nox (defBody st) t ∧ t { nx := fun _ H' => Q .non H', rt := Q } (start N vs) H) : FnOk P w K mg base CX0 (k + 1) f fd ps sp ∧ Binds K fd ps [] := by
  refine ⟨F.ok S len fun cdv A outer s H vs Q E hr h => ?_, F.bindsN hb⟩
  obtain ⟨t, h1, h2⟩ := hbody f cdv A outer s H vs Q E hr h
  exact ⟨t, h1.nox, h2⟩
theorem fk_state (T : Txt K mg w a) : ∃ fd, FnOk P w K mg base CX0 1 a.iP fd ["self", "stage", "held", "numbers", "pile", "steps"] (spState a.cP) ∧ Binds K fd ["self", "stage", "held", "numbers", "pile", "steps"] [] := by
  obtain ⟨fd, F⟩ := T.fnP
  refine ⟨fd, fk_method F sc_PlayStateinit (fun vs H Q E h => ?_) (fun _ _ _ _ _ _ us hl => match us, hl with | [_, _, _, _, _, _], _ => rfl) fun f cdv A outer s H vs Q E hr h => ?_⟩
  · obtain ⟨b, dx, x1, x2, x3, x4, x5, rfl, _⟩ := h
    rfl
  · obtain ⟨b, dx, x1, x2, x3, x4, x5, rfl, hb, k⟩ := h
    refine ⟨_, (pss_cons (ps_fld (pv 0) (pv 1) rfl)
      (pss_cons (ps_fld (pv 0) (pv 2) rfl)
      (pss_cons (ps_fld (pv 0) (pv 3) rfl)
      (pss_cons (ps_fld (pv 0) (pv 4) rfl)
      (pss_cons (ps_fld (pv 0) (pv 5) rfl)
      (pss_one (ps_fld (pv 0) pe_non rfl))))))), ?_⟩
    refine ⟨_, rfl, _, rfl, b, a.cP, dx, _, rfl, hb, T.clP, T.noP _ (by simp), (by show 0 < 1000; decide), ?_⟩
    refine ⟨_, rfl, _, rfl, b, a.cP, dx, _, rfl, upd_same, T.clP, T.noP _ (by simp), (by show 1 < 1000; decide), ?_⟩
    refine ⟨_, rfl, _, rfl, b, a.cP, dx, _, rfl, upd_same, T.clP, T.noP _ (by simp), (by show 2 < 1000; decide), ?_⟩
    refine ⟨_, rfl, _, rfl, b, a.cP, dx, _, rfl, upd_same, T.clP, T.noP _ (by simp), (by show 3 < 1000; decide), ?_⟩
    refine ⟨_, rfl, _, rfl, b, a.cP, dx, _, rfl, upd_same, T.clP, T.noP _ (by simp), (by show 4 < 1000; decide), ?_⟩
    refine ⟨_, rfl, b, a.cP, dx, _, rfl, upd_same, T.clP, T.noP _ (by simp), (by show 5 < 1000; decide), ?_⟩
    exact k
theorem nodup_map {α : Type} {L : List α} {g : α → Str} (h : (L.map g).Nodup) {i j : Nat} {x y : α} (e1 : L[i]? = some x) (e2 : L[j]? = some y) (e : g x = g y) : i = j := by
  have h1 : (L.map g)[i]? = some (g x) := by rw [List.getElem?_map, e1]; rfl
  have h2 : (L.map g)[j]? = some (g x) := by rw [List.getElem?_map, e2, e]; rfl
  obtain ⟨hi, ei⟩ := List.getElem?_eq_some_iff.mp h1
  obtain ⟨hj, ej⟩ := List.getElem?_eq_some_iff.mp h2
  exact (List.getElem_inj h).mp (ei.trans ej.symm)
/-- a list of pairs is known by its items -/
theorem kvs_ext {α : Type} {L : List α} {g : α → Key × V} {kvs : List (Key × V)} (hl : kvs.length = L.length) (h : ∀ (i : Nat) (k : Key) (z : V) (d : α), kvs[i]? = some (k, z) → L[i]? = some d → (k, z) = g d) : kvs = L.map g := by
  refine List.ext_getElem? fun i => ?_
  rw [List.getElem?_map]
  by_cases hi : i < kvs.length
  · have hi2 : i < L.length := by omega
    rw [List.getElem?_eq_getElem hi, List.getElem?_eq_getElem hi2]
    exact congrArg some (h i _ _ _ (List.getElem?_eq_getElem hi) (List.getElem?_eq_getElem hi2))
  · rw [List.getElem?_eq_none (by omega), List.getElem?_eq_none (by omega)]
    rfl
def nth {α : Type} (L : List α) (g : α → Str) (i : Nat) : Key := .inr ((L[i]?.map g).getD "")
theorem nth_at {α : Type} {L : List α} {g : α → Str} {i : Nat} {d : α} (h : L[i]? = some d) : nth L g i = .inr (g d) := by
  rw [nth, h]
  rfl
theorem nth_inj {α : Type} {L : List α} {g : α → Str} (h : (L.map g).Nodup) (i j : Nat) (hi : i < L.length) (hj : j < L.length) (e : nth L g i = nth L g j) : i = j := by
  rw [nth_at (List.getElem?_eq_getElem hi), nth_at (List.getElem?_eq_getElem hj)] at e
  exact nodup_map h (List.getElem?_eq_getElem hi) (List.getElem?_eq_getElem hj) (Sum.inr.inj e)
/-- one comprehension {name: poly_value(..)} -/
theorem tp_encD {H : Hp} {v : V} {d : Str × Poly} (h : Tp K H v (encD d)) : ∃ t y, v = .ref t ∧ SqT K H t [.str d.1, y] ∧ Tp K H y (encP d.2) := by
  obtain ⟨t, x, y, rfl, h1, h2, h3⟩ := tp_two h
  cases tp_str h2
  exact ⟨t, y, rfl, h1, h3⟩
theorem putK_szs {S : Scr} (ok : OkScr S) (n : Nat) : putK (S.tapes.map (fun d => ((.inr d.1 : Key), V.int ((pval d.2 n : Nat) : Int)))) (.inr "input") (.int (n : Int)) = szs S n := by
  refine putK_new _ ?_
  unfold valV
  cases e2 : (S.tapes.map (fun d => ((.inr d.1 : Key), V.int ((pval d.2 n : Nat) : Int)))).find? (fun kv => decide (kv.1 = (.inr "input" : Key))) with
  | none => rfl
  | some kv =>
    exfalso
    have hm := List.mem_of_find?_eq_some e2
    have hp0 := List.find?_some e2
    have hp : kv.1 = .inr "input" := of_decide_eq_true hp0
    obtain ⟨d, hd, rfl⟩ := List.mem_map.mp hm
    have e : d.1 = "input" := Sum.inr.inj hp
    have hn := ok.tnd
    rw [List.nodup_cons] at hn
    exact hn.1 (e ▸ List.mem_map.mpr ⟨d, hd, rfl⟩)
theorem pval_one (b n : Nat) : pval [(0, b)] n = b := by simp [pval]
theorem nums_ixs (S : Scr) (n : Nat) : S.ixs.map (fun d => ((.inr d.1 : Key), V.int ((pval d.2 n : Nat) : Int))) = nums S.bi S.bj := by
  show [((.inr "i" : Key), V.int ((pval [(0, S.bi)] n : Nat) : Int)), (.inr "j", V.int ((pval [(0, S.bj)] n : Nat) : Int))] = _
  rw [pval_one, pval_one]
  rfl
theorem fk_stage (T : Txt K mg w a) : ∃ fd, FnOk P w K mg base CX0 3 a.iS fd ["self", "program", "word"] (spStage K a.cS) ∧ Binds K fd ["self", "program", "word"] [] := by
  have F_poly_value := fk_poly_value (P := P) (base := base) T
  obtain ⟨fd, F⟩ := T.fnS
  refine ⟨fd, fk_method F sc_PlayStageinit (fun vs H Q E h => ?_) (fun _ _ _ _ _ _ us hl => match us, hl with | [_, _, _], _ => rfl) fun f cdv A outer s H vs Q E hr h => ?_⟩
  · obtain ⟨b, dx, v, S, z, rfl, _⟩ := h
    rfl
  · obtain ⟨b, dx, v, S, z, rfl, hb, hv, ok, hz, k⟩ := h
    have hu := hu_of hr
    obtain ⟨p, x, y, u, rfl, hp, e1, e2, e3⟩ := tp_three hv
    obtain ⟨px, xs, rfl, hx, rx⟩ := tp_tup e1
    obtain ⟨py, ys, rfl, hy, ry⟩ := tp_tup e2
    obtain ⟨pz, zs, rfl, hzt, rz⟩ := tp_tup e3
    have lx := rx.len
    have ly := ry.len
    have lz := rz.len
    rw [List.length_map] at lx ly lz
    have n0 := ok.tlen
    have n2 := ok.plen
    have hnx : (S.tapes.map Prod.fst).Nodup := (List.nodup_cons.mp ok.tnd).2
    have hzl : z.length = z.cps.size := by simp [Str.length]
    refine ⟨_, (pss_cons (ps_asg (pv 1) (pgT K rfl rfl (pgs_cons (pg_name (i := 3) nd_PlayStageinit rfl (by first | exact Or.inl rfl | exact Or.inr rfl)) (pgs_cons (pg_name (i := 4) nd_PlayStageinit rfl (by first | exact Or.inl rfl | exact Or.inr rfl)) (pgs_cons (pg_name (i := 5) nd_PlayStageinit rfl (by first | exact Or.inl rfl | exact Or.inr rfl)) pgs_nil)))))
      (pss_cons (ps_fld (pv 0) (pe_callB call_len_str (by rfl) T.len (by decide +kernel) (pa_cons (pv 2) pa_nil)) rfl)
      (pss_cons (ps_fld (pv 0) (pe_dc (g := gTup K 2 (gCons (gName 6) (gCons (gName 7) gNil))) (own := [("name", 6), ("size", 7)]) (by rfl) nd_PlayStageinit (pi_tup (pv 3)) (blkOk_by (own := [("name", 6), ("size", 7)]) (N := N_PlayStageinit) (sc := defScope S_PlayStageinit) (by decide +kernel)) (fun _ _ _ _ _ => (pgT K rfl rfl (pgs_cons (pg_name (i := 6) nd_PlayStageinit rfl (by first | exact Or.inl rfl | exact Or.inr rfl)) (pgs_cons (pg_name (i := 7) nd_PlayStageinit rfl (by first | exact Or.inl rfl | exact Or.inr rfl)) pgs_nil)))) (fun _ _ _ _ _ => pts_nil) (fun _ _ _ _ _ => (pv 6)) (fun _ _ _ _ _ => (pe_f (F_poly_value) (hr.mono (by decide)) rfl (pa_cons (pv 7) (pa_cons (pe_callB call_len_str (by rfl) T.len (by decide +kernel) (pa_cons (pv 2) pa_nil)) pa_nil))))) rfl)
      (pss_cons (ps_dput hu (pe_fld (pv 0) rfl) (pe_gs rfl T.INPUT_playwork) (pe_callB call_len_str (by rfl) T.len (by decide +kernel) (pa_cons (pv 2) pa_nil)) rfl)
      (pss_cons (ps_fld (pv 0) (pe_dc (g := gTup K 2 (gCons (gName 6) (gCons (gName 8) gNil))) (own := [("name", 6), ("bound", 8)]) (by rfl) nd_PlayStageinit (pi_tup (pv 4)) (blkOk_by (own := [("name", 6), ("bound", 8)]) (N := N_PlayStageinit) (sc := defScope S_PlayStageinit) (by decide +kernel)) (fun _ _ _ _ _ => (pgT K rfl rfl (pgs_cons (pg_name (i := 6) nd_PlayStageinit rfl (by first | exact Or.inl rfl | exact Or.inr rfl)) (pgs_cons (pg_name (i := 8) nd_PlayStageinit rfl (by first | exact Or.inl rfl | exact Or.inr rfl)) pgs_nil)))) (fun _ _ _ _ _ => pts_nil) (fun _ _ _ _ _ => (pv 6)) (fun _ _ _ _ _ => (pe_f (F_poly_value) (hr.mono (by decide)) rfl (pa_cons (pv 8) (pa_cons (pe_callB call_len_str (by rfl) T.len (by decide +kernel) (pa_cons (pv 2) pa_nil)) pa_nil))))) rfl)
      (pss_one (ps_fld (pv 0) (pe_dc (g := gTup K 2 (gCons (gName 6) (gCons (gName 9) gNil))) (own := [("name", 6), ("commands", 9)]) (by rfl) nd_PlayStageinit (pi_tup (pv 5)) (blkOk_by (own := [("name", 6), ("commands", 9)]) (N := N_PlayStageinit) (sc := defScope S_PlayStageinit) (by decide +kernel)) (fun _ _ _ _ _ => (pgT K rfl rfl (pgs_cons (pg_name (i := 6) nd_PlayStageinit rfl (by first | exact Or.inl rfl | exact Or.inr rfl)) (pgs_cons (pg_name (i := 9) nd_PlayStageinit rfl (by first | exact Or.inl rfl | exact Or.inr rfl)) pgs_nil)))) (fun _ _ _ _ _ => pts_nil) (fun _ _ _ _ _ => (pv 6)) (fun _ _ _ _ _ => (pv 9))) rfl))))))), ?_⟩
    refine ⟨_, rfl, p, _, rfl, hp, rfl, _, _, rfl, _, _, rfl, _, _, rfl, rfl, ?_⟩
    refine ⟨_, rfl, _, rfl, small_le (by omega), _, rfl, b, a.cS, dx, _, rfl, hb, T.clS, T.noS _ (by simp), (by show 0 < 1000; decide), ?_⟩
    rw [hzl]
    have b1 : But b H (upd H b (.ins a.cS dx [("length", .int (z.cps.size : Nat))])) := But.refl.set
    have hb1 : (upd H b (.ins a.cS dx [("length", .int (z.cps.size : Nat))])) b = some (.ins a.cS dx [("length", .int (z.cps.size : Nat))]) := upd_same
    have k1 := b1.kept hb
    refine ⟨_, rfl, px, rfl, ⟨_, k1.tq hx⟩, fun ds hds => ?_⟩
    have nds : ds ≠ b := by
      rintro rfl
      exact absurd ((Eq.symm hb1).trans hds) (fun e => nomatch e)
    refine dc_rel walk_tup hds (small_line (by omega)) (nth S.tapes Prod.fst) (fun i j h1 h2 => nth_inj hnx i j (by omega) (by omega)) (fun i zv _ => ∀ d, S.tapes[i]? = some d → zv = .int ((pval d.2 z.cps.size : Nat) : Int)) (fun _ _ _ _ _ _ h => h) (fun H2 s2 => s2.tq (k1.tq hx)) ?_ ?_
    · rintro i x1 H2 H3 hi s2 _ ⟨rfl, hx1⟩ Kq q
      obtain ⟨d, hd, hdt⟩ := rx.at hx1
      rw [List.getElem?_map] at hd
      cases ed : S.tapes[i]? with
      | none =>
        rw [ed] at hd
        cases hd
      | some d' =>
      rw [ed] at hd
      cases hd
      obtain ⟨t, y, rfl, htt, hty⟩ := tp_encD hdt
      refine ⟨t, _, rfl, s2.tq (k1.tq htt), rfl, _, _, rfl, _, _, rfl, rfl, rfl, ?_⟩
      refine ⟨_, rfl, _, rfl, _, rfl, z, rfl, small_le (by omega), y, d'.2, z.cps.size, (by rw [hzl]; rfl), (hty.kept k1).same s2, (ok.tok d' (List.mem_of_getElem? ed)).2, hz, fun H5 s5 => ?_⟩
      have := q _ H5 s5 fun d e => by
        rw [ed] at e
        cases e
        rfl
      rw [nth_at ed] at this
      exact this
    intro H2 kvs s2 hk2 hl2 hr2
    have ekv : kvs = S.tapes.map (fun d => ((.inr d.1 : Key), V.int ((pval d.2 z.cps.size : Nat) : Int))) := kvs_ext (by omega) fun i k' z' d h1 h2 => by
      obtain ⟨h3, h4⟩ := hr2 i k' z' h1
      rw [nth_at h2] at h3
      rw [h3, h4 d h2]
    subst ekv
    have hb2 := s2 _ _ hb1
    have b2 := b1.same s2
    refine ⟨_, rfl, b, a.cS, dx, _, rfl, hb2, T.clS, T.noS _ (by simp), (by show 1 < 1000; decide), ?_⟩
    have hb3 : (upd H2 b (.ins a.cS dx [("length", .int (z.cps.size : Nat)), ("sizes", .ref ds)])) b = some (.ins a.cS dx [("length", .int (z.cps.size : Nat)), ("sizes", .ref ds)]) := upd_same
    have b3 : But b H (upd H2 b (.ins a.cS dx [("length", .int (z.cps.size : Nat)), ("sizes", .ref ds)])) := b2.set
    have hs3 : (upd H2 b (.ins a.cS dx [("length", .int (z.cps.size : Nat)), ("sizes", .ref ds)])) ds = some (.dK (S.tapes.map (fun d => ((.inr d.1 : Key), V.int ((pval d.2 z.cps.size : Nat) : Int))))) := by
      rw [upd_ne nds]
      exact hk2
    refine ⟨_, rfl, z, rfl, small_le (by omega), _, rfl, b, a.cS, dx, _, _, rfl, hb3, T.clS, T.noS _ (by simp), rfl, ds, _, rfl, DPut.k (k := .inr "input") hs3 (small_line (by rw [List.length_map]; omega)), ?_⟩
    rw [hzl, putK_szs ok]
    have hds0 : H ds = none := by
      cases e : H ds with
      | none => rfl
      | some o =>
        have := b1 ds o nds e
        exact absurd ((Eq.symm this).trans hds) (fun e => nomatch e)
    have b4 : But b H (upd (upd H2 b (.ins a.cS dx [("length", .int (z.cps.size : Nat)), ("sizes", .ref ds)])) ds (.dK (szs S z.cps.size))) := fun c o n e => by
      rw [upd_ne (ne_of_none e hds0)]
      exact b3 c o n e
    have hb4 : (upd (upd H2 b (.ins a.cS dx [("length", .int (z.cps.size : Nat)), ("sizes", .ref ds)])) ds (.dK (szs S z.cps.size))) b = some (.ins a.cS dx [("length", .int (z.cps.size : Nat)), ("sizes", .ref ds)]) := by
      rw [upd_ne (Ne.symm nds)]
      exact hb3
    have hs4 : (upd (upd H2 b (.ins a.cS dx [("length", .int (z.cps.size : Nat)), ("sizes", .ref ds)])) ds (.dK (szs S z.cps.size))) ds = some (.dK (szs S z.cps.size)) := upd_same
    have k4 := b4.kept hb
    -- the bounds
    refine ⟨_, rfl, py, rfl, ⟨_, k4.tq hy⟩, fun db hdb => ?_⟩
    have ndb : db ≠ b := by
      rintro rfl
      exact absurd ((Eq.symm hb4).trans hdb) (fun e => nomatch e)
    have hnd1 : (S.ixs.map Prod.fst).Nodup := ok.nd 1
    refine dc_rel walk_tup hdb (small_line (by rw [ly]; show 2 ≤ 1000000; decide)) (nth S.ixs Prod.fst) (fun i j h1 h2 => nth_inj hnd1 i j (by omega) (by omega)) (fun i zv _ => ∀ d, S.ixs[i]? = some d → zv = .int ((pval d.2 z.cps.size : Nat) : Int)) (fun _ _ _ _ _ _ h => h) (fun H2 s2 => s2.tq (k4.tq hy)) ?_ ?_
    · rintro i x1 H5 H6 hi s5 _ ⟨rfl, hx1⟩ Kq q
      obtain ⟨d, hd, hdt⟩ := ry.at hx1
      rw [List.getElem?_map] at hd
      cases ed : S.ixs[i]? with
      | none =>
        rw [ed] at hd
        cases hd
      | some d' =>
      rw [ed] at hd
      cases hd
      obtain ⟨t, y, rfl, htt, hty⟩ := tp_encD hdt
      refine ⟨t, _, rfl, s5.tq (k4.tq htt), rfl, _, _, rfl, _, _, rfl, rfl, rfl, ?_⟩
      refine ⟨_, rfl, _, rfl, _, rfl, z, rfl, small_le (by omega), y, d'.2, z.cps.size, (by rw [hzl]; rfl), (hty.kept k4).same s5, (ok.iok d' (List.mem_of_getElem? ed)).2, hz, fun H7 s7 => ?_⟩
      have := q _ H7 s7 fun d e => by
        rw [ed] at e
        cases e
        rfl
      rw [nth_at ed] at this
      exact this
    intro H5 kvs5 s5 hk5 hl5 hr5
    have ekv5 : kvs5 = nums S.bi S.bj := by
      rw [← nums_ixs S z.cps.size]
      refine kvs_ext (by omega) fun i k' z' d h1 h2 => ?_
      obtain ⟨h3, h4⟩ := hr5 i k' z' h1
      rw [nth_at h2] at h3
      rw [h3, h4 d h2]
    subst ekv5
    have hb5 := s5 _ _ hb4
    have b5 := b4.same s5
    refine ⟨_, rfl, b, a.cS, dx, _, rfl, hb5, T.clS, T.noS _ (by simp), (by show 2 < 1000; decide), ?_⟩
    have hb6 : (upd H5 b (.ins a.cS dx [("length", .int (z.cps.size : Nat)), ("sizes", .ref ds), ("bounds", .ref db)])) b = some (.ins a.cS dx [("length", .int (z.cps.size : Nat)), ("sizes", .ref ds), ("bounds", .ref db)]) := upd_same
    have b6 : But b H (upd H5 b (.ins a.cS dx [("length", .int (z.cps.size : Nat)), ("sizes", .ref ds), ("bounds", .ref db)])) := b5.set
    have hs6 : (upd H5 b (.ins a.cS dx [("length", .int (z.cps.size : Nat)), ("sizes", .ref ds), ("bounds", .ref db)])) ds = some (.dK (szs S z.cps.size)) := by
      rw [upd_ne nds]
      exact s5 _ _ hs4
    have hd6 : (upd H5 b (.ins a.cS dx [("length", .int (z.cps.size : Nat)), ("sizes", .ref ds), ("bounds", .ref db)])) db = some (.dK (nums S.bi S.bj)) := by
      rw [upd_ne ndb]
      exact hk5
    have hdb0 : H db = none := by
      cases e : H db with
      | none => rfl
      | some o =>
        have := b4 db o ndb e
        exact absurd ((Eq.symm this).trans hdb) (fun e => nomatch e)
    have k6 := b6.kept hb
    -- the bodies
    refine ⟨_, rfl, pz, rfl, ⟨_, k6.tq hzt⟩, fun dp hdp => ?_⟩
    have ndp : dp ≠ b := by
      rintro rfl
      exact absurd ((Eq.symm hb6).trans hdp) (fun e => nomatch e)
    refine dc_rel walk_tup hdp (small_line (by omega)) (nth S.P Prod.fst) (fun i j h1 h2 => nth_inj ok.pnd i j (by omega) (by omega)) (fun i zv H => ∀ d, S.P[i]? = some d → ∃ t xs, zv = .ref t ∧ SqT K H t xs ∧ TpAll K H xs (encs S.nm d.2)) ?_ (fun H2 s2 => s2.tq (k6.tq hzt)) ?_ ?_
    · intro i zv Ha Hb hab hD h d e
      obtain ⟨t, xs, e1, e2, e3⟩ := h d e
      obtain ⟨kv, hkv⟩ := hD
      have kk : Kept Ha Hb := ⟨fun c xs e => hab c _ (by rintro rfl; rw [hkv] at e; cases e) e, fun c o u e => hab c _ (by rintro rfl; rw [hkv] at e; cases e) e⟩
      exact ⟨t, xs, e1, kk.tq e2, e3.kept kk⟩
    · rintro i x1 H7 H8 hi s7 _ ⟨rfl, hx1⟩ Kq q
      obtain ⟨d, hd, hdt⟩ := rz.at hx1
      rw [List.getElem?_map] at hd
      cases ed : S.P[i]? with
      | none =>
        rw [ed] at hd
        cases hd
      | some d' =>
      rw [ed] at hd
      cases hd
      obtain ⟨t, y1, y2, rfl, htt, h2, h3⟩ := tp_two hdt
      cases tp_str h2
      obtain ⟨pb, bs, rfl, hbb, rb⟩ := tp_tup h3
      refine ⟨t, _, rfl, s7.tq (k6.tq htt), rfl, _, _, rfl, _, _, rfl, rfl, rfl, ?_⟩
      refine ⟨_, rfl, _, rfl, ?_⟩
      have := q (.ref pb) _ (Same.refl _) fun d e => by
        rw [ed] at e
        cases e
        exact ⟨pb, bs, rfl, s7.tq (k6.tq hbb), (rb.kept k6).same s7⟩
      rw [nth_at ed] at this
      exact this
    intro H7 kvs7 s7 hk7 hl7 hr7
    have hb7 := s7 _ _ hb6
    refine ⟨_, rfl, b, a.cS, dx, _, rfl, hb7, T.clS, T.noS _ (by simp), (by show 3 < 1000; decide), ?_⟩
    have b8 : But b H (upd H7 b (.ins a.cS dx [("length", .int (z.cps.size : Nat)), ("sizes", .ref ds), ("bounds", .ref db), ("bodies", .ref dp)])) := (b6.same s7).set
    have k78 : Kept H7 (upd H7 b (.ins a.cS dx [("length", .int (z.cps.size : Nat)), ("sizes", .ref ds), ("bounds", .ref db), ("bodies", .ref dp)])) := (But.refl.set (a := b) (H := H7)).kept hb7
    refine k (upd H7 b (.ins a.cS dx [("length", .int (z.cps.size : Nat)), ("sizes", .ref ds), ("bounds", .ref db), ("bodies", .ref dp)])) ds db dp b8 upd_same ?_ ?_ ⟨kvs7, ?_, fun q cs hq => ?_⟩ hds0 hdb0 ?_
    · rw [upd_ne nds]
      exact s7 _ _ hs6
    · rw [upd_ne ndb]
      exact s7 _ _ hd6
    · rw [upd_ne ndp]
      exact hk7
    · rw [List.getElem?_map] at hq
      cases ed : S.P[q]? with
      | none =>
        rw [ed] at hq
        cases hq
      | some d' =>
      rw [ed] at hq
      cases hq
      have hq8 : q < kvs7.length := by
        have := (List.getElem?_eq_some_iff.mp ed).1
        omega
      have e7 := List.getElem?_eq_getElem hq8
      generalize hkv : kvs7[q] = kv at e7
      obtain ⟨kk, zz⟩ := kv
      obtain ⟨h1, h2⟩ := hr7 q kk zz e7
      obtain ⟨t, xs, rfl, h4, h5⟩ := h2 d' ed
      rw [nth_at ed] at h1
      subst h1
      have e8 := (ok.pok q d' ed).1
      refine ⟨t, xs, ?_, k78.tq h4, h5.kept k78⟩
      rw [← e8]
      refine valV_at e7 fun j u hj => ?_
      have h9 := (hr7 j _ u hj).1
      have hjl : j < S.P.length := by
        have := (List.getElem?_eq_some_iff.mp hj).1
        omega
      rw [nth_at (List.getElem?_eq_getElem hjl)] at h9
      exact (nodup_map ok.pnd ed (List.getElem?_eq_getElem hjl) (Sum.inr.inj h9)).symm
    · cases e : H dp with
      | none => rfl
      | some o =>
        have := b6 dp o ndp e
        exact absurd ((Eq.symm this).trans hdp) (fun e => nomatch e)
/-- the play's stage, in plain -/
def stg (S : Scr) (n : Nat) : Stg := ⟨n, S.bi, S.bj, S.P.map (·.2)⟩
/-- what is held: an empty dict for each tape -/
def HeldAt (S : Scr) (L : Lay) (n : Nat) (H : Hp) : Prop := H L.ds = some (.dK (szs S n)) ∧ (L.ds ≠ L.s ∧ L.ds ≠ L.nu ∧ L.ds ≠ L.pi) ∧ (L.hd ≠ L.s ∧ L.hd ≠ L.nu ∧ L.hd ≠ L.pi) ∧
  ∃ kvs : List (Key × V), H L.hd = some (.dK kvs) ∧ ∀ d ∈ S.tapes, ∃ p, valV kvs (.inr d.1) = some (.ref p) ∧ H p = some (.dK []) ∧ p ≠ L.s ∧ p ≠ L.nu ∧ p ≠ L.pi
theorem HeldAt.stay {S : Scr} {L : Lay} {n : Nat} {H H' : Hp} (h : HeldAt S L n H) (y : Stay L H H') : HeldAt S L n H' := by
  obtain ⟨h1, ⟨a1, a2, a3⟩, ⟨b1, b2, b3⟩, kvs, h2, h3⟩ := h
  refine ⟨y _ _ h1 a1 a2 a3, ⟨a1, a2, a3⟩, ⟨b1, b2, b3⟩, kvs, y _ _ h2 b1 b2 b3, fun d hd => ?_⟩
  obtain ⟨p, e1, e2, e3, e4, e5⟩ := h3 d hd
  exact ⟨p, e1, y _ _ e2 e3 e4 e5, e3, e4, e5⟩
def spBegun (K : PySem.W.Frag) (cS cP : Addr) : Sp := fun vs H Q _ => ∃ v S, ∃ z : Str, vs = [v, .str z] ∧ Tp K H v (encScr S) ∧ OkScr S ∧ z.cps.size ≤ 4 ∧
  ∀ H' L, Same H H' → PlayAt K cP S.nm L H' ⟨0, 0, 0, [((S.P.map (·.2)).getD (S.P.length - 1) [], 0, 0)]⟩ .non → StageAt K cS S.nm L (stg S z.cps.size) H' → HeldAt S L z.cps.size H' → H L.s = none → H L.nu = none → H L.pi = none → Q (.ref L.s) H'
theorem szs_keys {S : Scr} (ok : OkScr S) (n : Nat) : ∃ ks : Nat → Key, (∀ i j, i < (szs S n).length → j < (szs S n).length → ks i = ks j → i = j) ∧ (∀ (i : Nat) (k : Key) (z : V), (szs S n)[i]? = some (k, z) → k = ks i) ∧ ∀ (i : Nat) (d : Str × Poly), S.tapes[i]? = some d → ks i = .inr d.1 ∧ i < (szs S n).length := by
  have hl : (szs S n).length = S.tapes.length + 1 := by rw [szs, List.length_append, List.length_map]; rfl
  have hnd : (S.tapes.map Prod.fst ++ [("input" : Str)]).Nodup := by
    have h := ok.tnd
    rw [List.nodup_cons] at h
    rw [List.nodup_append]
    refine ⟨h.2, by simp, fun x hx y hy e => ?_⟩
    cases List.mem_singleton.mp hy
    exact h.1 (e ▸ hx)
  have hg : ∀ i : Nat, (szs S n)[i]?.map (fun kv => kv.1) = ((S.tapes.map Prod.fst ++ [("input" : Str)])[i]?).map (fun z => (.inr z : Key)) := fun i => by
    rw [← List.getElem?_map, ← List.getElem?_map]
    congr 1
    rw [szs, List.map_append, List.map_append, List.map_map, List.map_map]
    rfl
  refine ⟨fun i => .inr (((S.tapes.map Prod.fst ++ [("input" : Str)])[i]?).getD ""), fun i j hi hj e => ?_, fun i k z e => ?_, fun i d e => ?_⟩
  · have hm : (S.tapes.map Prod.fst ++ [("input" : Str)]).length = S.tapes.length + 1 := by rw [List.length_append, List.length_map]; rfl
    have e' := Sum.inr.inj e
    rw [List.getElem?_eq_getElem (by omega), List.getElem?_eq_getElem (by omega)] at e'
    exact (List.getElem_inj hnd).mp e'
  · have h := hg i
    rw [e] at h
    cases e2 : (S.tapes.map Prod.fst ++ [("input" : Str)])[i]? with
    | none =>
      rw [e2] at h
      cases h
    | some z =>
      rw [e2] at h
      exact (Option.some.inj (show some k = some (Sum.inr z) from h)).trans (by show _ = (Sum.inr (((S.tapes.map Prod.fst ++ [("input" : Str)])[i]?).getD "") : Key); rw [e2]; rfl)
  · have hi := (List.getElem?_eq_some_iff.mp e).1
    refine ⟨?_, by omega⟩
    show (Sum.inr (((S.tapes.map Prod.fst ++ [("input" : Str)])[i]?).getD "") : Key) = _
    rw [List.getElem?_append_left (by rw [List.length_map]; exact hi), List.getElem?_map, e]
    rfl
theorem fk_begun_play (T : Txt K mg w a) : Fk P w K mg base "begun_play" 5 ["program", "word"] (spBegun K a.cS a.cP) := by
  obtain ⟨fdS, FI_S, BI_S⟩ := fk_stage (P := P) (base := base) T
  obtain ⟨fdP, FI_P, BI_P⟩ := fk_state (P := P) (base := base) T
  refine (show Df K mg "begun_play" (top 58) from T.fn 30 _ rfl).fk sc_begun_play (fun vs H Q E h => ?_) (fun _ _ _ _ _ _ us hl => match us, hl with | [_, _], _ => rfl) fun f cdv A outer s H vs Q E hr h => ?_
  · obtain ⟨v, S, z, rfl, _⟩ := h
    rfl
  · obtain ⟨v, S, z, rfl, hv, ok, hz, k⟩ := h
    have hu := hu_of hr
    obtain ⟨p, x, y, u, rfl, hp, e1, e2, e3⟩ := tp_three hv
    obtain ⟨pz, zs, rfl, hzt, rz⟩ := tp_tup e3
    have lz := rz.len
    rw [List.length_map] at lz
    have n0 := ok.tlen
    have n2 := ok.plen
    have n3 := ok.ppos
    have hPs : ∃ P' d, S.P = P' ++ [d] := by
      rcases List.eq_nil_or_concat S.P with e | ⟨P', d, e⟩
      · rw [e] at n3
        cases n3
      · exact ⟨P', d, by rw [e, List.concat_eq_append]⟩
    obtain ⟨P', dl, hPe⟩ := hPs
    have rz' := rz
    rw [hPe, List.map_append] at rz'
    obtain ⟨zs', zl, rfl, _, hzl⟩ := rz'.snoc
    obtain ⟨tl, nl, bl, rfl, htl, hnl, hbl⟩ := tp_two hzl
    obtain ⟨pb, bs, rfl, hbs, rbs⟩ := tp_tup hbl
    have hlast : (S.P.map (·.2)).getD (S.P.length - 1) [] = dl.2 := by
      rw [hPe]
      simp
    refine ⟨_, (pss_cons (ps_set (i := 2) nd_begun_play rfl (by first | exact Or.inl rfl | exact Or.inr rfl) (pe_make T.mkS FI_S (hr.mono (by decide)) rfl T.mgS BI_S .nil pass0 (pa_cons (pv 0) (pa_cons (pv 1) pa_nil))))
      (pss_cons (ps_lock (ps_setDc (i := 3) (own := [("name", 5)]) (by rfl) nd_begun_play rfl rfl (sw_trueD rfl rfl rfl (by decide +kernel)) (pi_keys (pe_fld (pv 2) rfl)) (blkOk_by (own := [("name", 5)]) (N := N_begun_play) (sc := defScope S_begun_play) (by decide +kernel)) (fun _ _ _ _ _ => (pg_name (i := 5) nd_begun_play rfl (by first | exact Or.inl rfl | exact Or.inr rfl))) (fun _ _ _ _ _ => pts_nil) (fun _ _ _ _ _ => (pv 5)) (fun _ _ _ _ _ => pe_dnewK)))
      (pss_cons (ps_dput hu (pv 3) (pe_gs rfl T.INPUT_playwork) (pe_dc (g := gTup K 2 (gCons (gName 6) (gCons (gName 7) gNil))) (own := [("place", 6), ("letter", 7)]) (by rfl) nd_begun_play (pi_enumM (by rfl) T.enumerate (pa_cons (pv 1) pa_nil)) (blkOk_by (own := [("place", 6), ("letter", 7)]) (N := N_begun_play) (sc := defScope S_begun_play) (by decide +kernel)) (fun _ _ _ _ _ => (pgT K rfl rfl (pgs_cons (pg_name (i := 6) nd_begun_play rfl (by first | exact Or.inl rfl | exact Or.inr rfl)) (pgs_cons (pg_name (i := 7) nd_begun_play rfl (by first | exact Or.inl rfl | exact Or.inr rfl)) pgs_nil)))) (fun _ _ _ _ _ => pts_nil) (fun _ _ _ _ _ => (pv 6)) (fun _ _ _ _ _ => (pv 7))) rfl)
      (pss_cons (ps_set (i := 4) nd_begun_play rfl (by first | exact Or.inl rfl | exact Or.inr rfl) (pe_ifExp (pt_cmpR (eqE K rfl hu) (pe_ix (ixT K rfl) (pv 0) pe_int (fun _ _ => rfl)) (pe_tup pa_nil) (nomark _)) (pe_lst pa_nil) (pe_lst (pa_cons (pe_lst (pa_cons (pe_ix (ixT K rfl) (pe_ix (ixT K rfl) (pe_ix (ixT K rfl) (pv 0) pe_int (fun _ _ => rfl)) (pe_un un_neg pe_int) (fun _ _ => rfl)) pe_int (fun _ _ => rfl)) (pa_cons pe_int (pa_cons pe_int pa_nil)))) pa_nil))))
      (pss_one (ps_ret (pe_make T.mkP FI_P (hr.mono (by decide)) rfl T.mgP BI_P .nil pass0 (pa_cons (pv 2) (pa_cons (pv 3) (pa_cons (pe_lock (pe_dc (own := [("name", 5)]) (by rfl) nd_begun_play (pi_keys (pe_fld (pv 2) rfl)) (blkOk_by (own := [("name", 5)]) (N := N_begun_play) (sc := defScope S_begun_play) (by decide +kernel)) (fun _ _ _ _ _ => (pg_name (i := 5) nd_begun_play rfl (by first | exact Or.inl rfl | exact Or.inr rfl))) (fun _ _ _ _ _ => pts_nil) (fun _ _ _ _ _ => (pv 5)) (fun _ _ _ _ _ => pe_int))) (pa_cons (pv 4) (pa_cons pe_int pa_nil)))))))))))), ?_⟩
    refine ⟨_, rfl, _, rfl, fun a0 dx ha hdx hne => ?_⟩
    have s1 : Same H (upd (upd H dx (.own a0)) a0 (.ins a.cS dx [])) := (same_new hdx).new (by rw [upd_ne (Ne.symm hne)]; exact ha)
    refine ⟨a0, dx, _, S, z, rfl, upd_same, hv.same s1, ok, hz, fun H2 ds db dp b2 hst hds hdb hdp nds ndb ndp => ⟨rfl, ?_⟩⟩
    have s2 : Same H H2 := fun c o e => b2 c o (ne_of_none e ha) (s1 _ _ e)
    have n_ds : ds ≠ a0 := by
      rintro rfl
      rw [hst] at hds
      cases hds
    have n_db : db ≠ a0 := by
      rintro rfl
      rw [hst] at hdb
      cases hdb
    -- what is held
    obtain ⟨ks, hk1, hk2, hk3⟩ := szs_keys ok z.cps.size
    refine ⟨ds, _, hds, True.intro, fun od => ?_⟩
    have hst2 : (upd H2 ds (.frz od (.dK (szs S z.cps.size)))) a0 = some (.ins a.cS dx [("length", .int (z.cps.size : Nat)), ("sizes", .ref ds), ("bounds", .ref db), ("bodies", .ref dp)]) := by
      rw [upd_ne (Ne.symm n_ds)]
      exact hst
    refine ⟨_, rfl, a0, a.cS, dx, _, _, rfl, hst2, T.clS, T.noS _ (by simp), rfl, ds, od, rfl, .inl ⟨szs S z.cps.size, upd_same, fun hd hhd => ?_⟩⟩
    have hszl : (szs S z.cps.size).length ≤ 11 := by
      rw [szs, List.length_append, List.length_map]
      show _ + 1 ≤ 11
      omega
    refine dc_rel walk_keys hhd (small_line (by omega)) ks hk1 (fun _ zv H => ∃ q, zv = .ref q ∧ H q = some (.dK []) ∧ q ≠ hd) ?_ (fun H3 s3 => s3 _ _ upd_same) ?_ ?_
    · rintro i zv Ha Hb hab _ ⟨q, e1, e2, e3⟩
      exact ⟨q, e1, hab q _ e3 e2, e3⟩
    · rintro i x1 H3 H4 hi s3 ⟨kvd, hkd⟩ ⟨rfl, kk, zz, hkz, rfl⟩ Kq q
      refine ⟨rfl, _, rfl, fun q2 hq2 => ?_⟩
      rw [hk2 i kk zz hkz]
      refine q _ _ (same_new hq2) ⟨q2, rfl, upd_same, ?_⟩
      rintro rfl
      rw [hkd] at hq2
      cases hq2
    intro H5 kvsH s5 hk5 hl5 hr5
    refine ⟨s5 _ _ upd_same, ?_⟩
    have s26 : Same H2 (upd H5 ds (.dK (szs S z.cps.size))) := lock_same s5 hds
    have hf5 : H5 ds = some (.frz od (.dK (szs S z.cps.size))) := s5 _ _ upd_same
    have n_hd : hd ≠ ds := by
      rintro rfl
      rw [hk5] at hf5
      cases hf5
    have hd6 : (upd H5 ds (.dK (szs S z.cps.size))) hd = some (.dK kvsH) := by
      rw [upd_ne n_hd]
      exact hk5
    have hv6 : ∀ d ∈ S.tapes, ∃ q, valV kvsH (.inr d.1) = some (.ref q) ∧ (upd H5 ds (.dK (szs S z.cps.size))) q = some (.dK []) ∧ q ≠ hd := fun d hdm => by
      obtain ⟨i, hi⟩ := List.mem_iff_getElem?.mp hdm
      obtain ⟨e1, e2⟩ := hk3 i d hi
      have e3 := List.getElem?_eq_getElem (l := kvsH) (i := i) (by omega)
      generalize hkv : kvsH[i]'(by omega) = kv at e3
      obtain ⟨kk, zz⟩ := kv
      obtain ⟨e4, q, rfl, e5, e6⟩ := hr5 i kk zz e3
      refine ⟨q, ?_, ?_, e6⟩
      · rw [← e1, ← e4]
        refine valV_at e3 fun j u hj => ?_
        have e7 := (hr5 j kk u hj).1
        have e8 := (List.getElem?_eq_some_iff.mp hj).1
        exact (hk1 i j e2 (by omega) (e4.symm.trans e7)).symm
      · rw [upd_ne (by rintro rfl; rw [hf5] at e5; cases e5)]
        exact e5
    have hd0 : H hd = none := none_of_same s2 (by
      have := hhd
      rw [upd_ne n_hd] at this
      exact this)
    generalize (upd H5 ds (.dK (szs S z.cps.size))) = H6 at s26 hd6 hv6 ⊢
    -- the word's letters
    refine ⟨_, rfl, z, rfl, fun dw hdw => ?_⟩
    refine dc_rel (walk_enumM (z := z)) hdw (small_line (by omega)) (fun i => .inl (i : Int)) (fun i j _ _ e => by have := Sum.inl.inj e; omega) (fun _ _ _ => True) (fun _ _ _ _ _ _ h => h) (fun _ _ => True.intro) ?_ ?_
    · rintro i x1 H7 H8 hi s7 _ ⟨T2, y1, y2, rfl, hT, rfl, hy1, hy2⟩ Kq q
      cases Option.some.inj hy1
      exact ⟨T2, _, rfl, SqT.of upd_same, rfl, _, _, rfl, _, _, rfl, rfl, rfl, _, rfl, _, rfl, q _ _ (same_new hT) True.intro⟩
    intro H7 kvw s7 hw7 hlw _
    have hd7 := s7 _ _ hd6
    refine ⟨_, rfl, hd, _, rfl, DPut.k (k := .inr "input") hd7 (small_line (by omega)), ?_⟩
    have s8 : Same H (upd H7 hd (.dK (putK kvsH (.inr "input") (.ref dw)))) := ((s2.trans s26).trans s7).upd hd0
    have s28 : ∀ b o, b ≠ hd → H2 b = some o → (upd H7 hd (.dK (putK kvsH (.inr "input") (.ref dw)))) b = some o := fun b o nb e => by
      rw [upd_ne nb]
      exact s7 _ _ (s26 _ _ e)
    have n_a0 : a0 ≠ hd := by
      rintro rfl
      rw [s26 _ _ hst] at hd6
      cases hd6
    have ne2 : ∀ b o, H2 b = some o → b ≠ hd := fun b o e => by
      rintro rfl
      by_cases hbs : b = ds
      · exact n_hd hbs
      · have := hhd
        rw [upd_ne hbs, e] at this
        cases this
    have hst8 := s28 _ _ (ne2 _ _ hst) hst
    have hds8 := s28 _ _ (ne2 _ _ hds) hds
    have hdb8 := s28 _ _ (ne2 _ _ hdb) hdb
    have hdp8 : BodAt K S (upd H7 hd (.dK (putK kvsH (.inr "input") (.ref dw)))) dp := by
      obtain ⟨kv, g1, g2⟩ := hdp
      refine ⟨kv, s28 _ _ (ne2 _ _ g1) g1, fun q cs e => ?_⟩
      obtain ⟨t, xs, g3, g4, g5⟩ := g2 q cs e
      have kk : Kept H2 (upd H7 hd (.dK (putK kvsH (.inr "input") (.ref dw)))) := ⟨fun c xs e => s28 _ _ (ne2 _ _ e) e, fun c o u e => s28 _ _ (ne2 _ _ e) e⟩
      exact ⟨t, xs, g3, kk.tq g4, g5.kept kk⟩
    have hd8 : (upd H7 hd (.dK (putK kvsH (.inr "input") (.ref dw)))) hd = some (.dK (putK kvsH (.inr "input") (.ref dw))) := upd_same
    have hv8 : ∀ d ∈ S.tapes, ∃ q, valV (putK kvsH (.inr "input") (.ref dw)) (.inr d.1) = some (.ref q) ∧ (upd H7 hd (.dK (putK kvsH (.inr "input") (.ref dw)))) q = some (.dK []) := fun d hdm => by
      obtain ⟨q, g1, g2, g3⟩ := hv6 d hdm
      refine ⟨q, ?_, ?_⟩
      · rw [valV_put, if_neg, g1]
        intro e
        have e' : d.1 = "input" := Sum.inr.inj e
        have hn := ok.tnd
        rw [List.nodup_cons] at hn
        exact hn.1 (e' ▸ List.mem_map.mpr ⟨d, hdm, rfl⟩)
      · rw [upd_ne g3]
        exact s7 _ _ g2
    generalize (putK kvsH (.inr "input") (.ref dw)) = kvF at s8 hst8 hds8 hdb8 hdp8 hd8 hv8 ⊢
    generalize (upd H7 hd (.dK kvF)) = H8 at s8 hst8 hds8 hdb8 hdp8 hd8 hv8 ⊢
    -- the pile
    refine ⟨_, rfl, _, _, _, _, rfl, rfl, s8.tq hp, rfl, Nat.zero_le _, fun t9 ht9 => ?_⟩
    have s9 : Same H8 (upd H8 t9 (.tup [])) := same_new ht9
    have hne9 : (zs' ++ [V.ref tl]).isEmpty = false := by cases zs' <;> rfl
    refine ⟨pz, t9, _, rfl, rfl, .inr ⟨(s8.trans s9).tq hzt, SqT.of upd_same⟩, _, rfl, ?_⟩
    show if (zs' ++ [V.ref tl]).isEmpty = true then _ else _
    rw [hne9]
    have s09 := s8.trans s9
    refine iteF ⟨_, rfl, _, _, _, _, rfl, rfl, s09.tq hp, rfl, _, rfl, _, _, _, _, rfl, rfl, s09.tq hzt, atI_last _ _, _, _, _, _, rfl, rfl, s09.tq htl, rfl, small_le (by show 3 ≤ 1000000; decide), fun le hle => ⟨small_le (by show 1 ≤ 1000000; decide), fun lp hlp => ?_⟩⟩
    have s10 : Same (upd H8 t9 (.tup [])) (upd (upd H8 t9 (.tup [])) le (.lst [.ref pb, .int 0, .int 0])) := same_new hle
    have s11 : Same (upd (upd H8 t9 (.tup [])) le (.lst [.ref pb, .int 0, .int 0])) (upd (upd (upd H8 t9 (.tup [])) le (.lst [.ref pb, .int 0, .int 0])) lp (.lst [.ref le])) := same_new hlp
    have hle11 := s11 _ _ (upd_same (H := upd H8 t9 (.tup [])) (a := le) (o := .lst [.ref pb, .int 0, .int 0]))
    have nlp : le ≠ lp := ne_of_none (upd_same (H := upd H8 t9 (.tup [])) (a := le) (o := .lst [.ref pb, .int 0, .int 0])) hlp
    have hlp11 : (upd (upd (upd H8 t9 (.tup [])) le (.lst [.ref pb, .int 0, .int 0])) lp (.lst [.ref le])) lp = some (.lst [.ref le]) := upd_same
    have s811 := (s9.trans s10).trans s11
    have hlp8 : H8 lp = none := none_of_same (s9.trans s10) hlp
    generalize (upd (upd (upd H8 t9 (.tup [])) le (.lst [.ref pb, .int 0, .int 0])) lp (.lst [.ref le])) = H11 at hle11 hlp11 s811 ⊢
    -- the numbers
    refine ⟨_, rfl, _, rfl, db, _, s811 _ _ hdb8, True.intro, fun od2 => ?_⟩
    have hst12 : (upd H11 db (.frz od2 (.dK (nums S.bi S.bj)))) a0 = some (.ins a.cS dx [("length", .int (z.cps.size : Nat)), ("sizes", .ref ds), ("bounds", .ref db), ("bodies", .ref dp)]) := by
      rw [upd_ne (Ne.symm n_db)]
      exact s811 _ _ hst8
    refine ⟨_, rfl, a0, a.cS, dx, _, _, rfl, hst12, T.clS, T.noS _ (by simp), rfl, db, od2, rfl, .inl ⟨nums S.bi S.bj, upd_same, fun nu hnu => ?_⟩⟩
    refine dc_rel walk_keys hnu (small_line (by show 2 ≤ 1000000; decide)) (fun i => if i = 0 then ixK false else ixK true) ?_ (fun _ zv _ => zv = .int 0) (fun _ _ _ _ _ _ h => h) (fun H3 s3 => s3 _ _ upd_same) ?_ ?_
    · intro i j hi hj e
      have hi' : i < 2 := hi
      have hj' : j < 2 := hj
      match i, j, hi', hj' with
      | 0, 0, _, _ => rfl
      | 1, 1, _, _ => rfl
      | 0, 1, _, _ => exact absurd e ixK_ne
      | 1, 0, _, _ => exact absurd e.symm ixK_ne
    · rintro i x1 H3 H4 hi s3 _ ⟨rfl, kk, zz, hkz, rfl⟩ Kq q
      have hkk : kk = if i = 0 then ixK false else ixK true := by
        match i, hkz with
        | 0, hkz => cases Option.some.inj hkz; rfl
        | 1, hkz => cases Option.some.inj hkz; rfl
        | i + 2, hkz => cases hkz
      refine ⟨rfl, _, rfl, ?_⟩
      rw [hkk]
      exact q _ _ (Same.refl _) rfl
    intro H12 kvn s12 hn12 hln hrn
    refine ⟨s12 _ _ upd_same, _, rfl, fun x dx2 hx hdx2 hne2 => ?_⟩
    have ekn : kvn = nums 0 0 := by
      match kvn, hln, hrn with
      | [(k0, z0), (k1, z1)], _, hrn =>
        obtain ⟨g1, g2⟩ := hrn 0 k0 z0 rfl
        obtain ⟨g3, g4⟩ := hrn 1 k1 z1 rfl
        subst g1 g2 g3 g4
        rfl
    subst ekn
    have s13 : Same H11 (upd H12 db (.dK (nums S.bi S.bj))) := lock_same s12 (s811 _ _ hdb8)
    have n_nu : nu ≠ db := by
      rintro rfl
      rw [upd_same] at hnu
      cases hnu
    have hnu11 : H11 nu = none := by
      rw [upd_ne n_nu] at hnu
      exact hnu
    have hnu13 : (upd H12 db (.dK (nums S.bi S.bj))) nu = some (.dK (nums 0 0)) := by
      rw [upd_ne n_nu]
      exact hn12
    generalize (upd H12 db (.dK (nums S.bi S.bj))) = H13 at s13 hnu13 hx hdx2 ⊢
    have s813 := s811.trans s13
    have s14 : Same H13 (upd (upd H13 dx2 (.own x)) x (.ins a.cP dx2 [])) := (same_new hdx2).new (by rw [upd_ne (Ne.symm hne2)]; exact hx)
    have s15 : ∀ (o : HO) (H' : Hp), Same H13 H' → Same H13 (upd H' x o) := fun o H' s => s.upd hx
    refine ⟨x, dx2, _, _, _, _, _, rfl, upd_same, rfl, ?_⟩
    have sF := s15 (.ins a.cP dx2 [("stage", .ref a0), ("held", .ref hd), ("numbers", .ref nu), ("pile", .ref lp), ("steps", .int 0), ("champion", .non)]) _ (s15 (.ins a.cP dx2 [("stage", .ref a0), ("held", .ref hd), ("numbers", .ref nu), ("pile", .ref lp), ("steps", .int 0)]) _ (s15 (.ins a.cP dx2 [("stage", .ref a0), ("held", .ref hd), ("numbers", .ref nu), ("pile", .ref lp)]) _ (s15 (.ins a.cP dx2 [("stage", .ref a0), ("held", .ref hd), ("numbers", .ref nu)]) _ (s15 (.ins a.cP dx2 [("stage", .ref a0), ("held", .ref hd)]) _ (s15 (.ins a.cP dx2 [("stage", .ref a0)]) _ s14)))))
    refine k _ ⟨x, dx2, nu, lp, a0, dx, ds, db, dp, hd⟩ ((s8.trans s813).trans sF) ⟨upd_same, sF _ _ hnu13, [.ref le], sF _ _ (s13 _ _ hlp11), ?_⟩ ?_ ?_ ?_ ?_ ?_
    · rw [hlast]
      have r8 : TpAll K H8 bs (encs S.nm dl.2) := rbs.same s8
      exact .snoc (vs := []) ⟨le, pb, bs, rfl, nlp, sF _ _ (s13 _ _ hle11), (s813.trans sF).tq (s8.tq hbs), r8.same (s813.trans sF)⟩ .nil
    · obtain ⟨kv, g1, g2⟩ := hdp8
      refine ⟨(s813.trans sF) _ _ hst8, (s813.trans sF) _ _ hdb8, ⟨kv, (s813.trans sF) _ _ g1, fun q cs e => ?_⟩, ⟨ne_of_none (s813 _ _ hst8) hx, ne_of_none (s811 _ _ hst8) hnu11, ne_of_none hst8 hlp8⟩, ⟨ne_of_none (s813 _ _ hdb8) hx, ne_of_none (s811 _ _ hdb8) hnu11, ne_of_none hdb8 hlp8⟩, ⟨ne_of_none (s813 _ _ g1) hx, ne_of_none (s811 _ _ g1) hnu11, ne_of_none g1 hlp8⟩, ⟨Ne.symm (ne_of_none hnu13 hx), Ne.symm (ne_of_none (s13 _ _ hlp11) hx), Ne.symm (ne_of_none hlp11 hnu11)⟩, hz⟩
      obtain ⟨t, xs, g3, g4, g5⟩ := g2 q cs e
      exact ⟨t, xs, g3, (s813.trans sF).tq g4, g5.same (s813.trans sF)⟩
    · refine ⟨(s813.trans sF) _ _ hds8, ⟨ne_of_none (s813 _ _ hds8) hx, ne_of_none (s811 _ _ hds8) hnu11, ne_of_none hds8 hlp8⟩, ⟨ne_of_none (s813 _ _ hd8) hx, ne_of_none (s811 _ _ hd8) hnu11, ne_of_none hd8 hlp8⟩, kvF, (s813.trans sF) _ _ hd8, fun d hdm => ?_⟩
      obtain ⟨q, g1, g2⟩ := hv8 d hdm
      exact ⟨q, g1, (s813.trans sF) _ _ g2, ne_of_none (s813 _ _ g2) hx, ne_of_none (s811 _ _ g2) hnu11, ne_of_none g2 hlp8⟩
    · exact none_of_same (s8.trans s813) hx
    · exact none_of_same (s8.trans s811) hnu11
    · exact none_of_same s8 hlp8
end
end NPK
set_option Elab.async false
set_option linter.all false
set_option maxRecDepth 100000
set_option maxHeartbeats 2000000
namespace NPK
open PySem PySem.Spec PyProof.Rows L2 NP
/-! ### a def that is also called with its three arguments by name -/
def g3 {α : Type} : List α → List α → List α
  | [], [a, b, c] => [c, b, a]
  | _, _ => []
def kw3 : List Str := ["picks", "word", "program"]
def Fk2 (P : Program) (w : World) (K : PySem.W.Frag) (mg : Str → Option Value) (base : Heap) (x : Str) (k : Nat) (ps : List Str) (sp : Sp) : Prop :=
  ∃ f fd, FnOk P w K mg base CX0 k f fd ps sp ∧ mg x = some (.ref f) ∧ PySem.W.keepIn K (.ref f) = true ∧ Binds K fd ps [] ∧ KBinds K fd ps kw3 g3 g3
theorem Fk2.fk {P : Program} {w : World} {K : PySem.W.Frag} {mg : Str → Option Value} {base : Heap} {x : Str} {k : Nat} {ps : List Str} {sp : Sp} (F : Fk2 P w K mg base x k ps sp) : Fk P w K mg base x k ps sp := by
  obtain ⟨f, fd, h1, h2, h3, h4, _⟩ := F
  exact ⟨f, fd, h1, h2, h3, h4⟩
theorem Df.fk2 {P : Program} {w : World} {K : PySem.W.Frag} {mg : Str → Option Value} {base : Heap} {x : Str} {st : Stmt} {N ps : List Str} {k : Nat} {sp : Sp} (D : Df K mg x st) (S : FnScope N ps (defScope st)) (len : ∀ vs H Q E, sp vs H Q E → vs.length = ps.length)
    (hb : ∀ (kV doc pm : Value) (an : Option Addr) (cdv ct : Value) (us : List Value), us.length = ps.length → bindArgs (PySem.W.fnOf x x (defArgs st) (defBody st) (defScope st) .none kV doc pm an cdv ct) ⟨us, []⟩ = pure (ps.zip us))
    (hp : ps.length = 3)
    (hkb : ∀ (kV doc pm : Value) (an : Option Addr) (cdv ct a b c : Value), bindArgs (PySem.W.fnOf x x (defArgs st) (defBody st) (defScope st) .none kV doc pm an cdv ct) ⟨[], kw3.zip [a, b, c]⟩ = pure (ps.zip [c, b, a]))
    (hbody : ∀ (f : Addr) (cdv : Value) (A : Around) (outer : List Env) (s : Shared) (H : Hp) (vs : List V) (Q : VK) (E : XK), Room k (A.deeper (envOfC x (defScope st) s.heap.objs.size f cdv)) → sp vs H Q E →
      ∃ t, PSs (cxOf CX0 P w K mg base N x (defScope st) f cdv A outer s H E).nox (defBody st) t ∧ t { nx := fun _ H' => Q .non H', rt := Q } (start N vs) H) : Fk2 P w K mg base x (k + 1) ps sp := by
  obtain ⟨f, fd, F, hm⟩ := D
  refine ⟨f, fd, F.ok S len fun cdv A outer s H vs Q E hr h => ?_, hm, F.kp, F.bindsN hb, ?_⟩
  · obtain ⟨t, h1, h2⟩ := hbody f cdv A outer s H vs Q E hr h
    exact ⟨t, h1.nox, h2⟩
  · obtain ⟨oc, od, dV, kV, doc, pm, an, cdv, ct, osl, rfl, lk, hcd, hD, hK⟩ := F.ex
    rcases hD with ⟨_, rfl⟩ | ⟨e, _⟩
    · refine ⟨fun s us ws _ hl => ?_, fun {vs us zs ws} r1 r2 => ?_⟩
      · match us, ws, hl with
        | [], [a, b, c], _ => exact .of_eq (hkb kV doc pm an cdv ct a b c)
        | [], [], hl => rw [hp] at hl; cases hl
        | [], [_], hl => rw [hp] at hl; cases hl
        | [], [_, _], hl => rw [hp] at hl; cases hl
        | [], _ :: _ :: _ :: _ :: _, hl => rw [hp] at hl; cases hl
        | _ :: _, _, hl => rw [hp] at hl; cases hl
      · cases r1 with
        | cons _ _ => exact .nil
        | nil =>
          match zs, ws, r2 with
          | [], [], _ => exact .nil
          | [_], [_], _ => exact .nil
          | [_, _], [_, _], _ => exact .nil
          | [_, _, _], [_, _, _], .cons a (.cons b (.cons c .nil)) => exact .cons c (.cons b (.cons a .nil))
          | _ :: _ :: _ :: _ :: _, _ :: _ :: _ :: _ :: _, _ => exact .nil
    · exact absurd rfl e
/-- e.f, the written part named -/
theorem fldK {X : Cx} {e : Expr} {f : Str} {pos : Pos} {ta : TE} (K : PySem.W.Frag) (h : X.K = K) (he : PE X e ta) (hb : attributeBase e f X.env (eval e X.env) = eval e X.env) : PE X (.Attribute e f pos) (tFld K ta f) := h ▸ pe_fld he hb
/-! plays -/
abbrev S_followed_play : Stmt := top 70
abbrev N_followed_play : List Str := ["program", "word", "picks", "state", "taken", "choice"]
theorem sc_followed_play : FnScope N_followed_play ["program", "word", "picks"] (defScope S_followed_play) := ⟨rfl, rfl, rfl, by decide +kernel, rfl, by decide +kernel, by decide +kernel⟩
theorem nd_followed_play : N_followed_play.Nodup := sc_followed_play.nd
abbrev S_need_picks : Stmt := top 72
abbrev N_need_picks : List Str := ["program", "word", "picks"]
theorem sc_need_picks : FnScope N_need_picks ["program", "word", "picks"] (defScope S_need_picks) := ⟨rfl, rfl, rfl, by decide +kernel, rfl, by decide +kernel, by decide +kernel⟩
theorem nd_need_picks : N_need_picks.Nodup := sc_need_picks.nd
abbrev S_run : Stmt := top 73
abbrev N_run : List Str := ["program", "word", "picks", "state", "choice", "taken"]
theorem sc_run : FnScope N_run ["program", "word", "picks"] (defScope S_run) := ⟨rfl, rfl, rfl, by decide +kernel, rfl, by decide +kernel, by decide +kernel⟩
theorem nd_run : N_run.Nodup := sc_run.nd
abbrev S_state_after : Stmt := top 74
abbrev N_state_after : List Str := ["program", "word", "picks", "state", "tapes", "name", "size", "cells", "place", "bound"]
theorem sc_state_after : FnScope N_state_after ["program", "word", "picks"] (defScope S_state_after) := ⟨rfl, rfl, rfl, by decide +kernel, rfl, by decide +kernel, by decide +kernel⟩
theorem nd_state_after : N_state_after.Nodup := sc_state_after.nd
/-- what a play takes: a program, a word, no picks, and its plain play -/
structure Asks (S : Scr) (z : Str) (b : Bool) (F : Cf) : Prop where
  ok : OkScr S
  len : z.cps.size ≤ 4
  let_ : ∀ c ∈ z.cps.toList, c ∈ lets.cps.toList
  play : Ex (stg S z.cps.size) ⟨0, 0, 0, [((S.P.map (·.2)).getD (S.P.length - 1) [], 0, 0)]⟩ b F
  st : F.st ≤ 2000
def spFollow (K : PySem.W.Frag) (cS cP : Addr) : Sp := fun vs H Q _ => ∃ v S z b F, vs = [v, .str z, .str ""] ∧ Tp K H v (encScr S) ∧ Asks S z b F ∧
  ∀ H' t L, Same H H' → SqT K H' t [.ref L.s, .non, .int 0] → PlayAt K cP S.nm L H' F (who b) → StageAt K cS S.nm L (stg S z.cps.size) H' → HeldAt S L z.cps.size H' → Q (.ref t) H'
def spPicks (K : PySem.W.Frag) : Sp := fun vs H Q _ => ∃ v S z b F, vs = [v, .str z, .str ""] ∧ Tp K H v (encScr S) ∧ Asks S z b F ∧ ∀ H', Same H H' → Q .non H'
def spRun (K : PySem.W.Frag) : Sp := fun vs H Q _ => ∃ v S z b F, vs = [v, .str z, .str ""] ∧ Tp K H v (encScr S) ∧ Asks S z b F ∧
  ∀ H' t, Same H H' → Tp K H' (.ref t) (.tuple [.str "won", .str (if b then "one" else "two"), .int (F.st : Int), .int 0]) → Q (.ref t) H'
def spAfter (K : PySem.W.Frag) : Sp := fun vs H Q _ => ∃ v S z b F, vs = [v, .str z, .str ""] ∧ Tp K H v (encScr S) ∧ Asks S z b F ∧ S.tapes = [(("t" : Str), ([(0, 1)] : Poly))] ∧
  ∀ H' t, Same H H' → Tp K H' (.ref t) (.tuple [.tuple [.tuple [.none]], .tuple [.int (F.i : Int), .int (F.j : Int)]]) → Q (.ref t) H'
section
variable {P : Program} {w : World} {K : PySem.W.Frag} {mg : Str → Option Value} {base : Heap} {a : Ads}
theorem fk_followed_play (T : Txt K mg w a) : Fk P w K mg base "followed_play" 6 ["program", "word", "picks"] (spFollow K a.cS a.cP) := by
  have F_begun_play := fk_begun_play (P := P) (base := base) T
  have F_next_choice := fk_next_choice (P := P) (base := base) T
  refine (show Df K mg "followed_play" (top 70) from T.fn 38 _ rfl).fk sc_followed_play (fun vs H Q E h => ?_) (fun _ _ _ _ _ _ us hl => match us, hl with | [_, _, _], _ => rfl) fun f cdv A outer s H vs Q E hr h => ?_
  · obtain ⟨v, S, z, b, F, rfl, _⟩ := h
    rfl
  · obtain ⟨v, S, z, b, F, rfl, hv, ak, k⟩ := h
    obtain ⟨l, hpl⟩ := ak.play
    have hP1 := ak.ok.ppos
    refine ⟨_, (pss_cons (ps_set (i := 3) nd_followed_play rfl (by first | exact Or.inl rfl | exact Or.inr rfl) (pe_f (F_begun_play) (hr.mono (by decide)) rfl (pa_cons (pv 0) (pa_cons (pv 1) pa_nil))))
      (pss_cons (ps_set (i := 4) nd_followed_play rfl (by first | exact Or.inl rfl | exact Or.inr rfl) pe_int)
      (pss_cons (ps_set (i := 5) nd_followed_play rfl (by first | exact Or.inl rfl | exact Or.inr rfl) (pe_f (F_next_choice) (hr.mono (by decide)) rfl (pa_cons (pv 3) pa_nil)))
      (pss_cons (ps_while PassesOwn.never (PW.pt (pw_and (pt_cmpR op_notN (pv 5) pe_non (nomark _)) (pw_and (pt_cmpR op_lt (pv 4) (pe_callB call_len_str (by rfl) T.len (by decide +kernel) (pa_cons (pv 2) pa_nil)) (nomark _)) (pw_and1 (pt_cmpR op_in_sign (pe_ix ix_str (pv 2) (pv 4) (fun _ _ => rfl)) (pe_ix (ixT K rfl) (pv 5) pe_int (fun _ _ => rfl)) (rfl)))))) pss_never)
      (pss_one (ps_ret (pe_tup (pa_cons (pv 3) (pa_cons (pv 5) (pa_cons (pv 4) pa_nil)))))))))), ?_⟩
    refine ⟨_, rfl, _, rfl, v, S, z, rfl, hv, ak.ok, ak.len, fun H1 L s1 hp hs hh f1 f2 f3 => ?_⟩
    have hB : ∀ (k : Nat) (cs : List Cmd), (stg S z.cps.size).B[k]? = some cs → Good S.nm cs := fun q cs e => by
      have e : (S.P.map (·.2))[q]? = some cs := e
      rw [List.getElem?_map] at e
      cases ed : S.P[q]? with
      | none =>
        rw [ed] at e
        cases e
      | some d =>
        rw [ed] at e
        cases e
        obtain ⟨_, _, g1, g2⟩ := ak.ok.pok q d ed
        exact ⟨q, g1, g2⟩
    refine ⟨_, rfl, S.nm, L, _, _, F, l, b, rfl, hp, hs, hpl, ak.st, Nat.le_refl 1, fun x hx => ?_, hB, fun H2 y2 hp2 => ?_⟩
    · cases List.mem_singleton.mp hx
      have hlt : S.P.length - 1 < (S.P.map (·.2)).length := by
        rw [List.length_map]
        omega
      refine hB (S.P.length - 1) _ ?_
      show (S.P.map (·.2))[S.P.length - 1]? = some ((S.P.map (·.2)).getD (S.P.length - 1) [])
      rw [List.getD_eq_getElem?_getD, List.getElem?_eq_getElem hlt]
      rfl
    · have s2 : Same H H2 := fun c o e => y2 c o (s1 _ _ e) (ne_of_none e f1) (ne_of_none e f2) (ne_of_none e f3)
      have hs2 := hs.stay hp y2
      have hh2 := hh.stay y2
      refine ⟨fun m σ H' => H' = H2 ∧ σ = [some v, some (.str z), some (.str ""), some (.ref L.s), some (.int 0), some .non], ⟨0, rfl, rfl⟩, ?_⟩
      rintro m σ H' ⟨rfl, rfl⟩
      refine ⟨_, rfl, rfl, _, rfl, iteF ?_⟩
      refine iteF ⟨_, rfl, _, rfl, _, rfl, small_le (by show 3 ≤ 1000000; decide), fun t ht => ?_⟩
      have s3 : Same H' (upd H' t (.tup [.ref L.s, .non, .int 0])) := same_new ht
      exact k _ t L (s2.trans s3) (SqT.of upd_same) (hp2.same s3) (hs2.stay hp2 s3.stay) (hh2.stay s3.stay)
theorem fk_need_picks (T : Txt K mg w a) : Fk P w K mg base "need_picks" 13 ["program", "word", "picks"] (spPicks K) := by
  have F_need_program := fk_need_program (P := P) (base := base) T
  have F_is_letters := fk_is_letters (P := P) (base := base) T
  refine (show Df K mg "need_picks" (top 72) from T.fn 39 _ rfl).fk sc_need_picks (fun vs H Q E h => ?_) (fun _ _ _ _ _ _ us hl => match us, hl with | [_, _, _], _ => rfl) fun f cdv A outer s H vs Q E hr h => ?_
  · obtain ⟨v, S, z, b, F, rfl, _⟩ := h
    rfl
  · obtain ⟨v, S, z, b, F, rfl, hv, ak, k⟩ := h
    refine ⟨_, (pss_cons (ps_expr (pe_f (F_need_program) (hr.mono (by decide)) rfl (pa_cons (pv 0) pa_nil)))
      (pss_cons (ps_if (pt_not (pt_val (pe_f (F_is_letters) (hr.mono (by decide)) rfl (pa_cons (pv 1) pa_nil)))) pss_never pss_nil)
      (pss_one (ps_if (pt_not (pt_val (pe_f (F_is_letters) (hr.mono (by decide)) rfl (pa_cons (pv 2) pa_nil)))) pss_never pss_nil)))), ?_⟩
    have hlen := ak.len
    refine ⟨_, rfl, v, S, rfl, hv, ak.ok, fun H1 s1 => ?_⟩
    refine ⟨_, rfl, z, rfl, small_line (by omega), ak.let_, fun H2 s2 => ⟨_, rfl, iteF ?_⟩⟩
    refine ⟨_, rfl, "", rfl, small_line (Nat.zero_le _), (fun c hc => absurd hc List.not_mem_nil), fun H3 s3 => ⟨_, rfl, iteF (k _ ((s1.trans s2).trans s3))⟩⟩
theorem fk2_run (T : Txt K mg w a) : Fk2 P w K mg base "run" 14 ["program", "word", "picks"] (spRun K) := by
  have F_need_picks := fk_need_picks (P := P) (base := base) T
  have F_followed_play := fk_followed_play (P := P) (base := base) T
  refine (show Df K mg "run" (top 73) from T.fn 40 _ rfl).fk2 sc_run (fun vs H Q E h => ?_) (fun _ _ _ _ _ _ us hl => match us, hl with | [_, _, _], _ => rfl) rfl (fun _ _ _ _ _ _ _ _ _ => rfl) fun f cdv A outer s H vs Q E hr h => ?_
  · obtain ⟨v, S, z, b, F, rfl, _⟩ := h
    rfl
  · obtain ⟨v, S, z, b, F, rfl, hv, ak, k⟩ := h
    refine ⟨_, (pss_cons (ps_expr (pe_f (F_need_picks) (hr.mono (by decide)) rfl (pa_cons (pv 0) (pa_cons (pv 1) (pa_cons (pv 2) pa_nil)))))
      (pss_cons (ps_asg (pe_f (F_followed_play) (hr.mono (by decide)) rfl (pa_cons (pv 0) (pa_cons (pv 1) (pa_cons (pv 2) pa_nil)))) (pgT K rfl rfl (pgs_cons (pg_name (i := 3) nd_run rfl (by first | exact Or.inl rfl | exact Or.inr rfl)) (pgs_cons (pg_name (i := 4) nd_run rfl (by first | exact Or.inl rfl | exact Or.inr rfl)) (pgs_cons (pg_name (i := 5) nd_run rfl (by first | exact Or.inl rfl | exact Or.inr rfl)) pgs_nil)))))
      (pss_cons (ps_if (pt_cmpR op_isN (pv 4) pe_non (nomark _)) (pss_one (ps_ret (pe_tup (pa_cons pe_str (pa_cons (pe_fld (pv 3) rfl) (pa_cons (pe_fld (pv 3) rfl) (pa_cons (pv 5) pa_nil))))))) pss_nil)
      pss_never))), ?_⟩
    refine ⟨_, rfl, _, rfl, _, rfl, v, S, z, b, F, rfl, hv, ak, fun H1 s1 => ?_⟩
    refine ⟨_, rfl, _, rfl, _, rfl, v, S, z, b, F, rfl, hv.same s1, ak, fun H2 t L s2 ht hp hs hh => ?_⟩
    refine ⟨t, _, rfl, ht, rfl, _, _, rfl, _, _, rfl, _, _, rfl, rfl, ?_⟩
    refine ⟨_, rfl, rfl, _, rfl, iteT ?_⟩
    refine ⟨_, rfl, L.s, a.cP, _, _, _, rfl, hp.s, T.clP, T.noP _ (by simp), rfl, _, rfl, L.s, a.cP, _, _, _, rfl, hp.s, T.clP, T.noP _ (by simp), rfl, _, rfl, small_le (by show 4 ≤ 1000000; decide), fun t2 ht2 => ?_⟩
    exact k _ t2 ((s1.trans s2).trans (same_new ht2)) (.tup (SqT.of upd_same) (.cons (.str _) (.cons (.str _) (.cons (.int _) (.cons (.int _) .nil)))))
theorem fk2_state_after (T : Txt K mg w a) : Fk2 P w K mg base "state_after" 14 ["program", "word", "picks"] (spAfter K) := by
  have F_need_picks := fk_need_picks (P := P) (base := base) T
  have F_followed_play := fk_followed_play (P := P) (base := base) T
  refine (show Df K mg "state_after" (top 74) from T.fn 41 _ rfl).fk2 sc_state_after (fun vs H Q E h => ?_) (fun _ _ _ _ _ _ us hl => match us, hl with | [_, _, _], _ => rfl) rfl (fun _ _ _ _ _ _ _ _ _ => rfl) fun f cdv A outer s H vs Q E hr h => ?_
  · obtain ⟨v, S, z, b, F, rfl, _⟩ := h
    rfl
  · obtain ⟨v, S, z, b, F, rfl, hv, ak, htp, k⟩ := h
    have hu := hu_of hr
    obtain ⟨p, x, y, u, rfl, hp0, e1, e2, e3⟩ := tp_three hv
    obtain ⟨px, xs, rfl, hx, rx⟩ := tp_tup e1
    obtain ⟨py, ys, rfl, hy, ry⟩ := tp_tup e2
    rw [htp] at rx
    obtain ⟨x1, r1, rfl, hx1, rx⟩ := tpa_cons rx
    cases tpa_nil rx
    obtain ⟨tt, ty, rfl, htt, _⟩ := tp_encD hx1
    refine ⟨_, (pss_cons (ps_expr (pe_f (F_need_picks) (hr.mono (by decide)) rfl (pa_cons (pv 0) (pa_cons (pv 1) (pa_cons (pv 2) pa_nil)))))
      (pss_cons (ps_set (i := 3) nd_state_after rfl (by first | exact Or.inl rfl | exact Or.inr rfl) (pe_ix (ixT K rfl) (pe_f (F_followed_play) (hr.mono (by decide)) rfl (pa_cons (pv 0) (pa_cons (pv 1) (pa_cons (pv 2) pa_nil)))) pe_int (fun _ _ => rfl)))
      (pss_cons (ps_set (i := 4) nd_state_after rfl (by first | exact Or.inl rfl | exact Or.inr rfl) (pe_lst pa_nil))
      (pss_cons (ps_for PassesOwn.never rfl (pi_tup (pe_ix (ixT K rfl) (pv 0) pe_int (fun _ _ => rfl))) (pgT K rfl rfl (pgs_cons (pg_name (i := 5) nd_state_after rfl (by first | exact Or.inl rfl | exact Or.inr rfl)) (pgs_cons (pg_name (i := 6) nd_state_after rfl (by first | exact Or.inl rfl | exact Or.inr rfl)) pgs_nil))) (pss_cons (ps_set (i := 7) nd_state_after rfl (by first | exact Or.inl rfl | exact Or.inr rfl) (pe_dget hu (pe_fld (pv 3) rfl) (pv 5) (fun _ _ => rfl)))
      (pss_one (ps_expr (pe_bm PySem.F.plainAttrs_list PySem.F.slot_list_append PySem.F.type_list_append mt_append (pv 4) (pa_cons (pe_callTy call_tuple_of (by rfl) T.tuple (by decide +kernel) (pa_cons (pe_lc (own := [("place", 8)]) (by rfl) nd_state_after (pi_range1 (by rfl) T.range (pa_cons (pe_dget hu (pe_fld (pe_fld (pv 3) rfl) rfl) (pv 5) (fun _ _ => rfl)) pa_nil)) (blkOk_by (own := [("place", 8)]) (N := N_state_after) (sc := defScope S_state_after) (by decide +kernel)) (fun _ _ _ _ _ => (pg_name (i := 8) nd_state_after rfl (by first | exact Or.inl rfl | exact Or.inr rfl))) (fun _ _ _ _ _ => pts_nil) (fun _ _ _ _ _ => (pe_dget1 hu (pv 7) (pv 8) ⟨rfl, rfl, rfl, rfl⟩))) pa_nil)) pa_nil))))))
      (pss_one (ps_ret (pe_tup (pa_cons (pe_callTy call_tuple_of (by rfl) T.tuple (by decide +kernel) (pa_cons (pv 4) pa_nil)) (pa_cons (pe_callTy call_tuple_of (by rfl) T.tuple (by decide +kernel) (pa_cons (pe_lc (g := gTup K 2 (gCons (gName 5) (gCons (gName 9) gNil))) (own := [("name", 5), ("bound", 9)]) (by rfl) nd_state_after (pi_tup (pe_ix (ixT K rfl) (pv 0) pe_int (fun _ _ => rfl))) (blkOk_by (own := [("name", 5), ("bound", 9)]) (N := N_state_after) (sc := defScope S_state_after) (by decide +kernel)) (fun _ _ _ _ _ => (pgT K rfl rfl (pgs_cons (pg_name (i := 5) nd_state_after rfl (by first | exact Or.inl rfl | exact Or.inr rfl)) (pgs_cons (pg_name (i := 9) nd_state_after rfl (by first | exact Or.inl rfl | exact Or.inr rfl)) pgs_nil)))) (fun _ _ _ _ _ => pts_nil) (fun _ _ _ _ _ => (pe_dget hu (fldK K rfl (pv 3) rfl) (pv 5) (fun _ _ => rfl)))) pa_nil)) pa_nil))))))))), ?_⟩
    refine ⟨_, rfl, _, rfl, _, rfl, _, S, z, b, F, rfl, hv, ak, fun H1 s1 => ?_⟩
    refine ⟨_, rfl, _, rfl, _, rfl, _, S, z, b, F, rfl, hv.same s1, ak, fun H2 t L s2 ht hp hs hh => ?_⟩
    refine ⟨_, _, _, _, rfl, rfl, ht, rfl, ?_⟩
    refine ⟨Nat.zero_le _, fun lt hlt => ?_⟩
    have s12 := s1.trans s2
    have s3 : Same H2 (upd H2 lt (.lst [])) := same_new hlt
    have hlt0 : H lt = none := none_of_same s12 hlt
    obtain ⟨hds, _, _, kvs, hhd, hhv⟩ := hh
    obtain ⟨pd, hv1, hv2, _⟩ := hhv (("t" : Str), ([(0, 1)] : Poly)) (by rw [htp]; exact List.mem_cons_self ..)
    have hsz : valV (szs S z.cps.size) (.inr "t") = some (.int 1) := by
      rw [szs, htp]
      show valV [((.inr "t" : Key), V.int ((pval [(0, 1)] z.cps.size : Nat) : Int)), _] _ = _
      rw [valV_pos rfl, pval_one]
      rfl
    refine ⟨_, rfl, _, _, _, _, rfl, rfl, (s12.trans s3).tq hp0, rfl, px, rfl, ⟨_, (s12.trans s3).tq hx⟩, ?_⟩
    refine for_it (walk_tup (xs := [V.ref tt])) (fun i σ H' => ∃ z5 z6 z7 acc, σ = [some (.ref p), some (.str z), some (.str ""), some (.ref L.s), some (.ref lt), z5, z6, z7, none, none] ∧ Same H2 H' ∧ H' lt = some (.lst acc) ∧ TpAll K H' acc (List.replicate i (.tuple [.none]))) ⟨none, none, none, [], rfl, s3, upd_same, .nil⟩ (fun i σ H' _ ⟨_, _, _, _, _, s4, _⟩ => (s12.trans s4).tq hx) ?_ ?_
    · rintro i x2 σ H3 H4 hi ⟨z5, z6, z7, acc, rfl, s4, hl4, hacc⟩ ⟨rfl, hx2⟩
      have hi0 : i = 0 := by
        have : i < 1 := hi
        omega
      subst hi0
      cases Option.some.inj hx2
      cases tpa_nil hacc
      have hp4 := hp.same s4
      have hs4 := hs.stay hp s4.stay
      refine ⟨tt, _, rfl, (s12.trans s4).tq htt, rfl, _, _, rfl, _, _, rfl, rfl, ?_⟩
      refine ⟨_, rfl, L.s, a.cP, _, _, _, rfl, hp4.s, T.clP, T.noP _ (by simp), rfl, _, rfl, L.hd, .ref pd, rfl, by have := DGet.k (k := .inr "t") (s4 _ _ hhd); rw [hv1] at this; exact this, ?_⟩
      refine ⟨_, rfl, .inl ⟨rfl, _, SqL.of hl4⟩, ?_⟩
      refine ⟨_, rfl, L.s, a.cP, _, _, _, rfl, hp4.s, T.clP, T.noP _ (by simp), rfl, L.st, a.cS, _, _, _, rfl, hs4.st, T.clS, T.noS _ (by simp), rfl, _, rfl, L.ds, .int 1, rfl, by have := DGet.k (k := .inr "t") (s4 _ _ hds); rw [hsz] at this; exact this, 1, rfl, by decide, by decide, fun D hD => ?_⟩
      refine lc_all (walk_range (lo := 0) (n := 1)) hD (small_line (by decide)) [.non] rfl (fun _ _ => True.intro) ?_ ?_
      · rintro j x3 H5 H6 hj s5 ⟨rfl, rfl⟩ Kq q
        have hj0 : j = 0 := by omega
        subst hj0
        refine ⟨rfl, _, rfl, pd, rfl, .inl ⟨[], .inl ((s4.trans s5) _ _ hv2)⟩, _, rfl, none, DGet.k (k := .inl (0 + ((0 : Nat) : Int))) ((s4.trans s5) _ _ hv2), ?_⟩
        exact q _ _ (Same.refl _) rfl
      · intro H5 s5 h5
        refine ⟨D, _, rfl, .inl ⟨SqL.of h5, fun l hl => ?_⟩⟩
        have s6 := s5.trans (same_new (o := .tup [.non]) hl)
        have hl6 := s6 _ _ hl4
        refine ⟨lt, [], _, rfl, rfl, hl6, small_line (Nat.zero_le _), ?_⟩
        refine ⟨_, _, _, _, rfl, (s4.trans s6).upd hlt, upd_same, .cons (.tup (((Kept.refl _).write hl6 True.intro).tq (SqT.of upd_same)) (.cons .non .nil)) .nil⟩
    · rintro σ H3 ⟨z5, z6, z7, acc, rfl, s4, hl4, hacc⟩
      have hp4 := hp.same s4
      have hla := hacc.len
      refine ⟨_, rfl, lt, _, rfl, .inl ⟨SqL.of hl4, fun l hl => ?_⟩⟩
      have s5 : Same H3 (upd H3 l (.tup acc)) := same_new hl
      have hp5 := hp4.same s5
      have s15 := (s12.trans s4).trans s5
      refine ⟨_, rfl, _, _, _, _, rfl, rfl, s15.tq hp0, rfl, py, rfl, ⟨_, s15.tq hy⟩, fun D hD => ?_⟩
      have dy : Decl K H (S.names 1) ys := decl_of (g := encD) (nmf := Prod.fst) (rest := fun d => encP d.2) (fun d => rfl) ry
      refine lc_all walk_tup hD (small_line (by rw [dy.1]; show 2 ≤ 1000000; decide)) [.int (F.i : Int), .int (F.j : Int)] (by rw [dy.1]; rfl) (fun H5 s6 => s6.tq (s15.tq hy)) ?_ ?_
      · rintro i x1 H5 H6 hi s6 ⟨rfl, hx1⟩ Kq q
        obtain ⟨t3, zz, yy, rfl, ez, ht3⟩ := ((dy.same s15).same s6).2 i x1 hx1
        have hp6 := hp5.same s6
        have hnum : ∃ b, zz = ixn b ∧ ([V.int (F.i : Int), .int (F.j : Int)])[i]? = some (.int ((if b then F.j else F.i : Nat) : Int)) := by
          match i, ez with
          | 0, ez => exact ⟨false, (Option.some.inj ez).symm, rfl⟩
          | 1, ez => exact ⟨true, (Option.some.inj ez).symm, rfl⟩
          | i + 2, ez => cases ez
        obtain ⟨b2, rfl, hb2⟩ := hnum
        refine ⟨t3, _, rfl, ht3, rfl, _, _, rfl, _, _, rfl, rfl, rfl, ?_⟩
        refine ⟨_, rfl, L.s, a.cP, _, _, _, rfl, hp6.s, T.clP, T.noP _ (by simp), rfl, _, rfl, L.nu, _, rfl, (nums_get F.i F.j b2) ▸ DGet.k hp6.nu, ?_⟩
        exact q _ _ (Same.refl _) hb2
      · intro H5 s6 h5
        refine ⟨D, _, rfl, .inl ⟨SqL.of h5, fun l2 hl2 => ⟨small_le (by show 2 ≤ 1000000; decide), fun t4 ht4 => ?_⟩⟩⟩
        have s7 : Same H5 (upd H5 l2 (.tup [.int (F.i : Int), .int (F.j : Int)])) := same_new hl2
        have s8 := same_new (o := .tup [.ref l, .ref l2]) ht4
        refine k _ t4 (((s15.trans s6).trans s7).trans s8) (.tup (SqT.of upd_same) (.cons (.tup (((s6.trans s7).trans s8).tq (SqT.of upd_same)) (hacc.same (((s5.trans s6).trans s7).trans s8))) (.cons (.tup (s8.tq (SqT.of upd_same)) (.cons (.int _) (.cons (.int _) .nil))) .nil)))
end
end NPK
set_option Elab.async false
set_option linter.all false
set_option maxRecDepth 100000
set_option maxHeartbeats 4000000
namespace NPK
open PySem PySem.Spec PyProof.Rows L2 NP
/-! ### a tuple that is not empty, times 0, 1 or more -/
theorem tuple_mul1 (l : Addr) (items : Array Value) (n : Nat) (dd : Option Addr) (sl : Array (Option Value)) (u : Tok) (c1 : (items.isEmpty || (1 : Int) == 1) = true) :
    Meets (Builtin.«tuple.__mul__» ⟨[.ref l, .int 1 u], []⟩) (fun _ R s => s.heap.get? l = some { cls := .type "tuple", dict := dd, data := .seq items n, slots := sl } ∧ R (.ok (.ret (Value.ref l))) s) :=
  .of_wp fun prog w A R s h => by
    obtain ⟨hp, g, d, tk, os⟩ := s
    obtain ⟨hl, h⟩ := h
    have f1 := AutoSeq1.idx_int
    have f2 := AutoSeq1.sub_tuple_tuple
    wp_walk using wpAny_loadPart' hl
    repeat (first
      | (refine wpAny_ite_false (decide_eq_false (by decide)) ?_; wp_walk using wpAny_loadPart' hl)
      | (refine wpAny_ite_true (decide_eq_true (by rw [c1])) ?_; wp_walk using wpAny_loadPart' hl)
      | (refine wpAny_ite_true c1 ?_; wp_walk using wpAny_loadPart' hl))
    exact ⟨_, rfl, h⟩
theorem tuple_mul0 (l : Addr) (items : Array Value) (n : Nat) (dd : Option Addr) (sl : Array (Option Value)) (u : Tok) (c1 : (items.isEmpty || (0 : Int) == 1) = false) :
    Meets (Builtin.«tuple.__mul__» ⟨[.ref l, .int 0 u], []⟩) (fun _ R s => s.heap.get? l = some { cls := .type "tuple", dict := dd, data := .seq items n, slots := sl } ∧
      R (.ok (.ret (Value.ref s.heap.objs.size))) { s with heap := s.heap.push { cls := Value.type "tuple", data := Data.seq #[] }, toks := s.toks }) :=
  .of_wp fun prog w A R s h => by
    obtain ⟨hp, g, d, tk, os⟩ := s
    obtain ⟨hl, h⟩ := h
    have f1 := AutoSeq1.idx_int
    wp_walk using wpAny_loadPart' hl
    repeat (first
      | (refine wpAny_ite_false (decide_eq_false (by decide)) ?_; wp_walk using wpAny_loadPart' hl)
      | (refine wpAny_ite_false (decide_eq_false (by rw [c1]; exact Bool.false_ne_true)) ?_; wp_walk using wpAny_loadPart' hl)
      | (refine wpAny_ite_true (decide_eq_true (by rfl)) ?_; wp_walk using wpAny_loadPart' hl))
    exact ⟨_, rfl, h⟩
def rRepA (K : PySem.W.Frag) : R2 := fun x y H Q => ∃ l xs, ∃ k : Nat, x = .ref l ∧ y = .int (k : Int) ∧ SqT K H l xs ∧ xs ≠ [] ∧ k ≤ 1000 ∧ xs.length ≤ 1000 ∧ ∀ H' p, Same H H' → SqT K H' p (List.replicate k xs).flatten → Q (.ref p) H'
theorem op_repA {X : Cx} : OpR X (binaryOp .Mult) (rRepA X.K) := by
  intro pins s σ H x y v u Q I rx ry h
  obtain ⟨l, xs, k, rfl, rfl, hT, hne, h2, hz, q⟩ := h
  match k, h2, ry, q with
  | k + 2, h2, ry, q =>
    refine op_repT pins s σ H _ _ v u Q I rx ry ⟨l, ((k + 2 : Nat) : Int), xs, rfl, rfl, hT, hne, by omega, by omega, hz, fun p hp => q _ p (same_new hp) ?_⟩
    rw [show (((k + 2 : Nat) : Int)).toNat = k + 2 from rfl]
    exact SqT.of upd_same
  | 1, h2, ry, q =>
    cases rx
    obtain ⟨t, rfl⟩ := ry
    obtain ⟨its, r, ⟨⟨cls, dd, data, sl⟩, ho, hc, n, hd⟩, hs⟩ := I.tuple hT
    simp only at hc hd
    subst hc hd
    refine wpAny_binaryOp_repeat_ref (T := "tuple") (U := "int") (by decide) ⟨_, ho, rfl⟩ (fun s' => typeIs_int s' _ t) noFill_tuple_mul F.fills_int_mul F.slot_int_rmul repeat_tuple F.slot_int_index.lookup
      (call_meets F.slot_int_rmul (typeIs_int s _ t) F.entry_int_rmul (F.args_int_rmul_2 _ _) (int_rmul_tuple _ t l its.toArray n dd sl)
        ⟨ho, rfl, ⟨_, ho, rfl⟩, call_meets F.slot_tuple_mul ⟨_, ho, rfl⟩ F.entry_tuple_mul (F.args_tuple_mul_2 _ _) (tuple_mul1 l its.toArray n dd sl t (by simp)) ⟨ho, ?_⟩⟩)
    exact ⟨.ref l, H, I, rfl, q H l (Same.refl _) (by simpa using hT)⟩
  | 0, h2, ry, q =>
    cases rx
    obtain ⟨t, rfl⟩ := ry
    obtain ⟨its, r, ⟨⟨cls, dd, data, sl⟩, ho, hc, n, hd⟩, hs⟩ := I.tuple hT
    simp only at hc hd
    subst hc hd
    have hi : its.toArray.isEmpty = false := by
      have hle := r.length
      cases its with
      | nil => exact absurd (List.eq_nil_of_length_eq_zero hle) hne
      | cons a b => rfl
    refine wpAny_binaryOp_repeat_ref (T := "tuple") (U := "int") (by decide) ⟨_, ho, rfl⟩ (fun s' => typeIs_int s' _ t) noFill_tuple_mul F.fills_int_mul F.slot_int_rmul repeat_tuple F.slot_int_index.lookup
      (call_meets F.slot_int_rmul (typeIs_int s _ t) F.entry_int_rmul (F.args_int_rmul_2 _ _) (int_rmul_tuple _ t l its.toArray n dd sl)
        ⟨ho, rfl, ⟨_, ho, rfl⟩, call_meets F.slot_tuple_mul ⟨_, ho, rfl⟩ F.entry_tuple_mul (F.args_tuple_mul_2 _ _) (tuple_mul0 l its.toArray n dd sl t (by rw [hi]; rfl)) ⟨ho, ?_⟩⟩)
    have hf : H s.heap.objs.size = none := I.hok.fresh (Nat.le_refl _)
    refine ⟨.ref s.heap.objs.size, _, I.laid (t' := s.toks) (o := .tup []) (fun b ob q => Heap.get?_push_of_some _ q) (Nat.le_refl _) ?_, rfl, q _ _ (same_new hf) (SqT.of upd_same)⟩
    exact ⟨Nat.zero_le _, [], .nil, IsTup.new _ _⟩
theorem repA {X : Cx} (K : PySem.W.Frag) (h : X.K = K) : OpR X (binaryOp .Mult) (rRepA K) := h ▸ op_repA
end NPK
set_option Elab.async false
set_option linter.all false
set_option maxRecDepth 100000
set_option maxHeartbeats 2000000
namespace NPK
open PySem PySem.Spec PyProof.Rows L2 NP
/-! ### the law's deck -/
def dk (l : Addr) (m q : Int) : List (Key × V) := [(.inr "left", .ref l), (.inr "mixed", .int m), (.inr "draws", .int q)]
theorem kne {a b : Str} (h : (a == b) = false := by decide +kernel) : ¬ ((.inr a : Key) = .inr b) := fun e => by
  cases Sum.inr.inj e
  simp at h
theorem dk_left (l : Addr) (m q : Int) : valV (dk l m q) (.inr "left") = some (.ref l) := valV_pos rfl
theorem dk_mixed (l : Addr) (m q : Int) : valV (dk l m q) (.inr "mixed") = some (.int m) := (valV_neg (kne (a := "left") (b := "mixed"))).trans (valV_pos rfl)
theorem dk_draws (l : Addr) (m q : Int) : valV (dk l m q) (.inr "draws") = some (.int q) := (valV_neg (kne (a := "left") (b := "draws"))).trans ((valV_neg (kne (a := "mixed") (b := "draws"))).trans (valV_pos rfl))
theorem dk_pdraws (l : Addr) (m q r : Int) : putK (dk l m q) (.inr "draws") (.int r) = dk l m r := by
  have h1 := kne (a := "left") (b := "draws")
  have h2 := kne (a := "mixed") (b := "draws")
  simp [putK, dk, h1, h2]
theorem dk_pmixed (l : Addr) (m q r : Int) : putK (dk l m q) (.inr "mixed") (.int r) = dk l r q := by
  have h1 := kne (a := "left") (b := "mixed")
  have h2 := kne (a := "draws") (b := "mixed")
  simp [putK, dk, h1, h2]
/-- the deck at d, its list at l -/
def Deck (H : Hp) (d l : Addr) : Prop := ∃ m q : Int, ∃ ns : List Int, H d = some (.dK (dk l m q)) ∧ H l = some (.lst (ns.map V.int)) ∧ ns.length ≤ 63 ∧ 0 ≤ m ∧ m < 2147483648
/-- all stays but the deck -/
def Dst (d l : Addr) (H H' : Hp) : Prop := ∀ b o, b ≠ d → b ≠ l → H b = some o → H' b = some o
section
variable {d l : Addr} {H H1 H2 : Hp}
theorem Dst.refl : Dst d l H H := fun _ _ _ _ h => h
theorem Dst.trans (a : Dst d l H H1) (b : Dst d l H1 H2) : Dst d l H H2 := fun x o n1 n2 h => b x o n1 n2 (a x o n1 n2 h)
theorem _root_.L2.Same.dst (s : Same H H1) : Dst d l H H1 := fun x o _ _ h => s x o h
theorem Dst.setD {o : HO} (a : Dst d l H H1) : Dst d l H (upd H1 d o) := fun x u n1 n2 h => by
  rw [upd_ne n1]
  exact a x u n1 n2 h
theorem Dst.setL {o : HO} (a : Dst d l H H1) : Dst d l H (upd H1 l o) := fun x u n1 n2 h => by
  rw [upd_ne n2]
  exact a x u n1 n2 h
theorem Deck.same (D : Deck H d l) (s : Same H H1) : Deck H1 d l := by
  obtain ⟨m, q, ns, h1, h2, r⟩ := D
  exact ⟨m, q, ns, s _ _ h1, s _ _ h2, r⟩
theorem Deck.kept (D : Deck H d l) (a : Dst d l H H1) : Kept H H1 := by
  obtain ⟨m, q, ns, h1, h2, _⟩ := D
  refine ⟨fun b xs h => a b _ ?_ ?_ h, fun b o u h => a b _ ?_ ?_ h⟩
  · rintro rfl
    rw [h1] at h
    cases h
  · rintro rfl
    rw [h2] at h
    cases h
  · rintro rfl
    rw [h1] at h
    cases h
  · rintro rfl
    rw [h2] at h
    cases h
theorem Deck.ne (D : Deck H d l) : d ≠ l := by
  obtain ⟨m, q, ns, h1, h2, _⟩ := D
  rintro rfl
  rw [h1] at h2
  cases h2
end
theorem _root_.L2.Same.sl {K : PySem.W.Frag} {H H' : Hp} {a : Addr} {xs : List V} (s : Same H H') (h : SqL K H a xs) : SqL K H' a xs := by
  rcases h with h | h
  · exact .inl (s.rd h)
  · exact .inr h
theorem dk_merge (l : Addr) (m q : Int) : mergeK [] (dk l m q) = dk l m q := by
  have h1 := kne (a := "left") (b := "mixed")
  have h2 := kne (a := "left") (b := "draws")
  have h3 := kne (a := "mixed") (b := "draws")
  simp [mergeK, putK, dk, h1, h2, h3]
theorem i1 : (0 : Int) < 2147483647 := by decide
theorem i2 : (0 : Int) < 2147483563 := by decide
theorem i4 : (0 : Int) < 2147483587 := by decide
theorem i3 : (0 : Int) < 2147483629 := by decide
/-! the law's own -/
abbrev S_law_deck : Stmt := top 76
abbrev N_law_deck : List Str := ["_law_script", "_law_mixed", "_law_cell"]
theorem sc_law_deck : FnScope N_law_deck ["_law_script"] (defScope S_law_deck) := ⟨rfl, rfl, rfl, by decide +kernel, rfl, by decide +kernel, by decide +kernel⟩
theorem nd_law_deck : N_law_deck.Nodup := sc_law_deck.nd
abbrev S_law_draw : Stmt := top 77
abbrev N_law_draw : List Str := ["_law_deck_here", "_law_many", "_law_cell", "_law_figure"]
theorem sc_law_draw : FnScope N_law_draw ["_law_deck_here", "_law_many"] (defScope S_law_draw) := ⟨rfl, rfl, rfl, by decide +kernel, rfl, by decide +kernel, by decide +kernel⟩
theorem nd_law_draw : N_law_draw.Nodup := sc_law_draw.nd
abbrev S_law_pick : Stmt := top 78
abbrev N_law_pick : List Str := ["_law_deck_here", "_law_some"]
theorem sc_law_pick : FnScope N_law_pick ["_law_deck_here", "_law_some"] (defScope S_law_pick) := ⟨rfl, rfl, rfl, by decide +kernel, rfl, by decide +kernel, by decide +kernel⟩
theorem nd_law_pick : N_law_pick.Nodup := sc_law_pick.nd
abbrev S_law_value : Stmt := top 79
abbrev N_law_value : List Str := ["_law_poly", "_law_n", "_law_found", "_law_many", "_law_number", "_law_turn"]
theorem sc_law_value : FnScope N_law_value ["_law_poly", "_law_n"] (defScope S_law_value) := ⟨rfl, rfl, rfl, by decide +kernel, rfl, by decide +kernel, by decide +kernel⟩
theorem nd_law_value : N_law_value.Nodup := sc_law_value.nd
abbrev S_law_drawn_rounds : Stmt := top 80
abbrev N_law_drawn_rounds : List Str := ["_law_deck_here"]
theorem sc_law_drawn_rounds : FnScope N_law_drawn_rounds ["_law_deck_here"] (defScope S_law_drawn_rounds) := ⟨rfl, rfl, rfl, by decide +kernel, rfl, by decide +kernel, by decide +kernel⟩
theorem nd_law_drawn_rounds : N_law_drawn_rounds.Nodup := sc_law_drawn_rounds.nd
def spDeck (K : PySem.W.Frag) : Sp := fun vs H Q _ => ∃ a, ∃ ns : List Int, vs = [.ref a] ∧ SqL K H a (ns.map V.int) ∧ ∀ H' d l, Same H H' → H d = none → H l = none → Deck H' d l → Q (.ref d) H'
def spDraw : Sp := fun vs H Q _ => ∃ d l, ∃ many : Nat, vs = [.ref d, .int (many : Int)] ∧ Deck H d l ∧ 1 ≤ many ∧ many ≤ 64 ∧ ∀ H' (r : Nat), Dst d l H H' → Deck H' d l → r < many → Q (.int (r : Int)) H'
def spPick : Sp := fun vs H Q _ => ∃ d l a xs, vs = [.ref d, .ref a] ∧ Deck H d l ∧ H a = some (.lst xs) ∧ a ≠ l ∧ xs ≠ [] ∧ xs.length ≤ 64 ∧ ∀ H' x, Dst d l H H' → Deck H' d l → x ∈ xs → Q x H'
def spVal (K : PySem.W.Frag) : Sp := fun vs H Q _ => ∃ v p, ∃ n : Nat, vs = [v, .int (n : Int)] ∧ Tp K H v (encP p) ∧ OkP p ∧ n ≤ 4 ∧ Q (.int ((pval p n : Nat) : Int)) H
def eight : List Poly := [[(0, 2)], [(1, 1)], [(0, 1), (1, 1)], [(0, 3)], [], [(0, 1)], [(1, 2)], [(2, 1)]]
def spRounds (K : PySem.W.Frag) : Sp := fun vs H Q _ => ∃ d l, vs = [.ref d] ∧ Deck H d l ∧ ∀ H' v p, Dst d l H H' → Deck H' d l → p ∈ eight → Tp K H' v (encP p) → Q v H'
section
variable {P : Program} {w : World} {K : PySem.W.Frag} {mg : Str → Option Value} {base : Heap} {a : Ads}
theorem cut63 (ns : List Int) : cutV (ns.map V.int) none (some 63) = (ns.take 63).map V.int := by
  unfold cutV
  rw [HT.sIx_none, show HT.sIx (ns.map V.int).length (ns.map V.int).length (some 63) = min 63 (ns.map V.int).length from HT.sIx_nat _ _ 63]
  rw [List.drop_zero, Nat.sub_zero, ← List.map_take]
  congr 1
  rw [List.take_eq_take_iff, List.length_map]
  omega
theorem fk_law_deck (T : Txt K mg w a) : Fk P w K mg base "_law_deck" 1 ["_law_script"] (spDeck K) := by
  refine (show Df K mg "_law_deck" (top 76) from T.fn 42 _ rfl).fk sc_law_deck (fun vs H Q E h => ?_) (fun _ _ _ _ _ _ us hl => match us, hl with | [_], _ => rfl) fun f cdv A outer s H vs Q E hr h => ?_
  · obtain ⟨p, ns, rfl, _⟩ := h
    rfl
  · obtain ⟨p, ns, rfl, hp, k⟩ := h
    refine ⟨_, (pss_cons (ps_set (i := 1) nd_law_deck rfl (by first | exact Or.inl rfl | exact Or.inr rfl) pe_int)
      (pss_cons (ps_for PassesOwn.never rfl (pi_list (pe_slice (slL K rfl) (pv 0) po_none (po_some pe_int))) (pg_name (i := 2) nd_law_deck rfl (by first | exact Or.inl rfl | exact Or.inr rfl)) (pss_one (ps_set (i := 1) nd_law_deck rfl (by first | exact Or.inl rfl | exact Or.inr rfl) (pe_op op_mod (pe_callTy call_int1 (by rfl) T.int (by decide +kernel) (pa_cons (pe_op op_add (pe_op op_add (pe_op op_mul (pv 1) pe_int) (pe_op op_mod (pe_callTy call_int1 (by rfl) T.int (by decide +kernel) (pa_cons (pv 2) pa_nil)) pe_int)) pe_int) pa_nil)) pe_int))))
      (pss_one (ps_ret (pe_disp (pps_cons pe_str (pe_revL (pe_callTy call_list_of (by rfl) T.list (by decide +kernel) (pa_cons (pe_slice (slL K rfl) (pv 0) po_none (po_some pe_int)) pa_nil))) (pps_cons pe_str (pv 1) (pps_cons pe_str pe_int pps_nil))) (by rfl) (by rfl) (fun z => by cases z) (by decide)))))), ?_⟩
    refine ⟨_, rfl, 63, rfl, p, _, rfl, hp, fun t ht => ?_⟩
    rw [cut63]
    have s1 : Same H (upd H t (.lst ((ns.take 63).map V.int))) := same_new ht
    have hlen : (ns.take 63).length ≤ 63 := by
      rw [List.length_take]
      omega
    refine ⟨t, rfl, ⟨_, SqL.of upd_same⟩, ?_⟩
    refine for_it walk_list (fun i σ H' => ∃ z2, ∃ m : Int, σ = [some (.ref p), some (.int m), z2] ∧ H' = upd H t (.lst ((ns.take 63).map V.int)) ∧ 0 ≤ m ∧ m < 2147483648) ⟨none, 15365015, rfl, rfl, by decide, by decide⟩ (fun i σ H' _ ⟨_, _, _, e, _⟩ => e ▸ SqL.of upd_same) ?_ ?_
    · rintro i x σ H2 H3 hi ⟨z2, m, rfl, rfl, m0, m1⟩ ⟨rfl, hx⟩
      rw [List.getElem?_map] at hx
      cases ec : (ns.take 63)[i]? with
      | none =>
        rw [ec] at hx
        cases hx
      | some c =>
      rw [ec] at hx
      cases hx
      refine ⟨_, rfl, _, _, rfl, rfl, .inr ⟨by decide, by decide⟩, _, rfl, .inl ⟨_, rfl, _, _, rfl, rfl, i1, _, _, rfl, rfl, _, _, rfl, rfl, .inl ⟨_, rfl, _, _, rfl, rfl, i2, ?_⟩⟩⟩
      refine ⟨_, _, rfl, rfl, Int.emod_nonneg _ (by decide), ?_⟩
      have := Int.emod_lt_of_pos (m * 40692 + c % 2147483647 + 31) (by decide : (0 : Int) < 2147483563)
      omega
    · rintro σ H2 ⟨z2, m, rfl, rfl, m0, m1⟩
      intro dd hdd
      have s2 : Same (upd H t (.lst ((ns.take 63).map V.int))) (upd (upd H t (.lst ((ns.take 63).map V.int))) dd (.dK [])) := same_new hdd
      refine ⟨_, rfl, 63, rfl, p, _, rfl, (s1.trans s2).sl hp, fun t2 ht2 => ⟨t2, _, rfl, .inl (SqL.of upd_same), fun l3 hl3 => ⟨l3, _, rfl, SqL.of upd_same, fun l hl => ⟨_, rfl, ?_⟩⟩⟩⟩
      rw [cut63, ← List.map_reverse] at *
      have s3 := (same_new (o := .lst ((ns.take 63).map V.int)) ht2).trans ((same_new (o := .lst ((ns.take 63).map V.int)) hl3).trans (same_new (o := .lst ((ns.take 63).reverse.map V.int)) hl))
      have hd3 := s3 _ _ (upd_same (H := upd H t (.lst ((ns.take 63).map V.int))) (a := dd) (o := .dK []))
      have hdd0 : H dd = none := none_of_same s1 hdd
      refine ⟨hd3, dk l m 0, rfl, (by show 3 ≤ 15; decide), ?_⟩
      rw [dk_merge]
      have hl0 : H l = none := none_of_same ((s1.trans s2).trans ((same_new (o := .lst ((ns.take 63).map V.int)) ht2).trans (same_new (o := .lst ((ns.take 63).map V.int)) hl3))) hl
      have nl : l ≠ dd := by
        rintro rfl
        rw [upd_same] at hd3
        cases hd3
      refine k _ dd l (((s1.trans s2).trans s3).upd hdd0) hdd0 hl0 ⟨m, 0, (ns.take 63).reverse, upd_same, ?_, ?_, m0, m1⟩
      · rw [upd_ne nl, upd_same]
      · rw [List.length_reverse]
        exact hlen
theorem fk_law_draw (T : Txt K mg w a) : Fk P w K mg base "_law_draw" 1 ["_law_deck_here", "_law_many"] spDraw := by
  refine (show Df K mg "_law_draw" (top 77) from T.fn 43 _ rfl).fk sc_law_draw (fun vs H Q E h => ?_) (fun _ _ _ _ _ _ us hl => match us, hl with | [_, _], _ => rfl) fun f cdv A outer s H vs Q E hr h => ?_
  · obtain ⟨d, l, many, rfl, _⟩ := h
    rfl
  · obtain ⟨d, l, many, rfl, hD, hm1, hm2, k⟩ := h
    have hu := hu_of hr
    have hne := hD.ne
    obtain ⟨m, q, ns, hd, hl, hn, m0, m1⟩ := hD
    have hmp : (0 : Int) < (many : Int) := by omega
    have fin : ∀ (H' : Hp) (x : Int), Dst d l H H' → Deck H' d l → Q (.int (x % (many : Int))) H' := fun H' x h1 h2 => by
      have e1 := Int.emod_nonneg x (by omega : (many : Int) ≠ 0)
      have e2 := Int.emod_lt_of_pos x hmp
      have := k H' (x % (many : Int)).toNat h1 h2 (by omega)
      rw [Int.toNat_of_nonneg e1] at this
      exact this
    refine ⟨_, (pss_cons (ps_dput hu (pv 0) pe_str (pe_op op_add (pe_dget hu (pv 0) pe_str (fun _ _ => rfl)) pe_int) rfl)
      (pss_cons (ps_if (pt_cmpR (neE K rfl hu) (pe_dget hu (pv 0) pe_str (fun _ _ => rfl)) (pe_lst pa_nil) (nomark _)) (pss_cons (ps_set (i := 2) nd_law_draw rfl (by first | exact Or.inl rfl | exact Or.inr rfl) (pe_bm0 PySem.F.plainAttrs_list PySem.F.slot_list_pop PySem.F.type_list_pop mt_pop (pe_dget hu (pv 0) pe_str (fun _ _ => rfl))))
      (pss_cons (ps_if (pt_cmpR op_ge (pv 2) (pe_op op_pow pe_int pe_int) (nomark _)) (pss_cons (ps_expr (pe_bm PySem.F.plainAttrs_list PySem.F.slot_list_append PySem.F.type_list_append mt_append (pe_dget hu (pv 0) pe_str (fun _ _ => rfl)) (pa_cons (pe_op op_fdiv (pv 2) (pe_callB (call_max2 rfl) (by rfl) T.max (by decide +kernel) (pa_cons pe_int (pa_cons (pv 1) pa_nil)))) pa_nil)))
      (pss_one (ps_ret (pe_op op_mod (pe_callTy call_int1 (by rfl) T.int (by decide +kernel) (pa_cons (pv 2) pa_nil)) (pv 1))))) pss_nil)
      (pss_one (ps_dput hu (pv 0) pe_str (pe_op op_mod (pe_callTy call_int1 (by rfl) T.int (by decide +kernel) (pa_cons (pe_op op_add (pe_op op_add (pe_op op_mul (pe_dget hu (pv 0) pe_str (fun _ _ => rfl)) pe_int) (pe_op op_mod (pe_callTy call_int1 (by rfl) T.int (by decide +kernel) (pa_cons (pv 2) pa_nil)) pe_int)) pe_int) pa_nil)) pe_int) rfl)))) pss_nil)
      (pss_cons (ps_set (i := 3) nd_law_draw rfl (by first | exact Or.inl rfl | exact Or.inr rfl) (pe_op op_mod (pe_callTy call_int1 (by rfl) T.int (by decide +kernel) (pa_cons (pe_op op_add (pe_dget hu (pv 0) pe_str (fun _ _ => rfl)) (pe_op op_mul pe_int (pe_dget hu (pv 0) pe_str (fun _ _ => rfl)))) pa_nil)) pe_int))
      (pss_cons (ps_set (i := 3) nd_law_draw rfl (by first | exact Or.inl rfl | exact Or.inr rfl) (pe_op op_mod (pe_callTy call_int1 (by rfl) T.int (by decide +kernel) (pa_cons (pe_op op_add (pe_op op_add (pe_op op_mul (pv 3) (pv 3)) (pe_op op_mul pe_int (pe_dget hu (pv 0) pe_str (fun _ _ => rfl)))) pe_int) pa_nil)) pe_int))
      (pss_cons (ps_set (i := 3) nd_law_draw rfl (by first | exact Or.inl rfl | exact Or.inr rfl) (pe_op op_mod (pe_callTy call_int1 (by rfl) T.int (by decide +kernel) (pa_cons (pe_op op_add (pe_op op_mul (pv 3) pe_int) pe_int) pa_nil)) pe_int))
      (pss_one (ps_ret (pe_op op_mod (pe_callTy call_int1 (by rfl) T.int (by decide +kernel) (pa_cons (pe_op op_fdiv (pv 3) pe_int) pa_nil)) (pv 1))))))))), ?_⟩
    refine ⟨_, rfl, d, _, rfl, dk_draws l m q ▸ DGet.k (k := .inr "draws") hd, _, _, rfl, rfl, _, rfl, d, _, rfl, DPut.k (k := .inr "draws") hd (small_line (by show 3 ≤ 1000000; decide)), ?_⟩
    rw [dk_pdraws]
    have y1 : Dst d l H (upd H d (.dK (dk l m (q + 1)))) := Dst.refl.setD
    have hd1 : (upd H d (.dK (dk l m (q + 1)))) d = some (.dK (dk l m (q + 1))) := upd_same
    have hl1 : (upd H d (.dK (dk l m (q + 1)))) l = some (.lst (ns.map V.int)) := by
      rw [upd_ne (Ne.symm hne)]
      exact hl
    generalize (upd H d (.dK (dk l m (q + 1)))) = H1 at y1 hd1 hl1 ⊢
    refine ⟨_, rfl, d, .ref l, rfl, dk_left l m (q + 1) ▸ DGet.k (k := .inr "left") hd1, Nat.zero_le _, fun t ht => ?_⟩
    have s2 : Same H1 (upd H1 t (.lst [])) := same_new ht
    have y2 := y1.trans s2.dst
    have hd2 := s2 _ _ hd1
    have hl2 := s2 _ _ hl1
    refine ⟨l, t, _, rfl, rfl, .inl ⟨SqL.of hl2, SqL.of upd_same⟩, _, rfl, ?_⟩
    generalize (upd H1 t (.lst [])) = H2 at y2 hd2 hl2 ⊢
    rcases List.eq_nil_or_concat ns with rfl | ⟨ns', c, rfl⟩
    · refine iteF ?_
      have g1 : DGet H2 d (kV (.inr "mixed")) (some (.int m)) := dk_mixed l m (q + 1) ▸ DGet.k hd2
      have g2 : DGet H2 d (kV (.inr "draws")) (some (.int (q + 1))) := dk_draws l m (q + 1) ▸ DGet.k hd2
      refine ⟨_, rfl, d, _, rfl, g1, _, rfl, d, _, rfl, g2, _, _, rfl, rfl, .inl ⟨by decide, by decide⟩, _, _, rfl, rfl, .inl ⟨_, rfl, _, _, rfl, rfl, i1, ?_⟩⟩
      have b1 := Int.emod_nonneg (m + 31337 * (q + 1)) (by decide : (2147483647 : Int) ≠ 0)
      have b2 := Int.emod_lt_of_pos (m + 31337 * (q + 1)) i1
      generalize hf1 : (m + 31337 * (q + 1)) % 2147483647 = f1 at b1 b2
      refine ⟨_, rfl, _, rfl, _, _, rfl, rfl, .inl ⟨by omega, by omega⟩, _, rfl, d, _, rfl, g2, _, _, rfl, rfl, .inl ⟨by decide, by decide⟩, _, _, rfl, rfl, _, _, rfl, rfl, .inl ⟨_, rfl, _, _, rfl, rfl, i3, ?_⟩⟩
      refine ⟨_, rfl, _, _, rfl, rfl, .inr ⟨by decide, by decide⟩, _, _, rfl, rfl, .inl ⟨_, rfl, _, _, rfl, rfl, i2, ?_⟩⟩
      refine ⟨_, rfl, _, _, rfl, rfl, ⟨by decide, by decide⟩, .inl ⟨_, rfl, _, rfl, _, _, rfl, rfl, hmp, ?_⟩⟩
      exact fin _ _ y2 ⟨m, q + 1, [], hd2, hl2, Nat.zero_le _, m0, m1⟩
    · rw [List.concat_eq_append, List.map_append] at hl2
      rw [List.concat_eq_append, List.map_append]
      have hn' : ns'.length ≤ 62 := by
        rw [List.concat_eq_append, List.length_append] at hn
        have h1 : [c].length = 1 := rfl
        omega
      have ne : (!(ns'.map V.int ++ [c].map V.int).isEmpty) = true := by cases ns' <;> rfl
      show if (!(ns'.map V.int ++ [c].map V.int).isEmpty) = true then _ else _
      rw [ne]
      refine iteT ⟨_, rfl, d, .ref l, rfl, dk_left l m (q + 1) ▸ DGet.k (k := .inr "left") hd2, .inl ⟨rfl, _, SqL.of hl2⟩, l, _, .int c, rfl, rfl, hl2, by simp, ?_⟩
      rw [show (ns'.map V.int ++ [c].map V.int).dropLast = ns'.map V.int from List.dropLast_concat]
      have y3 : Dst d l H (upd H2 l (.lst (ns'.map V.int))) := y2.setL
      have hd3 : (upd H2 l (.lst (ns'.map V.int))) d = some (.dK (dk l m (q + 1))) := by
        rw [upd_ne hne]
        exact hd2
      have hl3 : (upd H2 l (.lst (ns'.map V.int))) l = some (.lst (ns'.map V.int)) := upd_same
      generalize (upd H2 l (.lst (ns'.map V.int))) = H3 at y3 hd3 hl3 ⊢
      refine ⟨_, rfl, _, _, rfl, rfl, ⟨by decide, by decide, by decide⟩, _, _, rfl, rfl, _, rfl, ?_⟩
      by_cases hbig : (10 : Int) ^ (18 : Int).toNat ≤ c
      · rw [decide_eq_true hbig]
        refine iteT ⟨_, rfl, d, .ref l, rfl, dk_left l m (q + 1) ▸ DGet.k (k := .inr "left") hd3, .inl ⟨rfl, _, SqL.of hl3⟩, _, rfl, _, rfl, _, _, rfl, _, _, rfl, rfl, ⟨?_, ?_⟩, l, _, _, rfl, rfl, hl3, small_line (by rw [List.length_map]; omega), ?_⟩
        · split <;> omega
        · split <;> omega
        · refine ⟨_, rfl, .inl ⟨_, rfl, _, rfl, _, _, rfl, rfl, hmp, ?_⟩⟩
          refine fin _ _ y3.setL ⟨m, q + 1, ns' ++ [c / if (many : Int) > 2 then (many : Int) else 2], ?_, ?_, ?_, m0, m1⟩
          · rw [upd_ne hne]
            exact hd3
          · rw [upd_same, List.map_append]
            rfl
          · rw [List.length_append]
            show ns'.length + 1 ≤ 63
            omega
      · rw [decide_eq_false hbig]
        refine iteF ?_
        refine ⟨_, rfl, d, _, rfl, dk_mixed l m (q + 1) ▸ DGet.k (k := .inr "mixed") hd3, _, _, rfl, rfl, .inr ⟨by decide, by decide⟩, _, rfl, .inl ⟨_, rfl, _, _, rfl, rfl, i3, _, _, rfl, rfl, _, _, rfl, rfl, .inl ⟨_, rfl, _, _, rfl, rfl, i4, _, rfl, d, _, rfl, DPut.k (k := .inr "mixed") hd3 (small_line (by show 3 ≤ 1000000; decide)), ?_⟩⟩⟩
        rw [dk_pmixed]
        have m2 := Int.emod_nonneg (m * 39373 + c % 2147483629 + 1) (by decide : (2147483587 : Int) ≠ 0)
        have m3 := Int.emod_lt_of_pos (m * 39373 + c % 2147483629 + 1) i4
        generalize (m * 39373 + c % 2147483629 + 1) % 2147483587 = mm at m2 m3 ⊢
        have y4 : Dst d l H (upd H3 d (.dK (dk l mm (q + 1)))) := y3.setD
        have hd4 : (upd H3 d (.dK (dk l mm (q + 1)))) d = some (.dK (dk l mm (q + 1))) := upd_same
        have hl4 : (upd H3 d (.dK (dk l mm (q + 1)))) l = some (.lst (ns'.map V.int)) := by
          rw [upd_ne (Ne.symm hne)]
          exact hl3
        generalize (upd H3 d (.dK (dk l mm (q + 1)))) = H4 at y4 hd4 hl4 ⊢
        have g1 : DGet H4 d (kV (.inr "mixed")) (some (.int mm)) := dk_mixed l mm (q + 1) ▸ DGet.k hd4
        have g2 : DGet H4 d (kV (.inr "draws")) (some (.int (q + 1))) := dk_draws l mm (q + 1) ▸ DGet.k hd4
        refine ⟨_, rfl, d, _, rfl, g1, _, rfl, d, _, rfl, g2, _, _, rfl, rfl, .inl ⟨by decide, by decide⟩, _, _, rfl, rfl, .inl ⟨_, rfl, _, _, rfl, rfl, i1, ?_⟩⟩
        have b1 := Int.emod_nonneg (mm + 31337 * (q + 1)) (by decide : (2147483647 : Int) ≠ 0)
        have b2 := Int.emod_lt_of_pos (mm + 31337 * (q + 1)) i1
        generalize hf1 : (mm + 31337 * (q + 1)) % 2147483647 = f1 at b1 b2
        refine ⟨_, rfl, _, rfl, _, _, rfl, rfl, .inl ⟨by omega, by omega⟩, _, rfl, d, _, rfl, g2, _, _, rfl, rfl, .inl ⟨by decide, by decide⟩, _, _, rfl, rfl, _, _, rfl, rfl, .inl ⟨_, rfl, _, _, rfl, rfl, i3, ?_⟩⟩
        refine ⟨_, rfl, _, _, rfl, rfl, .inr ⟨by decide, by decide⟩, _, _, rfl, rfl, .inl ⟨_, rfl, _, _, rfl, rfl, i2, ?_⟩⟩
        refine ⟨_, rfl, _, _, rfl, rfl, ⟨by decide, by decide⟩, .inl ⟨_, rfl, _, rfl, _, _, rfl, rfl, hmp, ?_⟩⟩
        exact fin _ _ y4 ⟨mm, q + 1, ns', hd4, hl4, by omega, m2, by omega⟩
theorem fk_law_pick (T : Txt K mg w a) : Fk P w K mg base "_law_pick" 2 ["_law_deck_here", "_law_some"] spPick := by
  have F_law_draw := fk_law_draw (P := P) (base := base) T
  refine (show Df K mg "_law_pick" (top 78) from T.fn 44 _ rfl).fk sc_law_pick (fun vs H Q E h => ?_) (fun _ _ _ _ _ _ us hl => match us, hl with | [_, _], _ => rfl) fun f cdv A outer s H vs Q E hr h => ?_
  · obtain ⟨d, l, p, xs, rfl, _⟩ := h
    rfl
  · obtain ⟨d, l, p, xs, rfl, hD, hp, npl, hne, hl, k⟩ := h
    have npd : p ≠ d := by
      obtain ⟨m, q, ns, hd, _⟩ := hD
      rintro rfl
      rw [hp] at hd
      cases hd
    refine ⟨_, (pss_one (ps_ret (pe_ix (ixL K rfl) (pv 1) (pe_f (F_law_draw) (hr.mono (by decide)) rfl (pa_cons (pv 0) (pa_cons (pe_callB (lenS K rfl) (by rfl) T.len (by decide +kernel) (pa_cons (pv 1) pa_nil)) pa_nil))) (fun _ _ => rfl)))), ?_⟩
    refine ⟨_, rfl, _, rfl, _, rfl, _, _, rfl, .inl (SqL.of hp), d, l, xs.length, rfl, hD, ?_, hl, fun H1 r y1 hD1 hr1 => ?_⟩
    · cases xs with
      | nil => exact absurd rfl hne
      | cons x r => exact Nat.succ_pos _
    · have hp1 := y1 _ _ npd npl hp
      exact ⟨p, xs, _, xs[r], rfl, rfl, SqL.of hp1, atI_nat (List.getElem?_eq_getElem hr1), k H1 _ y1 hD1 (List.getElem_mem ..)⟩
theorem fk_law_value (T : Txt K mg w a) : Fk P w K mg base "_law_value" 1 ["_law_poly", "_law_n"] (spVal K) := by
  refine (show Df K mg "_law_value" (top 79) from T.fn 45 _ rfl).fk sc_law_value (fun vs H Q E h => ?_) (fun _ _ _ _ _ _ us hl => match us, hl with | [_, _], _ => rfl) fun f cdv A outer s H vs Q E hr h => ?_
  · obtain ⟨v, p, n, rfl, _⟩ := h
    rfl
  · obtain ⟨v, p, n, rfl, hv, ok, hn, k⟩ := h
    obtain ⟨b, xs, rfl, hs, r⟩ := tp_tup hv
    have hl : xs.length = p.length := by rw [r.len, List.length_map]
    refine ⟨_, (pss_cons (ps_set (i := 2) nd_law_value rfl (by first | exact Or.inl rfl | exact Or.inr rfl) pe_int)
      (pss_cons (ps_for PassesOwn.never rfl (pi_tup (pv 0)) (pgT K rfl rfl (pgs_cons (pg_name (i := 3) nd_law_value rfl (by first | exact Or.inl rfl | exact Or.inr rfl)) (pgs_cons (pg_name (i := 4) nd_law_value rfl (by first | exact Or.inl rfl | exact Or.inr rfl)) pgs_nil))) (pss_cons (ps_for PassesOwn.never rfl (pi_range1 (by rfl) T.range (pa_cons (pv 3) pa_nil)) (pg_name (i := 5) nd_law_value rfl (by first | exact Or.inl rfl | exact Or.inr rfl)) (pss_one (ps_set (i := 4) nd_law_value rfl (by first | exact Or.inl rfl | exact Or.inr rfl) (pe_op op_mul (pv 4) (pv 1)))))
      (pss_one (ps_set (i := 2) nd_law_value rfl (by first | exact Or.inl rfl | exact Or.inr rfl) (pe_op op_add (pv 2) (pv 4))))))
      (pss_one (ps_ret (pv 2))))), ?_⟩
    refine ⟨_, rfl, b, rfl, ⟨_, hs⟩, ?_⟩
    refine for_it walk_tup (fun i σ H' => ∃ z3 z4 z5, σ = [some (.ref b), some (.int (n : Int)), some (.int ((pval (p.take i) n : Nat) : Int)), z3, z4, z5] ∧ H' = H) ⟨none, none, none, rfl, rfl⟩ (fun i σ H' _ ⟨_, _, _, _, e⟩ => e ▸ hs) ?_ ?_
    · rintro i x σ H1 H2 hi ⟨z3, z4, z5, rfl, rfl⟩ ⟨rfl, hx⟩
      obtain ⟨q, hq, hm, bq, rfl, hbq⟩ := poly_at r hx
      refine ⟨bq, _, rfl, hbq, rfl, _, _, rfl, _, _, rfl, rfl, ?_⟩
      refine ⟨_, rfl, _, rfl, by omega, by have := ok.low q hm; omega, ?_⟩
      refine for_it (walk_range (lo := 0) (n := ((q.1 : Nat) : Int).toNat)) (fun j σ H' => ∃ z5, σ = [some (.ref b), some (.int (n : Int)), some (.int ((pval (p.take i) n : Nat) : Int)), some (.int (q.1 : Int)), some (.int ((q.2 * n ^ j : Nat) : Int)), z5] ∧ H' = H2) ⟨z5, by simp, rfl⟩ (fun _ _ _ _ _ => True.intro) ?_ ?_
      · rintro j x2 σ H3 H4 hj ⟨z6, rfl, rfl⟩ ⟨rfl, rfl⟩
        refine ⟨_, rfl, _, rfl, _, _, rfl, rfl, .inr ⟨by omega, by omega⟩, some (.int (0 + (j : Nat))), ?_, rfl⟩
        show [_, _, _, _, some (V.int (((q.2 * n ^ j : Nat) : Int) * (n : Int))), _] = [_, _, _, _, some (V.int ((q.2 * n ^ (j + 1) : Nat) : Int)), _]
        rw [← Int.natCast_mul, Nat.mul_assoc, ← Nat.pow_succ]
      · rintro σ H3 ⟨z6, rfl, rfl⟩
        refine ⟨_, rfl, _, rfl, _, _, rfl, rfl, some (.int (q.1 : Int)), some (.int ((q.2 * n ^ ((q.1 : Nat) : Int).toNat : Nat) : Int)), z6, ?_, rfl⟩
        show [_, _, some (V.int (((pval (p.take i) n : Nat) : Int) + ((q.2 * n ^ ((q.1 : Nat) : Int).toNat : Nat) : Int))), _, _, _] = [_, _, some (V.int ((pval (p.take (i + 1)) n : Nat) : Int)), _, _, _]
        rw [take_snoc hq, ← Int.natCast_add]
        simp [pval]
    · rintro σ H1 ⟨z3, z4, z5, rfl, rfl⟩
      rw [hl, List.take_length]
      exact ⟨_, rfl, k⟩
/-- a polynomial written down -/
theorem el_two {x y : Int} {σ : L2.St} {H : Hp} {Q : VK} (h : ∀ H' t, Same H H' → SqT K H' t [.int x, .int y] → Q (.ref t) H') : tTup (tCons (tC (.int x)) (tCons (tC (.int y)) tNil)) σ H Q :=
  ⟨small_le (by show 2 ≤ 1000000; decide), fun t ht => h _ t (same_new ht) (SqT.of upd_same)⟩
theorem el_one {x y : Nat} {σ : L2.St} {H : Hp} {Q : VK} (h : ∀ H' v, Same H H' → Tp K H' v (encP [(x, y)]) → Q v H') : tTup (tCons (tTup (tCons (tC (.int (x : Int))) (tCons (tC (.int (y : Int))) tNil))) tNil) σ H Q := by
  show tTup (tCons (tC (.int (x : Int))) (tCons (tC (.int (y : Int))) tNil)) σ H (fun v H1 => [v].length ≤ sizeLine ∧ ∀ p, H1 p = none → Q (.ref p) (upd H1 p (.tup [v])))
  exact el_two (K := K) fun H1 t s1 ht => ⟨small_le (by show 1 ≤ 1000000; decide), fun t2 ht2 => h _ _ (s1.trans (same_new ht2)) (.tup (SqT.of upd_same) (.cons (.tup ((same_new ht2).tq ht) (.cons (.int _) (.cons (.int _) .nil))) .nil))⟩
theorem el_pair {x y u v : Nat} {σ : L2.St} {H : Hp} {Q : VK} (h : ∀ H' z, Same H H' → Tp K H' z (encP [(x, y), (u, v)]) → Q z H') : tTup (tCons (tTup (tCons (tC (.int (x : Int))) (tCons (tC (.int (y : Int))) tNil))) (tCons (tTup (tCons (tC (.int (u : Int))) (tCons (tC (.int (v : Int))) tNil))) tNil)) σ H Q := by
  show tTup (tCons (tC (.int (x : Int))) (tCons (tC (.int (y : Int))) tNil)) σ H (fun a H1 => tTup (tCons (tC (.int (u : Int))) (tCons (tC (.int (v : Int))) tNil)) σ H1 fun b H2 => [a, b].length ≤ sizeLine ∧ ∀ p, H2 p = none → Q (.ref p) (upd H2 p (.tup [a, b])))
  exact el_two (K := K) fun H1 t s1 ht => el_two (K := K) fun H2 t3 s3 ht3 => ⟨small_le (by show 2 ≤ 1000000; decide), fun t2 ht2 => h _ _ ((s1.trans s3).trans (same_new ht2))
    (.tup (SqT.of upd_same) (.cons (.tup ((s3.trans (same_new ht2)).tq ht) (.cons (.int _) (.cons (.int _) .nil))) (.cons (.tup ((same_new ht2).tq ht3) (.cons (.int _) (.cons (.int _) .nil))) .nil)))⟩
theorem el_nil {σ : L2.St} {H : Hp} {Q : VK} (h : ∀ H' z, Same H H' → Tp K H' z (encP []) → Q z H') : tTup tNil σ H Q :=
  ⟨Nat.zero_le _, fun t ht => h _ _ (same_new ht) (.tup (SqT.of upd_same) .nil)⟩
theorem eight_ok : ∀ p ∈ eight, OkP p ∧ p.length ≤ 2 ∧ ∀ q ∈ p, q.2 ≤ 3 := by
  intro p hp
  simp only [eight, List.mem_cons, List.not_mem_nil, or_false] at hp
  rcases hp with rfl | rfl | rfl | rfl | rfl | rfl | rfl | rfl
  all_goals refine ⟨⟨by decide, by decide, fun i x y hx hy => ?_, by decide⟩, by decide, by decide⟩
  all_goals match i, hx, hy with
    | 0, hx, hy => first | (cases hy; done) | (cases hx; done) | (cases hx; cases hy; decide)
    | 1, hx, hy => first | (cases hy; done) | (cases hx; done)
    | i + 2, hx, hy => cases hx
theorem fk_law_drawn_rounds (T : Txt K mg w a) : Fk P w K mg base "_law_drawn_rounds" 3 ["_law_deck_here"] (spRounds K) := by
  have F_law_pick := fk_law_pick (P := P) (base := base) T
  refine (show Df K mg "_law_drawn_rounds" (top 80) from T.fn 46 _ rfl).fk sc_law_drawn_rounds (fun vs H Q E h => ?_) (fun _ _ _ _ _ _ us hl => match us, hl with | [_], _ => rfl) fun f cdv A outer s H vs Q E hr h => ?_
  · obtain ⟨d, l, rfl, _⟩ := h
    rfl
  · obtain ⟨d, l, rfl, hD, k⟩ := h
    refine ⟨_, (pss_one (ps_ret (pe_f (F_law_pick) (hr.mono (by decide)) rfl (pa_cons (pv 0) (pa_cons (pe_lst (pa_cons (pe_tup (pa_cons (pe_tup (pa_cons pe_int (pa_cons pe_int pa_nil))) pa_nil)) (pa_cons (pe_tup (pa_cons (pe_tup (pa_cons pe_int (pa_cons pe_int pa_nil))) pa_nil)) (pa_cons (pe_tup (pa_cons (pe_tup (pa_cons pe_int (pa_cons pe_int pa_nil))) (pa_cons (pe_tup (pa_cons pe_int (pa_cons pe_int pa_nil))) pa_nil))) (pa_cons (pe_tup (pa_cons (pe_tup (pa_cons pe_int (pa_cons pe_int pa_nil))) pa_nil)) (pa_cons (pe_tup pa_nil) (pa_cons (pe_tup (pa_cons (pe_tup (pa_cons pe_int (pa_cons pe_int pa_nil))) pa_nil)) (pa_cons (pe_tup (pa_cons (pe_tup (pa_cons pe_int (pa_cons pe_int pa_nil))) pa_nil)) (pa_cons (pe_tup (pa_cons (pe_tup (pa_cons pe_int (pa_cons pe_int pa_nil))) pa_nil)) pa_nil))))))))) pa_nil))))), ?_⟩
    refine ⟨_, rfl, ?_⟩
    dsimp only [tCall, tCons, tLst]
    refine el_one (K := K) (x := 0) (y := 2) fun H1 v1 s1 t1 => el_one (K := K) (x := 1) (y := 1) fun H2 v2 s2 t2 => el_pair (K := K) (x := 0) (y := 1) (u := 1) (v := 1) fun H3 v3 s3 t3 => el_one (K := K) (x := 0) (y := 3) fun H4 v4 s4 t4 => el_nil (K := K) fun H5 v5 s5 t5 => el_one (K := K) (x := 0) (y := 1) fun H6 v6 s6 t6 => el_one (K := K) (x := 1) (y := 2) fun H7 v7 s7 t7 => el_one (K := K) (x := 2) (y := 1) fun H8 v8 s8 t8 => ⟨small_le (by show 8 ≤ 1000000; decide), fun p hp => ?_⟩
    have s9 := same_new (o := .lst [v1, v2, v3, v4, v5, v6, v7, v8]) hp
    have s78 := s8.trans s9
    have s68 := s7.trans s78
    have s58 := s6.trans s68
    have s48 := s5.trans s58
    have s38 := s4.trans s48
    have s28 := s3.trans s38
    have s18 := s2.trans s28
    have s08 := s1.trans s18
    have hD9 := hD.same s08
    refine ⟨d, l, p, _, rfl, hD9, upd_same, ?_, by simp, (by show 8 ≤ 64; decide), fun H9 x y1 hD1 hx => ?_⟩
    · rintro rfl
      obtain ⟨m, q, ns, _, hl, _⟩ := hD
      rw [none_of_same ((((((((s1.trans s2).trans s3).trans s4).trans s5).trans s6).trans s7).trans s8)) hp] at hl
      cases hl
    · have kk := hD9.kept y1
      have fin : ∀ p, p ∈ eight → Tp K (upd H8 _ (.lst [v1, v2, v3, v4, v5, v6, v7, v8])) x (encP p) → Q x H9 := fun p hp h => k H9 x p (s08.dst.trans y1) hD1 hp (h.kept kk)
      simp only [List.mem_cons, List.not_mem_nil, or_false] at hx
      rcases hx with rfl | rfl | rfl | rfl | rfl | rfl | rfl | rfl
      · exact fin _ (by simp [eight]) (t1.same s18)
      · exact fin _ (by simp [eight]) (t2.same s28)
      · exact fin _ (by simp [eight]) (t3.same s38)
      · exact fin _ (by simp [eight]) (t4.same s48)
      · exact fin _ (by simp [eight]) (t5.same s58)
      · exact fin _ (by simp [eight]) (t6.same s68)
      · exact fin _ (by simp [eight]) (t7.same s78)
      · exact fin _ (by simp [eight]) (t8.same s9)
end
end NPK
set_option Elab.async false
set_option linter.all false
set_option maxRecDepth 100000
set_option maxHeartbeats 2000000
namespace NPK
open PySem PySem.Spec PyProof.Rows L2 NP
/-! ### the law's bounds: polynomials of small exponents -/
def Mono (K : PySem.W.Frag) (H : Hp) (E : Nat) (x : V) : Prop := ∃ b, ∃ e c : Int, x = .ref b ∧ SqT K H b [.int e, .int c] ∧ 0 ≤ e ∧ e ≤ (E : Int) ∧ 0 ≤ c
def Prs (K : PySem.W.Frag) (H : Hp) (E : Nat) (xs : List V) : Prop := ∀ x ∈ xs, Mono K H E x
def PolyV (K : PySem.W.Frag) (H : Hp) (E : Nat) (v : V) : Prop := ∃ a xs, v = .ref a ∧ SqT K H a xs ∧ xs.length ≤ E + 1 ∧ Prs K H E xs
section
variable {K : PySem.W.Frag} {H H' : Hp} {E E' : Nat}
theorem Mono.kept {x : V} (h : Mono K H E x) (s : Kept H H') : Mono K H' E x := by
  obtain ⟨b, e, c, h1, h2, r⟩ := h
  exact ⟨b, e, c, h1, s.tq h2, r⟩
theorem Mono.up {x : V} (h : Mono K H E x) (l : E ≤ E') : Mono K H E' x := by
  obtain ⟨b, e, c, h1, h2, h3, h4, h5⟩ := h
  exact ⟨b, e, c, h1, h2, h3, by omega, h5⟩
theorem Prs.kept {xs : List V} (h : Prs K H E xs) (s : Kept H H') : Prs K H' E xs := fun x hx => (h x hx).kept s
theorem Prs.up {xs : List V} (h : Prs K H E xs) (l : E ≤ E') : Prs K H E' xs := fun x hx => (h x hx).up l
theorem Prs.app {xs ys : List V} (h : Prs K H E xs) (h' : Prs K H E ys) : Prs K H E (xs ++ ys) := fun x hx => (List.mem_append.mp hx).elim (h x) (h' x)
theorem Prs.nil : Prs K H E [] := fun x hx => absurd hx List.not_mem_nil
theorem PolyV.kept {v : V} (h : PolyV K H E v) (s : Kept H H') : PolyV K H' E v := by
  obtain ⟨a, xs, h1, h2, h3, h4⟩ := h
  exact ⟨a, xs, h1, s.tq h2, h3, h4.kept s⟩
theorem PolyV.up {v : V} (h : PolyV K H E v) (l : E ≤ E') : PolyV K H E' v := by
  obtain ⟨a, xs, h1, h2, h3, h4⟩ := h
  exact ⟨a, xs, h1, h2, by omega, h4.up l⟩
/-- a polynomial written down -/
theorem prs_poly {p : Poly} {xs : List V} (r : TpAll K H xs (p.map encQ)) (hp : ∀ q ∈ p, q.1 ≤ E) : Prs K H E xs := fun x hx => by
  obtain ⟨i, hi⟩ := List.mem_iff_getElem?.mp hx
  obtain ⟨q, hq, hm, b, rfl, hb⟩ := poly_at r hi
  exact ⟨b, _, _, rfl, hb, by omega, by have := hp q hm; omega, by omega⟩
end
theorem nodup_lt : ∀ (n : Nat) (l : List Int), l.Nodup → (∀ x ∈ l, 0 ≤ x ∧ x < (n : Int)) → l.length ≤ n
  | 0, l, _, h => by
    cases l with
    | nil => exact Nat.le_refl _
    | cons x r =>
      have := h x (List.mem_cons_self ..)
      omega
  | n + 1, l, hd, h => by
    by_cases hm : (n : Int) ∈ l
    · have h1 := List.length_erase_of_mem hm
      have h2 := nodup_lt n (l.erase (n : Int)) (hd.erase _) fun x hx => by
        rw [hd.mem_erase_iff] at hx
        have := h x hx.2
        have h3 := hx.1
        omega
      omega
    · have h2 := nodup_lt n l hd fun x hx => by
        have := h x hx
        have h3 : x ≠ (n : Int) := fun e => hm (e ▸ hx)
        omega
      omega
/-- the dict of a sum -/
def KI (E : Nat) (kvs : List (Key × V)) : Prop := ∃ ps : List (Int × Int), kvs = ps.map (fun p => ((.inl p.1 : Key), V.int p.2)) ∧ (ps.map (·.1)).Nodup ∧ ∀ p ∈ ps, 0 ≤ p.1 ∧ p.1 ≤ (E : Int) ∧ 0 ≤ p.2
theorem KI.len {E : Nat} {kvs : List (Key × V)} (h : KI E kvs) : kvs.length ≤ E + 1 := by
  obtain ⟨ps, rfl, nd, hp⟩ := h
  have := nodup_lt (E + 1) (ps.map (·.1)) nd fun x hx => by
    obtain ⟨p, hm, rfl⟩ := List.mem_map.mp hx
    have := hp p hm
    omega
  rw [List.length_map] at this ⊢
  exact this
theorem KI.get {E : Nat} {kvs : List (Key × V)} (h : KI E kvs) (e : Int) : valV kvs (.inl e) = none ∨ ∃ c : Int, valV kvs (.inl e) = some (.int c) ∧ 0 ≤ c := by
  obtain ⟨ps, rfl, nd, hp⟩ := h
  unfold valV
  cases e2 : (ps.map (fun p => ((.inl p.1 : Key), V.int p.2))).find? (fun kv => decide (kv.1 = (.inl e : Key))) with
  | none => exact .inl rfl
  | some kv =>
    have hm := List.mem_of_find?_eq_some e2
    obtain ⟨p, hp1, rfl⟩ := List.mem_map.mp hm
    exact .inr ⟨p.2, rfl, (hp p hp1).2.2⟩
theorem KI.has {E : Nat} {kvs : List (Key × V)} (h : KI E kvs) {ks : List Int} (hk : kvs.map (·.1) = ks.map Sum.inl) {e : Int} (he : e ∈ ks) : ∃ c : Int, valV kvs (.inl e) = some (.int c) ∧ 0 ≤ c ∧ 0 ≤ e ∧ e ≤ (E : Int) := by
  have hm : (.inl e : Key) ∈ kvs.map (·.1) := by
    rw [hk]
    exact List.mem_map.mpr ⟨e, he, rfl⟩
  obtain ⟨kv, hkv, e1⟩ := List.mem_map.mp hm
  rcases h.get e with h1 | ⟨c, h1, h2⟩
  · exfalso
    unfold valV at h1
    cases e2 : kvs.find? (fun kv => decide (kv.1 = (.inl e : Key))) with
    | none =>
      have := List.find?_eq_none.mp e2 kv hkv
      simp [e1] at this
    | some kv =>
      rw [e2] at h1
      cases h1
  · obtain ⟨ps, rfl, nd, hp⟩ := h
    obtain ⟨p, hp1, rfl⟩ := List.mem_map.mp hkv
    have e3 : p.1 = e := Sum.inl.inj e1
    have := hp p hp1
    exact ⟨c, h1, h2, by omega, by omega⟩
theorem KI.put {E : Nat} {kvs : List (Key × V)} (h : KI E kvs) {e c : Int} (h0 : 0 ≤ e) (h1 : e ≤ (E : Int)) (h2 : 0 ≤ c) : KI E (putK kvs (.inl e) (.int c)) := by
  obtain ⟨ps, rfl, nd, hp⟩ := h
  unfold putK
  split
  · refine ⟨ps.map (fun p => if p.1 = e then (p.1, c) else p), ?_, ?_, ?_⟩
    · rw [List.map_map, List.map_map]
      refine List.map_congr_left fun p _ => ?_
      by_cases hpe : p.1 = e
      · simp [hpe]
      · have : ¬ ((.inl p.1 : Key) = .inl e) := fun z => hpe (Sum.inl.inj z)
        simp [hpe, this]
    · have : (ps.map (fun p => if p.1 = e then (p.1, c) else p)).map (·.1) = ps.map (·.1) := by
        rw [List.map_map]
        refine List.map_congr_left fun p _ => ?_
        show (if p.1 = e then (p.1, c) else p).1 = p.1
        split <;> rfl
      rw [this]
      exact nd
    · intro p hm
      obtain ⟨p0, hm0, rfl⟩ := List.mem_map.mp hm
      have := hp p0 hm0
      split
      · exact ⟨this.1, this.2.1, h2⟩
      · exact this
  · rename_i hno
    refine ⟨ps ++ [(e, c)], by rw [List.map_append]; rfl, ?_, ?_⟩
    · rw [List.map_append, List.nodup_append]
      refine ⟨nd, by simp, fun x hx y hy z => ?_⟩
      have hy' : y = e := by simpa using hy
      obtain ⟨p, hm, rfl⟩ := List.mem_map.mp hx
      refine hno (List.any_eq_true.mpr ⟨((.inl p.1 : Key), V.int p.2), List.mem_map.mpr ⟨p, hm, rfl⟩, ?_⟩)
      have z' : p.1 = e := z.trans hy'
      simp [z']
    · intro p hm
      rcases List.mem_append.mp hm with hm | hm
      · exact hp p hm
      · cases List.mem_singleton.mp hm
        exact ⟨h0, h1, h2⟩
theorem KI.keys {E : Nat} {kvs : List (Key × V)} (h : KI E kvs) : ∃ ks : List Int, kvs.map (·.1) = ks.map Sum.inl ∧ ks.length = kvs.length := by
  obtain ⟨ps, rfl, _, _⟩ := h
  exact ⟨ps.map (·.1), by rw [List.map_map, List.map_map]; rfl, by rw [List.length_map, List.length_map]⟩
abbrev S_law_summed : Stmt := top 81
abbrev N_law_summed : List Str := ["_law_some", "_law_found", "_law_many", "_law_number"]
theorem sc_law_summed : FnScope N_law_summed ["_law_some"] (defScope S_law_summed) := ⟨rfl, rfl, rfl, by decide +kernel, rfl, by decide +kernel, by decide +kernel⟩
theorem nd_law_summed : N_law_summed.Nodup := sc_law_summed.nd
abbrev S_law_product : Stmt := top 82
abbrev N_law_product : List Str := ["_law_one", "_law_other", "_law_found", "_law_x", "_law_a", "_law_y", "_law_b"]
theorem sc_law_product : FnScope N_law_product ["_law_one", "_law_other"] (defScope S_law_product) := ⟨rfl, rfl, rfl, by decide +kernel, rfl, by decide +kernel, by decide +kernel⟩
theorem nd_law_product : N_law_product.Nodup := sc_law_product.nd
def spSumT (K : PySem.W.Frag) : Sp := fun vs H Q _ => ∃ a xs E, vs = [.ref a] ∧ SqT K H a xs ∧ Prs K H E xs ∧ E ≤ 60 ∧ xs.length ≤ 1000000 ∧ ∀ H' v, Same H H' → PolyV K H' E v → Q v H'
def spSumL (K : PySem.W.Frag) : Sp := fun vs H Q _ => ∃ a xs E, vs = [.ref a] ∧ H a = some (.lst xs) ∧ Prs K H E xs ∧ E ≤ 60 ∧ xs.length ≤ 1000000 ∧ ∀ H' v, Same H H' → PolyV K H' E v → Q v H'
section
variable {P : Program} {w : World} {K : PySem.W.Frag} {mg : Str → Option Value} {base : Heap} {a : Ads}
theorem fk_law_summed (T : Txt K mg w a) : Fk P w K mg base "_law_summed" 1 ["_law_some"] (spSumT K) := by
  refine (show Df K mg "_law_summed" (top 81) from T.fn 47 _ rfl).fk sc_law_summed (fun vs H Q E h => ?_) (fun _ _ _ _ _ _ us hl => match us, hl with | [_], _ => rfl) fun f cdv A outer s H vs Q E hr h => ?_
  · obtain ⟨p, xs, E, rfl, _⟩ := h
    rfl
  · obtain ⟨p, xs, E, rfl, hp, hx, hE, hl, k⟩ := h
    have hu := hu_of hr
    refine ⟨_, (pss_cons (ps_set (i := 1) nd_law_summed rfl (by first | exact Or.inl rfl | exact Or.inr rfl) pe_dnewK)
      (pss_cons (ps_for PassesOwn.never rfl (pi_tup (pv 0)) (pgT K rfl rfl (pgs_cons (pg_name (i := 2) nd_law_summed rfl (by first | exact Or.inl rfl | exact Or.inr rfl)) (pgs_cons (pg_name (i := 3) nd_law_summed rfl (by first | exact Or.inl rfl | exact Or.inr rfl)) pgs_nil))) (pss_one (ps_dput hu (pv 1) (pv 2) (pe_op op_add (pe_dget2 hu (pv 1) (pv 2) pe_int ⟨rfl, rfl, rfl, rfl⟩) (pv 3)) rfl)))
      (pss_one (ps_ret (pe_callTy call_tuple_of (by rfl) T.tuple (by decide +kernel) (pa_cons (pe_lc (own := [("_law_many", 2)]) (by rfl) nd_law_summed (pi_list (pe_callB (call_sortedDI rfl) (by rfl) T.sorted (by decide +kernel) (pa_cons (pv 1) pa_nil))) (blkOk_by (own := [("_law_many", 2)]) (N := N_law_summed) (sc := defScope S_law_summed) (by decide +kernel)) (fun _ _ _ _ _ => (pg_name (i := 2) nd_law_summed rfl (by first | exact Or.inl rfl | exact Or.inr rfl))) (fun _ _ _ _ _ => (pts_one (pt_cmpR op_gt (pe_dget hu (pv 1) (pv 2) (fun _ _ => rfl)) pe_int (nomark _)))) (fun _ _ _ _ _ => (pe_tup (pa_cons (pv 2) (pa_cons (pe_dget hu (pv 1) (pv 2) (fun _ _ => rfl)) pa_nil))))) pa_nil)))))), ?_⟩
    intro d hd
    have s0 := same_new (o := .dK []) hd
    refine ⟨_, rfl, p, rfl, ⟨_, s0.tq hp⟩, ?_⟩
    refine for_it walk_tup (fun i σ H' => ∃ z2 z3 kvs, σ = [some (.ref p), some (.ref d), z2, z3] ∧ Same H H' ∧ H' d = some (.dK kvs) ∧ KI E kvs) ⟨none, none, [], rfl, s0, upd_same, [], rfl, by simp, fun p hp => absurd hp List.not_mem_nil⟩ (fun i σ H' _ ⟨_, _, _, _, s1, _⟩ => s1.tq hp) ?_ ?_
    · rintro i x σ H1 H2 hi ⟨z2, z3, kvs, rfl, s1, hd1, ki⟩ ⟨rfl, hx1⟩
      obtain ⟨b, e, c, rfl, hb, e0, e1, c0⟩ := (hx x (List.mem_of_getElem? hx1)).kept s1.kept
      refine ⟨b, _, rfl, hb, rfl, _, _, rfl, _, _, rfl, rfl, ?_⟩
      have hkl := ki.len
      have hget : ∃ c0 : Int, (valV kvs (.inl e)).getD (.int 0) = .int c0 ∧ 0 ≤ c0 := by
        rcases ki.get e with h | ⟨c1, h, h'⟩
        · exact ⟨0, by rw [h]; rfl, by decide⟩
        · exact ⟨c1, by rw [h]; rfl, h'⟩
      obtain ⟨c1, hc1, hc2⟩ := hget
      refine ⟨_, rfl, d, rfl, .inl ⟨kvs, .inl hd1⟩, _, rfl, _, DGet.k (k := .inl e) hd1, ?_⟩
      rw [hc1]
      refine ⟨_, rfl, _, _, rfl, rfl, _, rfl, _, rfl, d, _, rfl, DPut.k (k := .inl e) hd1 (small_line (by omega)), ?_⟩
      exact ⟨_, _, _, rfl, s1.upd hd, upd_same, ki.put e0 e1 (by omega)⟩
    · rintro σ H1 ⟨z2, z3, kvs, rfl, s1, hd1, ki⟩
      obtain ⟨ks, hk1, hk2⟩ := ki.keys
      have hkl := ki.len
      refine ⟨_, rfl, d, kvs, ks, rfl, .inl hd1, hk1, by omega, fun ys q hperm _ hq => ⟨q, rfl, ⟨_, SqL.of upd_same⟩, fun D hD => ?_⟩⟩
      have hyl : ys.length = ks.length := hperm.length_eq
      have s2 := same_new (o := .lst (ys.map V.int)) hq
      refine lc_sel (walk_list (xs := ys.map V.int)) hD (small_line (by rw [List.length_map]; omega)) (fun _ y H => Mono K H E y) (fun _ _ _ _ s h => h.kept s) (fun H2 s3 => SqL.of (s3 _ _ upd_same)) ?_ ?_
      · rintro i x H2 H3 hi s3 ⟨rfl, hx1⟩ Kn Kq qn qy
        rw [List.getElem?_map] at hx1
        cases ey : ys[i]? with
        | none =>
          rw [ey] at hx1
          cases hx1
        | some e =>
        rw [ey] at hx1
        cases hx1
        have hmem : e ∈ ks := hperm.mem_iff.mp (List.mem_of_getElem? ey)
        obtain ⟨c, hc, c0, e0, e1⟩ := ki.has hk1 hmem
        have hd3 := (s2.trans s3) _ _ hd1
        have hg : DGet H3 d (kV (.inl e)) (some (.int c)) := hc ▸ DGet.k hd3
        refine ⟨rfl, _, rfl, _, rfl, d, .int c, rfl, hg, _, _, rfl, rfl, _, rfl, ?_⟩
        refine ite2 (fun _ => ?_) (fun _ => qn _ (Same.refl _))
        refine ⟨_, rfl, _, rfl, _, rfl, d, .int c, rfl, hg, small_le (by show 2 ≤ 1000000; decide), fun t ht => qy _ _ (same_new ht) ⟨t, e, c, rfl, SqT.of upd_same, e0, e1, c0⟩⟩
      · intro H2 zs s3 hz hzl hzr
        refine ⟨D, _, rfl, .inl ⟨SqL.of hz, fun t ht => ?_⟩⟩
        have s4 := same_new (o := .tup zs) ht
        rw [List.length_map] at hzl
        exact k _ _ (((s1.trans s2).trans s3).trans s4) ⟨t, zs, rfl, SqT.of upd_same, by omega, fun y hy => let ⟨_, _, h⟩ := hzr y hy; h.kept s4.kept⟩
theorem fk_law_summed_l (T : Txt K mg w a) : Fk P w K mg base "_law_summed" 1 ["_law_some"] (spSumL K) := by
  refine (show Df K mg "_law_summed" (top 81) from T.fn 47 _ rfl).fk sc_law_summed (fun vs H Q E h => ?_) (fun _ _ _ _ _ _ us hl => match us, hl with | [_], _ => rfl) fun f cdv A outer s H vs Q E hr h => ?_
  · obtain ⟨p, xs, E, rfl, _⟩ := h
    rfl
  · obtain ⟨p, xs, E, rfl, hp, hx, hE, hl, k⟩ := h
    have hu := hu_of hr
    refine ⟨_, (pss_cons (ps_set (i := 1) nd_law_summed rfl (by first | exact Or.inl rfl | exact Or.inr rfl) pe_dnewK)
      (pss_cons (ps_for PassesOwn.never rfl (pi_list (pv 0)) (pgT K rfl rfl (pgs_cons (pg_name (i := 2) nd_law_summed rfl (by first | exact Or.inl rfl | exact Or.inr rfl)) (pgs_cons (pg_name (i := 3) nd_law_summed rfl (by first | exact Or.inl rfl | exact Or.inr rfl)) pgs_nil))) (pss_one (ps_dput hu (pv 1) (pv 2) (pe_op op_add (pe_dget2 hu (pv 1) (pv 2) pe_int ⟨rfl, rfl, rfl, rfl⟩) (pv 3)) rfl)))
      (pss_one (ps_ret (pe_callTy call_tuple_of (by rfl) T.tuple (by decide +kernel) (pa_cons (pe_lc (own := [("_law_many", 2)]) (by rfl) nd_law_summed (pi_list (pe_callB (call_sortedDI rfl) (by rfl) T.sorted (by decide +kernel) (pa_cons (pv 1) pa_nil))) (blkOk_by (own := [("_law_many", 2)]) (N := N_law_summed) (sc := defScope S_law_summed) (by decide +kernel)) (fun _ _ _ _ _ => (pg_name (i := 2) nd_law_summed rfl (by first | exact Or.inl rfl | exact Or.inr rfl))) (fun _ _ _ _ _ => (pts_one (pt_cmpR op_gt (pe_dget hu (pv 1) (pv 2) (fun _ _ => rfl)) pe_int (nomark _)))) (fun _ _ _ _ _ => (pe_tup (pa_cons (pv 2) (pa_cons (pe_dget hu (pv 1) (pv 2) (fun _ _ => rfl)) pa_nil))))) pa_nil)))))), ?_⟩
    intro d hd
    have s0 := same_new (o := .dK []) hd
    refine ⟨_, rfl, p, rfl, ⟨_, SqL.of (s0 _ _ hp)⟩, ?_⟩
    refine for_it walk_list (fun i σ H' => ∃ z2 z3 kvs, σ = [some (.ref p), some (.ref d), z2, z3] ∧ Same H H' ∧ H' d = some (.dK kvs) ∧ KI E kvs) ⟨none, none, [], rfl, s0, upd_same, [], rfl, by simp, fun p hp => absurd hp List.not_mem_nil⟩ (fun i σ H' _ ⟨_, _, _, _, s1, _⟩ => SqL.of (s1 _ _ hp)) ?_ ?_
    · rintro i x σ H1 H2 hi ⟨z2, z3, kvs, rfl, s1, hd1, ki⟩ ⟨rfl, hx1⟩
      obtain ⟨b, e, c, rfl, hb, e0, e1, c0⟩ := (hx x (List.mem_of_getElem? hx1)).kept s1.kept
      refine ⟨b, _, rfl, hb, rfl, _, _, rfl, _, _, rfl, rfl, ?_⟩
      have hkl := ki.len
      have hget : ∃ c0 : Int, (valV kvs (.inl e)).getD (.int 0) = .int c0 ∧ 0 ≤ c0 := by
        rcases ki.get e with h | ⟨c1, h, h'⟩
        · exact ⟨0, by rw [h]; rfl, by decide⟩
        · exact ⟨c1, by rw [h]; rfl, h'⟩
      obtain ⟨c1, hc1, hc2⟩ := hget
      refine ⟨_, rfl, d, rfl, .inl ⟨kvs, .inl hd1⟩, _, rfl, _, DGet.k (k := .inl e) hd1, ?_⟩
      rw [hc1]
      refine ⟨_, rfl, _, _, rfl, rfl, _, rfl, _, rfl, d, _, rfl, DPut.k (k := .inl e) hd1 (small_line (by omega)), ?_⟩
      exact ⟨_, _, _, rfl, s1.upd hd, upd_same, ki.put e0 e1 (by omega)⟩
    · rintro σ H1 ⟨z2, z3, kvs, rfl, s1, hd1, ki⟩
      obtain ⟨ks, hk1, hk2⟩ := ki.keys
      have hkl := ki.len
      refine ⟨_, rfl, d, kvs, ks, rfl, .inl hd1, hk1, by omega, fun ys q hperm _ hq => ⟨q, rfl, ⟨_, SqL.of upd_same⟩, fun D hD => ?_⟩⟩
      have hyl : ys.length = ks.length := hperm.length_eq
      have s2 := same_new (o := .lst (ys.map V.int)) hq
      refine lc_sel (walk_list (xs := ys.map V.int)) hD (small_line (by rw [List.length_map]; omega)) (fun _ y H => Mono K H E y) (fun _ _ _ _ s h => h.kept s) (fun H2 s3 => SqL.of (s3 _ _ upd_same)) ?_ ?_
      · rintro i x H2 H3 hi s3 ⟨rfl, hx1⟩ Kn Kq qn qy
        rw [List.getElem?_map] at hx1
        cases ey : ys[i]? with
        | none =>
          rw [ey] at hx1
          cases hx1
        | some e =>
        rw [ey] at hx1
        cases hx1
        have hmem : e ∈ ks := hperm.mem_iff.mp (List.mem_of_getElem? ey)
        obtain ⟨c, hc, c0, e0, e1⟩ := ki.has hk1 hmem
        have hd3 := (s2.trans s3) _ _ hd1
        have hg : DGet H3 d (kV (.inl e)) (some (.int c)) := hc ▸ DGet.k hd3
        refine ⟨rfl, _, rfl, _, rfl, d, .int c, rfl, hg, _, _, rfl, rfl, _, rfl, ?_⟩
        refine ite2 (fun _ => ?_) (fun _ => qn _ (Same.refl _))
        refine ⟨_, rfl, _, rfl, _, rfl, d, .int c, rfl, hg, small_le (by show 2 ≤ 1000000; decide), fun t ht => qy _ _ (same_new ht) ⟨t, e, c, rfl, SqT.of upd_same, e0, e1, c0⟩⟩
      · intro H2 zs s3 hz hzl hzr
        refine ⟨D, _, rfl, .inl ⟨SqL.of hz, fun t ht => ?_⟩⟩
        have s4 := same_new (o := .tup zs) ht
        rw [List.length_map] at hzl
        exact k _ _ (((s1.trans s2).trans s3).trans s4) ⟨t, zs, rfl, SqT.of upd_same, by omega, fun y hy => let ⟨_, _, h⟩ := hzr y hy; h.kept s4.kept⟩
def SmallP (p : Poly) : Prop := OkP p ∧ p.length ≤ 2 ∧ ∀ q ∈ p, q.2 ≤ 100000
def spProd (K : PySem.W.Frag) : Sp := fun vs H Q _ => ∃ v1 v2 p E, vs = [v1, v2] ∧ Tp K H v1 (encP p) ∧ SmallP p ∧ PolyV K H E v2 ∧ E + 2 ≤ 60 ∧ ∀ H' v, Same H H' → PolyV K H' (E + 2) v → Q v H'
theorem fk_law_product (T : Txt K mg w a) : Fk P w K mg base "_law_product" 2 ["_law_one", "_law_other"] (spProd K) := by
  have F_law_summed_l := fk_law_summed_l (P := P) (base := base) T
  refine (show Df K mg "_law_product" (top 82) from T.fn 48 _ rfl).fk sc_law_product (fun vs H Q E h => ?_) (fun _ _ _ _ _ _ us hl => match us, hl with | [_, _], _ => rfl) fun f cdv A outer s H vs Q E hr h => ?_
  · obtain ⟨v1, v2, p, E, rfl, _⟩ := h
    rfl
  · obtain ⟨v1, v2, p, E, rfl, hv1, hp, ⟨b2, ys, rfl, hy, hyl, hyp⟩, hE, k⟩ := h
    obtain ⟨b1, xs, rfl, hx, r⟩ := tp_tup hv1
    have hxl : xs.length = p.length := by rw [r.len, List.length_map]
    have hp2 := hp.2.1
    refine ⟨_, (pss_cons (ps_set (i := 2) nd_law_product rfl (by first | exact Or.inl rfl | exact Or.inr rfl) (pe_lst pa_nil))
      (pss_cons (ps_for PassesOwn.never rfl (pi_tup (pv 0)) (pgT K rfl rfl (pgs_cons (pg_name (i := 3) nd_law_product rfl (by first | exact Or.inl rfl | exact Or.inr rfl)) (pgs_cons (pg_name (i := 4) nd_law_product rfl (by first | exact Or.inl rfl | exact Or.inr rfl)) pgs_nil))) (pss_one (ps_expr (pe_bm PySem.F.plainAttrs_list PySem.F.slot_list_extend PySem.F.type_list_extend mt_extend (pv 2) (pa_cons (pe_lc (g := gTup K 2 (gCons (gName 5) (gCons (gName 6) gNil))) (own := [("_law_y", 5), ("_law_b", 6)]) (by rfl) nd_law_product (pi_tup (pv 1)) (blkOk_by (own := [("_law_y", 5), ("_law_b", 6)]) (N := N_law_product) (sc := defScope S_law_product) (by decide +kernel)) (fun _ _ _ _ _ => (pgT K rfl rfl (pgs_cons (pg_name (i := 5) nd_law_product rfl (by first | exact Or.inl rfl | exact Or.inr rfl)) (pgs_cons (pg_name (i := 6) nd_law_product rfl (by first | exact Or.inl rfl | exact Or.inr rfl)) pgs_nil)))) (fun _ _ _ _ _ => pts_nil) (fun _ _ _ _ _ => (pe_tup (pa_cons (pe_op op_add (pv 3) (pv 5)) (pa_cons (pe_op op_mul (pv 4) (pv 6)) pa_nil))))) pa_nil)))))
      (pss_one (ps_ret (pe_f (F_law_summed_l) (hr.mono (by decide)) rfl (pa_cons (pv 2) pa_nil)))))), ?_⟩
    refine ⟨Nat.zero_le _, fun lf hlf => ?_⟩
    have s0 := same_new (o := .lst []) hlf
    refine ⟨_, rfl, b1, rfl, ⟨_, s0.tq hx⟩, ?_⟩
    refine for_it walk_tup (fun i σ H' => ∃ z3 z4 fs, σ = [some (.ref b1), some (.ref b2), some (.ref lf), z3, z4, none, none] ∧ Same H H' ∧ H' lf = some (.lst fs) ∧ fs.length ≤ i * (E + 1) ∧ Prs K H' (E + 2) fs) ⟨none, none, [], rfl, s0, upd_same, Nat.zero_le _, Prs.nil⟩ (fun i σ H' _ ⟨_, _, _, _, s1, _⟩ => s1.tq hx) ?_ ?_
    · rintro i x σ H1 H2 hi ⟨z3, z4, fs, rfl, s1, hf, hfl, hfp⟩ ⟨rfl, hx1⟩
      obtain ⟨q, hq, hm, bq, rfl, hbq⟩ := poly_at (r.same s1) hx1
      have hq1 := hp.1.low q hm
      have hq2 := hp.2.2 q hm
      refine ⟨bq, _, rfl, hbq, rfl, _, _, rfl, _, _, rfl, rfl, ?_⟩
      refine ⟨_, rfl, .inl ⟨rfl, _, SqL.of hf⟩, _, rfl, b2, rfl, ⟨_, s1.tq hy⟩, fun D hD => ?_⟩
      refine lc_rel walk_tup hD (small_line (by omega)) (fun _ y H => Mono K H (E + 2) y) (fun _ _ _ _ s h => h.kept s) (fun H3 s3 => s3.tq (s1.tq hy)) ?_ ?_
      · rintro j u H3 H4 hj s3 ⟨rfl, hu⟩ Kq qy
        obtain ⟨b, e, c, rfl, hb, e0, e1, c0⟩ := (hyp u (List.mem_of_getElem? hu)).kept (s1.trans s3).kept
        refine ⟨b, _, rfl, hb, rfl, _, _, rfl, _, _, rfl, rfl, rfl, ?_⟩
        refine ⟨_, rfl, _, rfl, _, _, rfl, rfl, _, rfl, _, rfl, _, _, rfl, rfl, .inl ⟨by omega, by omega⟩, small_le (by show 2 ≤ 1000000; decide), fun t ht => ?_⟩
        refine qy _ _ (same_new ht) ⟨t, _, _, rfl, SqT.of upd_same, by omega, by omega, Int.mul_nonneg (by omega) c0⟩
      · intro H3 zs s3 hz hzl hzr
        have hf3 := s3 _ _ hf
        have hle : (i + 1) * (E + 1) = i * (E + 1) + (E + 1) := Nat.succ_mul ..
        have hi2 : i ≤ 1 := by omega
        have hi3 : i * (E + 1) ≤ 1 * (E + 1) := Nat.mul_le_mul_right _ hi2
        refine ⟨lf, D, fs, zs, rfl, rfl, hf3, hz, small_le (by omega), ?_⟩
        have k3 : Kept H3 (upd H3 lf (.lst (fs ++ zs))) := (Kept.refl _).write hf3 True.intro
        refine ⟨_, _, _, rfl, (s1.trans s3).upd hlf, upd_same, by rw [List.length_append]; omega, ?_⟩
        refine (hfp.kept (s3.kept.trans k3)).app fun y hy => ?_
        obtain ⟨j, hj⟩ := List.mem_iff_getElem?.mp hy
        exact (hzr j y hj).kept k3
    · rintro σ H1 ⟨z3, z4, fs, rfl, s1, hf, hfl, hfp⟩
      have hi3 : xs.length * (E + 1) ≤ 2 * (E + 1) := Nat.mul_le_mul_right _ (by omega)
      exact ⟨_, rfl, lf, fs, E + 2, rfl, hf, hfp, hE, by omega, fun H2 v s2 hv => k H2 v (s1.trans s2) hv⟩
end
end NPK
set_option Elab.async false
set_option linter.all false
set_option maxRecDepth 100000
set_option maxHeartbeats 2000000
namespace NPK
open PySem PySem.Spec PyProof.Rows L2 NP
mutual
def dpt : Cmd → Nat → Prop
  | .rep p cs, n => SmallP p ∧ ∃ m, n = m + 1 ∧ dpts cs m
  | .ifat _ _, _ => False
  | _, _ => True
def dpts : List Cmd → Nat → Prop
  | [], _ => True
  | c :: cs, n => dpt c n ∧ dpts cs n
end
theorem dpts_mem {c : Cmd} {n : Nat} : ∀ {cs : List Cmd}, dpts cs n → c ∈ cs → dpt c n
  | [], _, h => absurd h List.not_mem_nil
  | d :: cs, o, h => by
    rcases List.mem_cons.mp h with h | h
    · subst h
      exact o.1
    · exact dpts_mem o.2 h
def NearV (K : PySem.W.Frag) (H : Hp) (E : Nat) (v : V) : Prop := ∃ t s m, ∃ r : Int, v = .ref t ∧ SqT K H t [s, m, .int r] ∧ PolyV K H E s ∧ PolyV K H E m ∧ 0 ≤ r
theorem NearV.kept {K : PySem.W.Frag} {H H' : Hp} {E : Nat} {v : V} (h : NearV K H E v) (s : Kept H H') : NearV K H' E v := by
  obtain ⟨t, x, m, r, e, h1, h2, h3, h4⟩ := h
  exact ⟨t, x, m, r, e, s.tq h1, h2.kept s, h3.kept s, h4⟩
theorem NearV.up {K : PySem.W.Frag} {H : Hp} {E E' : Nat} {v : V} (h : NearV K H E v) (l : E ≤ E') : NearV K H E' v := by
  obtain ⟨t, x, m, r, e, h1, h2, h3, h4⟩ := h
  exact ⟨t, x, m, r, e, h1, h2.up l, h3.up l, h4⟩
abbrev S_law_list_bounds : Stmt := top 83
abbrev N_law_list_bounds : List Str := ["_law_program", "_law_commands", "_law_known", "_law_steps", "_law_many", "_law_repeats", "_law_names", "_law_command", "_law_near", "_law_part", "_law_name", "_law_rest"]
theorem sc_law_list_bounds : FnScope N_law_list_bounds ["_law_program", "_law_commands", "_law_known"] (defScope S_law_list_bounds) := ⟨rfl, rfl, rfl, by decide +kernel, rfl, by decide +kernel, by decide +kernel⟩
theorem nd_law_list_bounds : N_law_list_bounds.Nodup := sc_law_list_bounds.nd
abbrev S_law_bounds : Stmt := top 84
abbrev N_law_bounds : List Str := ["_law_program", "_law_known", "_law_repeats", "_law_name", "_law_commands", "_law_near", "_law_steps", "_law_many", "_law_sizes", "_law_size"]
theorem sc_law_bounds : FnScope N_law_bounds ["_law_program"] (defScope S_law_bounds) := ⟨rfl, rfl, rfl, by decide +kernel, rfl, by decide +kernel, by decide +kernel⟩
theorem nd_law_bounds : N_law_bounds.Nodup := sc_law_bounds.nd
abbrev S_law_are_bounds_within : Stmt := top 85
abbrev N_law_are_bounds_within : List Str := ["_law_program", "_law_poly", "_law_pair"]
theorem sc_law_are_bounds_within : FnScope N_law_are_bounds_within ["_law_program"] (defScope S_law_are_bounds_within) := ⟨rfl, rfl, rfl, by decide +kernel, rfl, by decide +kernel, by decide +kernel⟩
theorem nd_law_are_bounds_within : N_law_are_bounds_within.Nodup := sc_law_are_bounds_within.nd
def spLB (K : PySem.W.Frag) : Nat → Sp
  | 0 => fun _ _ _ _ => False
  | n + 1 => fun vs H Q _ => ∃ v S cv cs b kl ns E, vs = [v, cv, .ref kl] ∧ Tp K H v (encScr S) ∧ OkScr S ∧ Tp K H cv (.tuple (encs S.nm cs)) ∧ okCs S.nm b cs ∧ b ≤ S.P.length ∧ dpts cs n ∧ cszs cs ≤ 1000 ∧ H kl = some (.lst ns) ∧ b ≤ ns.length ∧ (∀ x ∈ ns, NearV K H E x) ∧ E + 2 * n ≤ 50 ∧
    ∀ H' v, Same H H' → NearV K H' (E + 2 * n) v → Q v H'
section
variable {P : Program} {w : World} {K : PySem.W.Frag} {mg : Str → Option Value} {base : Heap} {a : Ads}
theorem fk_lb0 (T : Txt K mg w a) : Fk P w K mg base "_law_list_bounds" 3 ["_law_program", "_law_commands", "_law_known"] (spLB K 0) :=
  (show Df K mg "_law_list_bounds" (top 83) from T.fn 49 _ rfl).fk sc_law_list_bounds (fun vs H Q E h => h.elim) (fun _ _ _ _ _ _ us hl => match us, hl with | [_, _, _], _ => rfl) fun f cdv A outer s H vs Q E hr h => h.elim
theorem fk_lb (T : Txt K mg w a) : ∀ n, Fk P w K mg base "_law_list_bounds" (3 + n) ["_law_program", "_law_commands", "_law_known"] (spLB K n)
  | 0 => fk_lb0 T
  | n + 1 => by
    have F_law_list_bounds := fk_lb T n
    have F_law_summed := fk_law_summed (P := P) (base := base) T
    have F_law_product := fk_law_product (P := P) (base := base) T
    refine (show Df K mg "_law_list_bounds" (top 83) from T.fn 49 _ rfl).fk sc_law_list_bounds (fun vs H Q E h => ?_) (fun _ _ _ _ _ _ us hl => match us, hl with | [_, _, _], _ => rfl) fun f cdv A outer s H vs Q E hr h => ?_
    · obtain ⟨v, S, cv, cs, b, kl, ns, E, rfl, _⟩ := h
      rfl
    · obtain ⟨v, S, cv, cs, b, kl, ns, E, rfl, hv, ok, hcv, hok, hbl, hdp, hsz, hkl, hnb, hns, hE, k⟩ := h
      obtain ⟨p, x, y, z, rfl, hp, e1, e2, e3⟩ := tp_three hv
      obtain ⟨pz, zs, rfl, hz, rz⟩ := tp_tup e3
      have dz : Decl K H (S.names 2) zs := decl_of (g := encPr S.nm) (nmf := Prod.fst) (rest := fun d => .tuple (encs S.nm d.2)) (fun d => rfl) rz
      obtain ⟨pc, xs, rfl, hpc, rc⟩ := tp_tup hcv
      have lz := dz.1
      have lz2 := ok.nl 2
      have lc := rc.len
      rw [encs_map, List.length_map] at lc
      have lcs := len_cszs cs
      refine ⟨_, (pss_cons (ps_asg (pe_tup (pa_cons (pe_tup pa_nil) (pa_cons (pe_tup pa_nil) (pa_cons pe_int pa_nil)))) (pgT K rfl rfl (pgs_cons (pg_name (i := 3) nd_law_list_bounds rfl (by first | exact Or.inl rfl | exact Or.inr rfl)) (pgs_cons (pg_name (i := 4) nd_law_list_bounds rfl (by first | exact Or.inl rfl | exact Or.inr rfl)) (pgs_cons (pg_name (i := 5) nd_law_list_bounds rfl (by first | exact Or.inl rfl | exact Or.inr rfl)) pgs_nil)))))
      (pss_cons (ps_setLc (g := gTup K 2 (gCons (gName 10) (gCons (gName 11) gNil))) (i := 6) (own := [("_law_name", 10), ("_law_rest", 11)]) (by rfl) nd_law_list_bounds rfl rfl (sw_true rfl rfl rfl (by decide +kernel)) (pi_tup (pe_ix (ixT K rfl) (pv 0) pe_int (fun _ _ => rfl))) (blkOk_by (own := [("_law_name", 10), ("_law_rest", 11)]) (N := N_law_list_bounds) (sc := defScope S_law_list_bounds) (by decide +kernel)) (fun _ _ _ _ _ => (pgT K rfl rfl (pgs_cons (pg_name (i := 10) nd_law_list_bounds rfl (by first | exact Or.inl rfl | exact Or.inr rfl)) (pgs_cons (pg_name (i := 11) nd_law_list_bounds rfl (by first | exact Or.inl rfl | exact Or.inr rfl)) pgs_nil)))) (fun _ _ _ _ _ => pts_nil) (fun _ _ _ _ _ => (pv 10)))
      (pss_cons (ps_for PassesOwn.never rfl (pi_tup (pv 1)) (pg_name (i := 7) nd_law_list_bounds rfl (by first | exact Or.inl rfl | exact Or.inr rfl)) (pss_cons (ps_set (i := 3) nd_law_list_bounds rfl (by first | exact Or.inl rfl | exact Or.inr rfl) (pe_op (catT K rfl) (pv 3) (pe_tup (pa_cons (pe_tup (pa_cons pe_int (pa_cons pe_int pa_nil))) pa_nil))))
      (pss_one (ps_if (pt_cmpR op_eq (pe_ix (ixT K rfl) (pv 7) pe_int (fun _ _ => rfl)) pe_str (nomark _)) pss_never (pss_one (ps_if (pt_cmpR op_eq (pe_ix (ixT K rfl) (pv 7) pe_int (fun _ _ => rfl)) pe_str (nomark _)) (pss_cons (ps_set (i := 8) nd_law_list_bounds rfl (by first | exact Or.inl rfl | exact Or.inr rfl) (pe_ix (ixL K rfl) (pv 2) (pe_bm PySem.F.plainAttrs_list PySem.F.slot_list_index PySem.F.type_list_index mt_index (pv 6) (pa_cons (pe_ix (ixT K rfl) (pv 7) pe_int (fun _ _ => rfl)) pa_nil)) (fun _ _ => rfl)))
      (pss_one (ps_par (by rfl) nd_law_list_bounds (i := 3) (j := 4) rfl rfl (by decide) rfl rfl (pa_cons (pe_op (catT K rfl) (pv 3) (pe_ix (ixT K rfl) (pv 8) pe_int (fun _ _ => rfl))) (pa_cons (pe_op (catT K rfl) (pv 4) (pe_ix (ixT K rfl) (pv 8) pe_int (fun _ _ => rfl))) pa_nil)) (by rfl)))) (pss_one (ps_if (pt_cmpR op_eq (pe_ix (ixT K rfl) (pv 7) pe_int (fun _ _ => rfl)) pe_str (nomark _)) pss_never (pss_one (ps_if (pt_cmpR op_eq (pe_ix (ixT K rfl) (pv 7) pe_int (fun _ _ => rfl)) pe_str (nomark _)) (pss_cons (ps_set (i := 8) nd_law_list_bounds rfl (by first | exact Or.inl rfl | exact Or.inr rfl) (pe_f (F_law_list_bounds) (hr.mono (by show _ ≤ 3 + n; omega)) rfl (pa_cons (pv 0) (pa_cons (pe_ix (ixT K rfl) (pv 7) pe_int (fun _ _ => rfl)) (pa_cons (pv 2) pa_nil)))))
      (pss_cons (ps_set (i := 3) nd_law_list_bounds rfl (by first | exact Or.inl rfl | exact Or.inr rfl) (pe_op (catT K rfl) (pv 3) (pe_f (F_law_product) (hr.mono (by show _ ≤ 3 + n; omega)) rfl (pa_cons (pe_ix (ixT K rfl) (pv 7) pe_int (fun _ _ => rfl)) (pa_cons (pe_f (F_law_summed) (hr.mono (by show _ ≤ 3 + n; omega)) rfl (pa_cons (pe_op (catT K rfl) (pe_ix (ixT K rfl) (pv 8) pe_int (fun _ _ => rfl)) (pe_tup (pa_cons (pe_tup (pa_cons pe_int (pa_cons pe_int pa_nil))) pa_nil))) pa_nil)) pa_nil)))))
      (pss_one (ps_par (by rfl) nd_law_list_bounds (i := 4) (j := 5) rfl rfl (by decide) rfl rfl (pa_cons (pe_op (catT K rfl) (pv 4) (pe_f (F_law_product) (hr.mono (by show _ ≤ 3 + n; omega)) rfl (pa_cons (pe_ix (ixT K rfl) (pv 7) pe_int (fun _ _ => rfl)) (pa_cons (pe_ix (ixT K rfl) (pv 8) pe_int (fun _ _ => rfl)) pa_nil)))) (pa_cons (pe_op op_add (pe_op op_add (pv 5) (pe_ix (ixT K rfl) (pv 8) pe_int (fun _ _ => rfl))) pe_int) pa_nil)) (by rfl))))) pss_nil))))))))))
      (pss_one (ps_ret (pe_tup (pa_cons (pe_f (F_law_summed) (hr.mono (by show _ ≤ 3 + n; omega)) rfl (pa_cons (pv 3) pa_nil)) (pa_cons (pe_f (F_law_summed) (hr.mono (by show _ ≤ 3 + n; omega)) rfl (pa_cons (pv 4) pa_nil)) (pa_cons (pv 5) pa_nil))))))))), ?_⟩
      refine ⟨Nat.zero_le _, fun t1 ht1 => ⟨Nat.zero_le _, fun t2 ht2 => ⟨small_le (by show 3 ≤ 1000000; decide), fun t0 ht0 => ⟨t0, _, rfl, SqT.of upd_same, rfl, _, _, rfl, _, _, rfl, _, _, rfl, rfl, ?_⟩⟩⟩⟩
      have s1 := same_new (o := .tup []) ht1
      have s20 := same_new (o := .tup [.ref t1, .ref t2, .int 0]) ht0
      have s2 := (s1.trans (same_new (o := .tup []) ht2)).trans s20
      have ht12 : SqT K (upd (upd (upd H t1 (.tup [])) t2 (.tup [])) t0 (.tup [.ref t1, .ref t2, .int 0])) t1 [] := s20.tq ((same_new ht2).tq (SqT.of upd_same))
      refine ⟨_, rfl, _, _, _, _, rfl, rfl, s2.tq hp, rfl, pz, rfl, ⟨_, s2.tq hz⟩, fun nl hnl => ?_⟩
      refine lc_all walk_tup hnl (small_line (by omega)) (vS (S.names 2)) (by rw [vS, List.length_map, lz]) (fun H3 s3 => s3.tq (s2.tq hz)) ?_ ?_
      · rintro i u H3 H4 hi s3 ⟨rfl, hu⟩ Kq q
        obtain ⟨t, zz, yy, rfl, ez, ht⟩ := ((dz.same s2).same s3).2 i u hu
        exact ⟨t, _, rfl, ht, rfl, _, _, rfl, _, _, rfl, rfl, rfl, _, rfl, q _ _ (Same.refl _) (by rw [vS, List.getElem?_map, ez]; rfl)⟩
      intro H3 s3 hnl3
      have s03 := s2.trans s3
      refine ⟨_, rfl, pc, rfl, ⟨_, s03.tq hpc⟩, ?_⟩
      refine for_it walk_tup (fun i σ H' => ∃ st mn, ∃ r : Int, ∃ z7 z8 z9 xs1 xs2, σ = [some (.ref p), some (.ref pc), some (.ref kl), some (.ref st), some (.ref mn), some (.int r), some (.ref nl), z7, z8, z9, none, none] ∧ Same H H' ∧ H' nl = some (.lst (vS (S.names 2))) ∧ SqT K H' st xs1 ∧ SqT K H' mn xs2 ∧ Prs K H' (E + 2 * n) xs1 ∧ Prs K H' (E + 2 * n) xs2 ∧ xs1.length ≤ 130 * i ∧ xs2.length ≤ 130 * i ∧ 0 ≤ r) ⟨t1, t2, 0, none, none, none, [], [], rfl, s03, hnl3, s3.tq ht12, s3.tq (s20.tq (SqT.of upd_same)), Prs.nil, Prs.nil, Nat.zero_le _, Nat.zero_le _, by decide⟩ (fun i σ H' _ ⟨_, _, _, _, _, _, _, _, _, s4, _⟩ => s4.tq hpc) ?_ ?_
      · rintro i u σ H4 H5 hi ⟨st, mn, r, z7, z8, z9, xs1, xs2, rfl, s4, hnl4, hst, hmn, hp1, hp2, hl1, hl2, hr0⟩ ⟨rfl, hu⟩
        obtain ⟨d, hd, hut⟩ := (rc.same s4).at hu
        rw [encs_map, List.getElem?_map] at hd
        cases ec : cs[i]? with
        | none =>
          rw [ec] at hd
          cases hd
        | some c =>
        rw [ec] at hd
        cases hd
        have hcm := List.mem_of_getElem? ec
        have hokc := okCs_mem hok hcm
        have hdc := dpts_mem hdp hcm
        have hzc := cszs_mem hcm
        have hi2 : i < cs.length := by omega
        -- one step more
        refine ⟨_, rfl, el_one (K := K) (x := 0) (y := 1) fun H6 v6 s6 t6 => ?_⟩
        obtain ⟨b6, y6, rfl, hb6, r6⟩ := tp_tup t6
        have hp6 : Prs K H6 (E + 2 * n) y6 := prs_poly (p := [(0, 1)]) r6 (by intro q hq; cases List.mem_singleton.mp hq; exact Nat.zero_le _)
        have l6 : y6.length = 1 := r6.len
        refine cat_any (s6.tq hst) hb6 (small_le (by omega)) fun H7 st7 s7 hst7 => ?_
        have s67 := s6.trans s7
        have s07 := s4.trans s67
        have hp17 : Prs K H7 (E + 2 * n) (xs1 ++ y6) := (hp1.kept s67.kept).app (hp6.kept s7.kept)
        have hl17 : (xs1 ++ y6).length ≤ 130 * i + 1 := by
          rw [List.length_append]
          omega
        have hut7 := hut.same s67
        have hnl7 := s67 _ _ hnl4
        have hmn7 := s67.tq hmn
        have hp27 := hp2.kept s67.kept
        generalize (xs1 ++ y6) = xs17 at hst7 hp17 hl17
        cases c with
        | ifat cs ds => exact hdc.elim
        | up x =>
          obtain ⟨cp, u1, u2, rfl, hcp, g1, g2⟩ := tp_two hut7
          cases tp_str g1
          refine ⟨_, rfl, _, _, _, _, rfl, rfl, hcp, rfl, rfl, _, rfl, iteN ⟨_, rfl, _, _, _, _, rfl, rfl, hcp, rfl, rfl, _, rfl, iteN ⟨_, rfl, _, _, _, _, rfl, rfl, hcp, rfl, rfl, _, rfl, iteN ⟨_, rfl, _, _, _, _, rfl, rfl, hcp, rfl, rfl, _, rfl, iteN ?_⟩⟩⟩⟩
          exact ⟨st7, mn, r, _, _, _, xs17, xs2, rfl, s07, hnl7, hst7, hmn7, hp17, hp27, by omega, by omega, hr0⟩
        | zero x =>
          obtain ⟨cp, u1, u2, rfl, hcp, g1, g2⟩ := tp_two hut7
          cases tp_str g1
          refine ⟨_, rfl, _, _, _, _, rfl, rfl, hcp, rfl, rfl, _, rfl, iteN ⟨_, rfl, _, _, _, _, rfl, rfl, hcp, rfl, rfl, _, rfl, iteN ⟨_, rfl, _, _, _, _, rfl, rfl, hcp, rfl, rfl, _, rfl, iteN ⟨_, rfl, _, _, _, _, rfl, rfl, hcp, rfl, rfl, _, rfl, iteN ?_⟩⟩⟩⟩
          exact ⟨st7, mn, r, _, _, _, xs17, xs2, rfl, s07, hnl7, hst7, hmn7, hp17, hp27, by omega, by omega, hr0⟩
        | win =>
          obtain ⟨cp, u1, u2, rfl, hcp, g1, g2⟩ := tp_two hut7
          cases tp_str g1
          refine ⟨_, rfl, _, _, _, _, rfl, rfl, hcp, rfl, rfl, _, rfl, iteN ⟨_, rfl, _, _, _, _, rfl, rfl, hcp, rfl, rfl, _, rfl, iteN ⟨_, rfl, _, _, _, _, rfl, rfl, hcp, rfl, rfl, _, rfl, iteN ⟨_, rfl, _, _, _, _, rfl, rfl, hcp, rfl, rfl, _, rfl, iteN ?_⟩⟩⟩⟩
          exact ⟨st7, mn, r, _, _, _, xs17, xs2, rfl, s07, hnl7, hst7, hmn7, hp17, hp27, by omega, by omega, hr0⟩
        | call q =>
          obtain ⟨cp, u1, u2, rfl, hcp, g1, g2⟩ := tp_two hut7
          cases tp_str g1
          cases tp_str g2
          have hqb : q < b := hokc.1
          have hnm : (S.names 2)[q]? = some (S.nm q) := by
            show (S.P.map (·.1))[q]? = _
            rw [List.getElem?_map, List.getElem?_eq_getElem (by omega : q < S.P.length)]
            exact congrArg some (ok.pok q _ (List.getElem?_eq_getElem (by omega : q < S.P.length))).1
          have hnq : ns[q]? = some (ns[q]'(by omega)) := List.getElem?_eq_getElem (by omega)
          obtain ⟨tn, sn, mv, rn, en, hn1, ⟨ba, xa, rfl, hba, hla, hpa⟩, ⟨bb, xb, rfl, hbb, hlb, hpb⟩, hn4⟩ := (hns _ (List.mem_of_getElem? hnq)).kept s07.kept
          rw [en] at hnq
          refine ⟨_, rfl, _, _, _, _, rfl, rfl, hcp, rfl, rfl, _, rfl, iteN ⟨_, rfl, _, _, _, _, rfl, rfl, hcp, rfl, rfl, _, rfl, iteY ?_⟩⟩
          refine ⟨_, rfl, _, rfl, .inl ⟨rfl, _, SqL.of hnl7⟩, _, rfl, _, _, _, _, rfl, rfl, hcp, rfl, nl, vS (S.names 2), _, q, .str (S.nm q), rfl, rfl, SqL.of hnl7, rfl, flat_vS _, by rw [vS, List.getElem?_map, hnm]; rfl, (by show (S.nm q == S.nm q) = true; simp), fun m z' hm hz' => ?_, kl, ns, (q : Nat), _, rfl, rfl, SqL.of (s07 _ _ hkl), atI_nat hnq, ?_⟩
          · rw [vS, List.getElem?_map] at hz'
            have hmP : m < S.P.length := by omega
            have hnm2 : (S.names 2)[m]? = some (S.nm m) := by
              show (S.P.map (·.1))[m]? = _
              rw [List.getElem?_map, List.getElem?_eq_getElem hmP]
              exact congrArg some (ok.pok m _ (List.getElem?_eq_getElem hmP)).1
            rw [hnm2] at hz'
            cases hz'
            show (S.nm m == S.nm q) = false
            refine beq_eq_false_iff_ne.mpr fun e => ?_
            have := ok.inj m q hmP (by omega) e
            omega
          · refine ⟨_, rfl, _, rfl, _, _, _, _, rfl, rfl, hn1, rfl, cat_any hst7 hba (small_le (by omega)) fun H8 st8 s8 hst8 => ⟨_, rfl, _, rfl, _, _, _, _, rfl, rfl, s8.tq hn1, rfl, cat_any (s8.tq hmn7) (s8.tq hbb) (small_le (by omega)) fun H9 mn9 s9 hmn9 => ⟨_, _, rfl, ?_⟩⟩⟩
            have s89 := s8.trans s9
            exact ⟨st8, mn9, r, _, _, _, _, _, rfl, s07.trans s89, s89 _ _ hnl7, s9.tq hst8, hmn9, ((hp17.kept s89.kept).app ((hpa.up (by omega)).kept s89.kept)), ((hp27.kept s89.kept).app ((hpb.up (by omega)).kept s89.kept)), by rw [List.length_append]; omega, by rw [List.length_append]; omega, hr0⟩
        | rep q cs' =>
          obtain ⟨hq, m, rfl, hdm⟩ := hdc
          obtain ⟨cp, u1, u2, u3, rfl, hcp, g1, g2, g3⟩ := tp_three hut7
          cases tp_str g1
          have hzc' : 1 + cszs cs' ≤ cszs cs := by
            have h := hzc
            rw [csz] at h
            exact h
          refine ⟨_, rfl, _, _, _, _, rfl, rfl, hcp, rfl, rfl, _, rfl, iteN ⟨_, rfl, _, _, _, _, rfl, rfl, hcp, rfl, rfl, _, rfl, iteN ⟨_, rfl, _, _, _, _, rfl, rfl, hcp, rfl, rfl, _, rfl, iteN ⟨_, rfl, _, _, _, _, rfl, rfl, hcp, rfl, rfl, _, rfl, iteY ?_⟩⟩⟩⟩
          refine ⟨_, rfl, _, rfl, _, _, _, _, rfl, rfl, hcp, rfl, _, rfl, .ref p, S, u3, cs', b, kl, ns, E, rfl, hv.same s07, ok, g3, hokc.2, hbl, hdm, by omega, s07 _ _ hkl, hnb, fun x hx => (hns x hx).kept s07.kept, by omega, fun H8 v8 s8 hn8 => ?_⟩
          obtain ⟨tn, sn, mv, rn, rfl, hn1, ⟨ba, xa, rfl, hba, hla, hpa⟩, hmv, hn4⟩ := hn8
          have s08 := s07.trans s8
          -- steps
          refine ⟨_, rfl, _, rfl, _, _, _, _, rfl, rfl, s8.tq hcp, rfl, _, rfl, _, _, _, _, rfl, rfl, hn1, rfl, el_one (K := K) (x := 0) (y := 1) fun H9 v9 s9 t9 => ?_⟩
          obtain ⟨b9, y9, rfl, hb9, r9⟩ := tp_tup t9
          have l9 : y9.length = 1 := r9.len
          have hp9 : Prs K H9 (E + 2 * m) y9 := prs_poly (p := [(0, 1)]) r9 (by intro q hq; cases List.mem_singleton.mp hq; exact Nat.zero_le _)
          refine cat_any (s9.tq hba) hb9 (small_le (by omega)) fun H10 v10 s10 hv10 => ?_
          have s810 := s9.trans s10
          refine ⟨v10, _, E + 2 * m, rfl, hv10, (hpa.kept s810.kept).app (hp9.kept s10.kept), by omega, by rw [List.length_append]; omega, fun H11 v11 s11 hv11 => ?_⟩
          have s811 := s810.trans s11
          refine ⟨u2, v11, q, E + 2 * m, rfl, g2.same (s8.trans s811), hq, hv11, by omega, fun H12 v12 s12 hv12 => ?_⟩
          obtain ⟨b12, y12, rfl, hb12, l12, hp12⟩ := hv12
          have s812 := s811.trans s12
          have s712 := s8.trans s812
          refine cat_any (s712.tq hst7) hb12 (small_le (by omega)) fun H13 st13 s13 hst13 => ?_
          have s713 := s712.trans s13
          -- many
          refine ⟨_, rfl, _, rfl, _, _, _, _, rfl, rfl, s713.tq hcp, rfl, _, rfl, _, _, _, _, rfl, rfl, (s812.trans s13).tq hn1, rfl, u2, mv, q, E + 2 * m, rfl, g2.same s713, hq, hmv.kept (s812.trans s13).kept, by omega, fun H14 v14 s14 hv14 => ?_⟩
          obtain ⟨b14, y14, rfl, hb14, l14, hp14⟩ := hv14
          have s714 := s713.trans s14
          refine cat_any (s714.tq hmn7) hb14 (small_le (by omega)) fun H15 mn15 s15 hmn15 => ?_
          have s715 := s714.trans s15
          refine ⟨_, rfl, _, rfl, _, _, _, _, rfl, rfl, (((s812.trans s13).trans s14).trans s15).tq hn1, rfl, _, _, rfl, rfl, _, _, rfl, rfl, _, _, rfl, ?_⟩
          exact ⟨st13, mn15, _, _, _, _, _, _, rfl, s07.trans s715, s715 _ _ hnl7, (s14.trans s15).tq hst13, hmn15, (hp17.kept s715.kept).app ((hp12.up (by omega)).kept ((s13.trans s14).trans s15).kept), (hp27.kept s715.kept).app ((hp14.up (by omega)).kept s15.kept), by rw [List.length_append]; omega, by rw [List.length_append]; omega, by omega⟩
      · rintro σ H4 ⟨st, mn, r, z7, z8, z9, xs1, xs2, rfl, s4, hnl4, hst, hmn, hp1, hp2, hl1, hl2, hr0⟩
        refine ⟨_, rfl, st, xs1, E + 2 * n, rfl, hst, hp1, by omega, by omega, fun H5 v5 s5 hv5 => ?_⟩
        refine ⟨_, rfl, mn, xs2, E + 2 * n, rfl, s5.tq hmn, hp2.kept s5.kept, by omega, by omega, fun H6 v6 s6 hv6 => ?_⟩
        refine ⟨_, rfl, small_le (by show 3 ≤ 1000000; decide), fun t ht => ?_⟩
        have s7 := same_new (o := .tup [v5, v6, .int r]) ht
        exact k _ _ (((s4.trans s5).trans s6).trans s7) ⟨t, v5, v6, r, rfl, SqT.of upd_same, hv5.kept (s6.trans s7).kept, hv6.kept s7.kept, hr0⟩
def spBds (K : PySem.W.Frag) : Sp := fun vs H Q _ => ∃ v S, vs = [v] ∧ Tp K H v (encScr S) ∧ OkScr S ∧ S.tapes = [(("t" : Str), ([(0, 1)] : Poly))] ∧ S.P.length ≤ 5 ∧ (∀ d ∈ S.P, dpts d.2 2) ∧
  ∀ H' t x y z, Same H H' → SqT K H' t [x, y, z] → PolyV K H' 20 x → PolyV K H' 20 y → PolyV K H' 20 z → Q (.ref t) H'
theorem fk_law_bounds (T : Txt K mg w a) : Fk P w K mg base "_law_bounds" 7 ["_law_program"] (spBds K) := by
  have F_law_list_bounds := fk_lb (P := P) (base := base) T 3
  have F_law_summed := fk_law_summed (P := P) (base := base) T
  refine (show Df K mg "_law_bounds" (top 84) from T.fn 50 _ rfl).fk sc_law_bounds (fun vs H Q E h => ?_) (fun _ _ _ _ _ _ us hl => match us, hl with | [_], _ => rfl) fun f cdv A outer s H vs Q E hr h => ?_
  · obtain ⟨v, S, rfl, _⟩ := h
    rfl
  · obtain ⟨v, S, rfl, hv, ok, htp, hP5, hdp, k⟩ := h
    have hu := hu_of hr
    obtain ⟨p, x, y, z, rfl, hp, e1, e2, e3⟩ := tp_three hv
    obtain ⟨px, xs, rfl, hx, rx⟩ := tp_tup e1
    obtain ⟨py, ys, rfl, hy, ry⟩ := tp_tup e2
    obtain ⟨pz, zs, rfl, hz, rz⟩ := tp_tup e3
    have lz := rz.len
    rw [List.length_map] at lz
    have hPp := ok.ppos
    refine ⟨_, (pss_cons (ps_par (by rfl) nd_law_bounds (i := 1) (j := 2) rfl rfl (by decide) rfl rfl (pa_cons (pe_lst pa_nil) (pa_cons pe_int pa_nil)) (by rfl))
      (pss_cons (ps_for PassesOwn.never rfl (pi_tup (pe_ix (ixT K rfl) (pv 0) pe_int (fun _ _ => rfl))) (pgT K rfl rfl (pgs_cons (pg_name (i := 3) nd_law_bounds rfl (by first | exact Or.inl rfl | exact Or.inr rfl)) (pgs_cons (pg_name (i := 4) nd_law_bounds rfl (by first | exact Or.inl rfl | exact Or.inr rfl)) pgs_nil))) (pss_cons (ps_set (i := 5) nd_law_bounds rfl (by first | exact Or.inl rfl | exact Or.inr rfl) (pe_f (F_law_list_bounds) (hr.mono (by decide)) rfl (pa_cons (pv 0) (pa_cons (pv 4) (pa_cons (pv 1) pa_nil)))))
      (pss_cons (ps_expr (pe_bm PySem.F.plainAttrs_list PySem.F.slot_list_append PySem.F.type_list_append mt_append (pv 1) (pa_cons (pv 5) pa_nil)))
      (pss_one (ps_set (i := 2) nd_law_bounds rfl (by first | exact Or.inl rfl | exact Or.inr rfl) (pe_op op_add (pv 2) (pe_ix (ixT K rfl) (pv 5) pe_int (fun _ _ => rfl))))))))
      (pss_cons (ps_asg (pe_ifExp (pt_cmpR (neE K rfl hu) (pv 1) (pe_lst pa_nil) (nomark _)) (pe_slice (slT K rfl) (pe_ix (ixL K rfl) (pv 1) (pe_un un_neg pe_int) (fun _ _ => rfl)) po_none (po_some pe_int)) (pe_tup (pa_cons (pe_tup pa_nil) (pa_cons (pe_tup pa_nil) pa_nil)))) (pgT K rfl rfl (pgs_cons (pg_name (i := 6) nd_law_bounds rfl (by first | exact Or.inl rfl | exact Or.inr rfl)) (pgs_cons (pg_name (i := 7) nd_law_bounds rfl (by first | exact Or.inl rfl | exact Or.inr rfl)) pgs_nil))))
      (pss_cons (ps_set (i := 8) nd_law_bounds rfl (by first | exact Or.inl rfl | exact Or.inr rfl) (pe_callB (cr_sumT rfl) (by rfl) T.sum (by decide +kernel) (pa_cons (pe_lc (g := gTup K 2 (gCons (gName 3) (gCons (gName 9) gNil))) (own := [("_law_name", 3), ("_law_size", 9)]) (by rfl) nd_law_bounds (pi_tup (pe_ix (ixT K rfl) (pv 0) pe_int (fun _ _ => rfl))) (blkOk_by (own := [("_law_name", 3), ("_law_size", 9)]) (N := N_law_bounds) (sc := defScope S_law_bounds) (by decide +kernel)) (fun _ _ _ _ _ => (pgT K rfl rfl (pgs_cons (pg_name (i := 3) nd_law_bounds rfl (by first | exact Or.inl rfl | exact Or.inr rfl)) (pgs_cons (pg_name (i := 9) nd_law_bounds rfl (by first | exact Or.inl rfl | exact Or.inr rfl)) pgs_nil)))) (fun _ _ _ _ _ => pts_nil) (fun _ _ _ _ _ => (pv 9))) (pa_cons (pe_tup pa_nil) pa_nil))))
      (pss_one (ps_ret (pe_tup (pa_cons (pv 6) (pa_cons (pv 7) (pa_cons (pe_f (F_law_summed) (hr.mono (by decide)) rfl (pa_cons (pe_op (catT K rfl) (pe_op (catT K rfl) (pe_op (catT K rfl) (pe_tup (pa_cons (pe_tup (pa_cons pe_int (pa_cons pe_int pa_nil))) pa_nil)) (pv 8)) (pe_tup (pa_cons (pe_tup (pa_cons pe_int (pa_cons (pe_op op_add (pe_op op_add (pe_callB (lenS K rfl) (by rfl) T.len (by decide +kernel) (pa_cons (pe_ix (ixT K rfl) (pv 0) pe_int (fun _ _ => rfl)) pa_nil)) (pv 2)) (pe_callB (lenS K rfl) (by rfl) T.len (by decide +kernel) (pa_cons (pe_ix (ixT K rfl) (pv 0) pe_int (fun _ _ => rfl)) pa_nil))) pa_nil))) pa_nil))) (pv 7)) pa_nil)) pa_nil)))))))))), ?_⟩
    refine ⟨Nat.zero_le _, fun kl hkl => ⟨_, _, rfl, ?_⟩⟩
    have s0 := same_new (o := .lst []) hkl
    refine ⟨_, rfl, _, _, _, _, rfl, rfl, s0.tq hp, rfl, pz, rfl, ⟨_, s0.tq hz⟩, ?_⟩
    refine for_it walk_tup (fun i σ H' => ∃ r : Int, ∃ z3 z4 z5 ns, σ = [some (.ref p), some (.ref kl), some (.int r), z3, z4, z5, none, none, none, none] ∧ Same H H' ∧ H' kl = some (.lst ns) ∧ ns.length = i ∧ (∀ x ∈ ns, NearV K H' (4 * i) x) ∧ 0 ≤ r) ⟨0, none, none, none, [], rfl, s0, upd_same, rfl, fun x hx => absurd hx List.not_mem_nil, by decide⟩ (fun i σ H' _ ⟨_, _, _, _, _, _, s1, _⟩ => s1.tq hz) ?_ ?_
    · rintro i u σ H1 H2 hi ⟨r, z3, z4, z5, ns, rfl, s1, hkl1, hnl, hns, hr0⟩ ⟨rfl, hu1⟩
      obtain ⟨d, hd, hut⟩ := (rz.same s1).at hu1
      rw [List.getElem?_map] at hd
      cases eP : S.P[i]? with
      | none =>
        rw [eP] at hd
        cases hd
      | some pr =>
      rw [eP] at hd
      cases hd
      obtain ⟨o1, o2, o3, o4⟩ := ok.pok i pr eP
      obtain ⟨t, u1, u2, rfl, ht, g1, g2⟩ := tp_two hut
      cases tp_str g1
      refine ⟨t, _, rfl, ht, rfl, _, _, rfl, _, _, rfl, rfl, ?_⟩
      have hi5 : i < 5 := by omega
      refine ⟨_, rfl, _, rfl, _, rfl, .ref p, S, u2, pr.2, i, kl, ns, 4 * i, rfl, hv.same s1, ok, g2, o3, by omega, hdp _ (List.mem_of_getElem? eP), o4, hkl1, by omega, hns, (by show 4 * i + 2 * 2 ≤ 50; omega), fun H3 v3 s3 hv3' => ?_⟩
      have hv3 : NearV K H3 (4 * i + 2 * 2) v3 := hv3'
      have hkl3 := s3 _ _ hkl1
      refine ⟨_, rfl, .inl ⟨rfl, _, SqL.of hkl3⟩, _, rfl, kl, ns, _, rfl, rfl, hkl3, small_line (by omega), ?_⟩
      have k4 : Kept H3 (upd H3 kl (.lst (ns ++ [v3]))) := (Kept.refl _).write hkl3 True.intro
      have s4 : Same H (upd H3 kl (.lst (ns ++ [v3]))) := (s1.trans s3).upd hkl
      have hv4 := hv3.kept k4
      obtain ⟨tn, sn, mv, rn, rfl, hn1, hn2, hn3, hn4⟩ := hv3.kept k4
      refine ⟨_, rfl, _, rfl, _, _, _, _, rfl, rfl, hn1, rfl, _, _, rfl, rfl, ?_⟩
      refine ⟨_, _, _, _, _, rfl, s4, upd_same, by rw [List.length_append, hnl]; rfl, fun x hx => ?_, by omega⟩
      rcases List.mem_append.mp hx with hx | hx
      · exact ((hns x hx).kept (s3.kept.trans k4)).up (by omega)
      · cases List.mem_singleton.mp hx
        exact hv4.up (by omega)
    · rintro σ H1 ⟨r, z3, z4, z5, ns, rfl, s1, hkl1, hnl, hns, hr0⟩
      refine ⟨_, rfl, Nat.zero_le _, fun t1 ht1 => ?_⟩
      have s2 : Same H1 (upd H1 t1 (.lst [])) := same_new ht1
      have s02 := s1.trans s2
      refine ⟨kl, t1, ns, rfl, rfl, .inl ⟨SqL.of (s2 _ _ hkl1), SqL.of upd_same⟩, _, rfl, ?_⟩
      rcases List.eq_nil_or_concat ns with rfl | ⟨ns', nv, rfl⟩
      · exfalso
        rw [List.length_nil] at hnl
        omega
      · rw [List.concat_eq_append] at *
        have hne : (!(ns' ++ [nv]).isEmpty) = true := by cases ns' <;> rfl
        show if (!(ns' ++ [nv]).isEmpty) = true then _ else _
        rw [hne]
        obtain ⟨tn, sn, mv, rn, rfl, hn1, hn2, hn3, hn4⟩ := (hns nv (List.mem_append_right _ (List.mem_singleton.mpr rfl))).kept s2.kept
        refine iteT ⟨_, rfl, _, rfl, _, _, _, _, rfl, rfl, SqL.of (s2 _ _ hkl1), atI_last _ _, 2, rfl, tn, _, rfl, hn1, fun e => ?_, fun _ q hq => ?_⟩
        · exact absurd e.2 (by show ¬ (min 2 3 : Nat) = 3; decide)
        · have hcut : cutV [sn, mv, V.int rn] none (some 2) = [sn, mv] := rfl
          rw [hcut]
          have s3 := s02.trans (same_new (o := .tup [sn, mv]) hq)
          have hn2 := hn2.kept (same_new (o := .tup [sn, mv]) hq).kept
          have hn3 := hn3.kept (same_new (o := .tup [sn, mv]) hq).kept
          refine ⟨q, _, rfl, SqT.of upd_same, rfl, _, _, rfl, _, _, rfl, rfl, ?_⟩
          generalize (upd (upd H1 t1 (.lst [])) q (.tup [sn, mv])) = H3 at s3 hn2 hn3 ⊢
          have hn2 : PolyV K H3 20 sn := hn2.up (by omega)
          have hn3 : PolyV K H3 20 mv := hn3.up (by omega)
          obtain ⟨bm, xm, rfl, hbm, hlm, hpm⟩ := hn3
          -- the sizes
          rw [htp] at rx
          obtain ⟨x1, r1, rfl, hx1, rx⟩ := tpa_cons rx
          cases tpa_nil rx
          obtain ⟨tt, ty, rfl, htt, hty⟩ := tp_encD hx1
          obtain ⟨by_, yy, rfl, hyy, ryy⟩ := tp_tup hty
          have lyy : yy.length = 1 := ryy.len
          refine ⟨_, rfl, _, _, _, _, rfl, rfl, s3.tq hp, rfl, px, rfl, ⟨_, s3.tq hx⟩, fun D hD => ?_⟩
          refine lc_all (walk_tup (xs := [V.ref tt])) hD (small_line (by show 1 ≤ 1000000; decide)) [.ref by_] rfl (fun H4 s4 => s4.tq (s3.tq hx)) ?_ ?_
          · rintro i u H4 H5 hi s4 ⟨rfl, hu⟩ Kq qq
            have hi0 : i = 0 := by
              have : i < 1 := hi
              omega
            subst hi0
            cases Option.some.inj hu
            exact ⟨tt, _, rfl, (s3.trans s4).tq htt, rfl, _, _, rfl, _, _, rfl, rfl, rfl, _, rfl, qq _ _ (Same.refl _) rfl⟩
          intro H4 s4 h4
          refine ⟨Nat.zero_le _, fun e0 he0 => ?_⟩
          have s5 := same_new (o := .tup []) he0
          have s05 := (s3.trans s4).trans s5
          refine ⟨D, by_, e0, yy, rfl, SqL.of (s5 _ _ h4), s05.tq hyy, SqT.of upd_same, ?_⟩
          have s35 := s4.trans s5
          generalize (upd H4 e0 (.tup [])) = H5 at s05 s35 ⊢
          -- the answer
          refine ⟨_, rfl, _, rfl, ?_⟩
          dsimp only [tCall, tCons, tOp]
          refine el_one (K := K) (x := 1) (y := 1) fun H6 v6 s6 t6 => ?_
          obtain ⟨b6, y6, rfl, hb6, r6⟩ := tp_tup t6
          have l6 : y6.length = 1 := r6.len
          have hp6 : Prs K H6 20 y6 := prs_poly (p := [(1, 1)]) r6 (by intro q hq; cases List.mem_singleton.mp hq; decide)
          have hpy : Prs K H 20 yy := prs_poly (p := [(0, 1)]) ryy (by intro q hq; cases List.mem_singleton.mp hq; decide)
          have s06 := s05.trans s6
          refine ⟨_, rfl, cat_any hb6 (s06.tq hyy) (small_le (by omega)) fun H7 v7 s7 hv7 => ?_⟩
          have s07 := s06.trans s7
          refine ⟨_, rfl, _, _, _, _, rfl, rfl, s07.tq hp, rfl, _, _, rfl, .inr (s07.tq hy), _, rfl, _, _, rfl, rfl, _, rfl, _, _, _, _, rfl, rfl, s07.tq hp, rfl, _, _, rfl, .inr (s07.tq hz), _, _, rfl, rfl, small_le (by show 2 ≤ 1000000; decide), fun ta hta => ⟨small_le (by show 1 ≤ 1000000; decide), fun tb htb => ?_⟩⟩
          have s8 := same_new (o := .tup [.int 0, .int (((ys.length : Nat) : Int) + r + ((zs.length : Nat) : Int))]) hta
          have s9 := same_new (o := .tup [.ref ta]) htb
          have s89 := s8.trans s9
          refine cat_any (s89.tq hv7) (SqT.of upd_same) (small_le (by rw [List.length_append]; show _ + 1 ≤ _; omega)) fun H10 v10 s10 hv10 => ?_
          have s710 := s89.trans s10
          have s310 := (s35.trans s6).trans (s7.trans s710)
          refine ⟨_, rfl, cat_any hv10 (s310.tq hbm) (small_le (by rw [List.length_append, List.length_append]; show _ + 1 + _ ≤ _; omega)) fun H11 v11 s11 hv11 => ?_⟩
          have s311 := s310.trans s11
          have hone : Prs K H11 20 [V.ref ta] := fun x hx => by
            cases List.mem_singleton.mp hx
            exact ⟨ta, 0, _, rfl, ((s9.trans s10).trans s11).tq (SqT.of upd_same), by decide, by decide, by omega⟩
          refine ⟨v11, _, 20, rfl, hv11, ?_, by decide, ?_, fun H12 v12 s12 hv12 => ⟨small_le (by show 3 ≤ 1000000; decide), fun t ht => ?_⟩⟩
          · exact (((hp6.kept ((s7.trans s710).trans s11).kept).app (hpy.kept (s07.trans (s710.trans s11)).kept)).app hone).app (hpm.kept s311.kept)
          · rw [List.length_append, List.length_append, List.length_append]
            show _ + 1 + _ ≤ _
            omega
          · have s13 := same_new (o := .tup [sn, .ref bm, v12]) ht
            have s3F := (s311.trans s12).trans s13
            exact k _ t sn (.ref bm) v12 (s3.trans s3F) (SqT.of upd_same) (hn2.kept s3F.kept) ⟨bm, xm, rfl, s3F.tq hbm, hlm, hpm.kept s3F.kept⟩ (hv12.kept s13.kept)
end
end NPK
set_option Elab.async false
set_option linter.all false
set_option maxRecDepth 100000
set_option maxHeartbeats 2000000
namespace NPK
open PySem PySem.Spec PyProof.Rows L2 NP
theorem blk_any {N : List Str} {sc sc' scope : Scope} {own : List (Str × Nat)} (h : BlkOk N sc scope own) (nf : (scope.names.all fun y => !(y.2 == .free)) = true) : BlkOk N sc' scope own :=
  ⟨h.kind, h.uniq, h.ix, fun y hy e => by
    have := List.all_eq_true.mp nf y hy
    rw [e] at this
    exact absurd this (by decide), h.own⟩
theorem piT {X : Cx} {tg l : Expr} {tl : TE} (K : PySem.W.Frag) (h : X.K = K) (hl : PE X l tl) : PI X tg l (iTup K tl) := h ▸ pi_tup hl
def spWithin (K : PySem.W.Frag) : Sp := fun vs H Q _ => ∃ v S, vs = [v] ∧ Tp K H v (encScr S) ∧ OkScr S ∧ S.tapes = [(("t" : Str), ([(0, 1)] : Poly))] ∧ S.P.length ≤ 5 ∧ (∀ d ∈ S.P, dpts d.2 2) ∧ ∀ H' b, Same H H' → Q (.bl b) H'
section
variable {P : Program} {w : World} {K : PySem.W.Frag} {mg : Str → Option Value} {base : Heap} {a : Ads}
theorem fk_law_within (T : Txt K mg w a) : Fk P w K mg base "_law_are_bounds_within" 8 ["_law_program"] (spWithin K) := by
  have F_law_bounds := fk_law_bounds (P := P) (base := base) T
  refine (show Df K mg "_law_are_bounds_within" (top 85) from T.fn 51 _ rfl).fk sc_law_are_bounds_within (fun vs H Q E h => ?_) (fun _ _ _ _ _ _ us hl => match us, hl with | [_], _ => rfl) fun f cdv A outer s H vs Q E hr h => ?_
  · obtain ⟨v, S, rfl, _⟩ := h
    rfl
  · obtain ⟨v, S, rfl, hv, ok, htp, hP5, hdp, k⟩ := h
    have hu := hu_of hr
    refine ⟨_, (pss_one (ps_ret (pe_cmpR (eqE K rfl hu) (pe_lc (own := [("_law_poly", 1)]) (by rfl) nd_law_are_bounds_within (pi_tup (pe_f (F_law_bounds) (hr.mono (by decide)) rfl (pa_cons (pv 0) pa_nil))) (blkOk_by (own := [("_law_poly", 1)]) (N := N_law_are_bounds_within) (sc := defScope S_law_are_bounds_within) (by decide +kernel)) (fun _ _ _ _ _ => (pg_name (i := 1) nd_law_are_bounds_within rfl (by first | exact Or.inl rfl | exact Or.inr rfl))) (fun _ _ _ _ _ => (pts_one (pt_cmpR (neE K rfl hu) (pe_lc (own := [("_law_pair", 2)]) (by rfl) nd_law_are_bounds_within (piT K rfl (pv 1)) (blk_any (blkOk_by (own := [("_law_pair", 2)]) (N := N_law_are_bounds_within) (sc := defScope S_law_are_bounds_within) (by decide +kernel)) (by decide +kernel)) (fun _ _ _ _ _ => (pg_name (i := 2) nd_law_are_bounds_within rfl (by first | exact Or.inl rfl | exact Or.inr rfl))) (fun _ _ _ _ _ => (pts_one (PW.pt (pw_or (pt_cmpR op_gt (pe_ix (ixT K rfl) (pv 2) pe_int (fun _ _ => rfl)) pe_int (nomark _)) (pw_or1 (pt_cmpR op_gt (pe_ix (ixT K rfl) (pv 2) pe_int (fun _ _ => rfl)) (pe_op op_pow pe_int pe_int) (nomark _))))))) (fun _ _ _ _ _ => (pv 2))) (pe_lst pa_nil) (nomark _)))) (fun _ _ _ _ _ => pe_int)) (pe_lst pa_nil) (nomark _)))), ?_⟩
    refine ⟨_, rfl, v, S, rfl, hv, ok, htp, hP5, hdp, fun H1 t x y z s1 ht hx hy hz => ⟨t, rfl, ⟨_, ht⟩, fun D hD => ?_⟩⟩
    refine lc_sel (walk_tup (xs := [x, y, z])) hD (small_line (by show 3 ≤ 1000000; decide)) (fun _ _ _ => True) (fun _ _ _ _ _ h => h) (fun H2 s2 => s2.tq ht) ?_ ?_
    · rintro i u H2 H3 hi s2 ⟨rfl, hu1⟩ Kn Kq qn qy
      have hpu : PolyV K H1 20 u := by
        match i, hu1 with
        | 0, hu1 => cases Option.some.inj hu1; exact hx
        | 1, hu1 => cases Option.some.inj hu1; exact hy
        | 2, hu1 => cases Option.some.inj hu1; exact hz
        | i + 3, hu1 => cases hu1
      obtain ⟨bu, xu, rfl, hbu, hlu, hpu2⟩ := hpu.kept s2.kept
      refine ⟨rfl, ?_⟩
      refine ⟨_, rfl, bu, rfl, ⟨_, hbu⟩, fun D2 hD2 => ?_⟩
      refine lc_sel (walk_tup (xs := xu)) hD2 (small_line (by omega)) (fun _ _ _ => True) (fun _ _ _ _ _ h => h) (fun H4 s4 => s4.tq hbu) ?_ ?_
      · rintro j u2 H4 H5 hj s4 ⟨rfl, hu2⟩ Kn2 Kq2 qn2 qy2
        obtain ⟨b2, e2, c2, rfl, hb2, _⟩ := (hpu2 u2 (List.mem_of_getElem? hu2)).kept s4.kept
        have ret : ∀ H', Same H5 H' → Kq2 (.ref b2) H' := fun H' s => qy2 _ _ s True.intro
        refine ⟨rfl, _, rfl, _, _, _, _, rfl, rfl, hb2, rfl, _, _, rfl, rfl, _, rfl, ?_⟩
        refine ite2 (fun _ => ?_) (fun _ => ?_)
        · exact iteT ⟨_, rfl, ret _ (Same.refl _)⟩
        · refine ⟨_, rfl, _, _, _, _, rfl, rfl, hb2, rfl, _, _, rfl, rfl, ⟨by decide, by decide, by decide⟩, _, _, rfl, rfl, _, rfl, ?_⟩
          exact ite2 (fun _ => ⟨_, rfl, ret _ (Same.refl _)⟩) (fun _ => qn2 _ (Same.refl _))
      · intro H4 zs s4 hz4 hzl _
        refine ⟨Nat.zero_le _, fun t5 ht5 => ?_⟩
        have s5 := same_new (o := .lst []) ht5
        refine ⟨D2, t5, zs, rfl, rfl, .inl ⟨SqL.of (s5 _ _ hz4), SqL.of upd_same⟩, _, rfl, ?_⟩
        have s45 := s4.trans s5
        exact ite2 (fun _ => qy _ _ s45 True.intro) (fun _ => qn _ s45)
    · intro H2 zs s2 hz2 hzl _
      refine ⟨Nat.zero_le _, fun t5 ht5 => ?_⟩
      have s5 := same_new (o := .lst []) ht5
      exact ⟨D, t5, zs, rfl, rfl, .inl ⟨SqL.of (s5 _ _ hz2), SqL.of upd_same⟩, k _ _ ((s1.trans s2).trans s5)⟩
end
end NPK
set_option Elab.async false
set_option linter.all false
set_option maxRecDepth 100000
set_option maxHeartbeats 2000000
namespace NPK
open PySem PySem.Spec PyProof.Rows L2 NP
/-! ### data written down: what an expression builds -/
def Bd (K : PySem.W.Frag) (te : TE) (σ : L2.St) (H : Hp) (d : PyData) : Prop := ∀ H1, Same H H1 → ∀ Q : VK, (∀ H' v, Same H1 H' → Tp K H' v d → Q v H') → te σ H1 Q
def BdA (K : PySem.W.Frag) (t : TA) (σ : L2.St) (H : Hp) (ds : List PyData) : Prop := ∀ H1, Same H H1 → ∀ Q : List V → Hp → Prop, (∀ H' vs, Same H1 H' → TpAll K H' vs ds → Q vs H') → t σ H1 Q
section
variable {K : PySem.W.Frag} {σ : L2.St} {H : Hp} {d : PyData} {ds : List PyData} {te tf : TE} {t : TA}
theorem Bd.int (i : Int) : Bd K (tC (.int i)) σ H (.int i) := fun H1 _ Q q => q H1 _ (Same.refl _) (.int i)
theorem Bd.str (z : Str) : Bd K (tC (.str z)) σ H (.str z) := fun H1 _ Q q => q H1 _ (Same.refl _) (.str z)
theorem Bd.non : Bd K (tC .non) σ H .none := fun H1 _ Q q => q H1 _ (Same.refl _) .non
theorem Bd.var {i : Nat} {v : V} (e : σ[i]? = some (some v)) (h : Tp K H v d) : Bd K (tVar i) σ H d := fun H1 s Q q => ⟨v, e, q H1 v (Same.refl _) (h.same s)⟩
theorem BdA.nil : BdA K tNil σ H [] := fun H1 _ Q q => q H1 [] (Same.refl _) .nil
theorem BdA.cons (h : Bd K te σ H d) (r : BdA K t σ H ds) : BdA K (tCons te t) σ H (d :: ds) := fun H1 s Q q =>
  h H1 s _ fun H2 v s2 hv => r H2 (s.trans s2) _ fun H3 vs s3 hvs => q H3 (v :: vs) (s2.trans s3) (.cons (hv.same s3) hvs)
theorem Bd.tup (h : BdA K t σ H ds) (hl : ds.length ≤ 1000) : Bd K (tTup t) σ H (.tuple ds) := fun H1 s Q q =>
  h H1 s _ fun H2 vs s2 hvs => ⟨small_le (by rw [hvs.len]; omega), fun p hp => q _ _ (s2.trans (same_new hp)) (.tup (SqT.of upd_same) (hvs.same (same_new hp)))⟩
theorem Bd.add {i j : Int} (h1 : Bd K te σ H (.int i)) (h2 : Bd K tf σ H (.int j)) : Bd K (tOp (rI0 fun i j => .int (i + j)) te tf) σ H (.int (i + j)) := fun H1 s Q q =>
  h1 H1 s _ fun H2 v s2 hv => h2 H2 (s.trans s2) _ fun H3 u s3 hu => by
    cases tp_int hv
    cases tp_int hu
    exact ⟨_, _, rfl, rfl, q H3 _ (s2.trans s3) (.int _)⟩
theorem Bd.mul {i j : Int} (h1 : Bd K te σ H (.int i)) (h2 : Bd K tf σ H (.int j)) (hc : CMul i j) : Bd K (tOp (rI CMul fun i j => .int (i * j)) te tf) σ H (.int (i * j)) := fun H1 s Q q =>
  h1 H1 s _ fun H2 v s2 hv => h2 H2 (s.trans s2) _ fun H3 u s3 hu => by
    cases tp_int hv
    cases tp_int hu
    exact ⟨_, _, rfl, rfl, hc, q H3 _ (s2.trans s3) (.int _)⟩
theorem go_seq {t u : TS} {D : Ends} (h : t { D with nx := u D } σ H) : tSeq t u D σ H := h
theorem go_cons {tr : TA} {Q : List V → Hp → Prop} (h : te σ H fun x H1 => tr σ H1 fun xs H2 => Q (x :: xs) H2) : tCons te tr σ H Q := h
theorem go_par3 {i j l : Nat} {ta : TA} {D : Ends} (h : ta σ H fun vs H1 => ∃ u v w, vs = [u, v, w] ∧ D.nx (((σ.set i (some u)).set j (some v)).set l (some w)) H1) : tPar3 i j l ta D σ H := h
theorem go_par {i j : Nat} {ta : TA} {D : Ends} (h : ta σ H fun vs H1 => ∃ v w, vs = [v, w] ∧ D.nx ((σ.set i (some v)).set j (some w)) H1) : tPar i j ta D σ H := h
theorem go_lst {ta : TA} {Q : VK} (h : ta σ H fun xs H1 => xs.length ≤ sizeLine ∧ ∀ p, H1 p = none → Q (.ref p) (upd H1 p (.lst xs))) : tLst ta σ H Q := h
theorem go_tup {ta : TA} {Q : VK} (h : ta σ H fun xs H1 => xs.length ≤ sizeLine ∧ ∀ p, H1 p = none → Q (.ref p) (upd H1 p (.tup xs))) : tTup ta σ H Q := h
theorem go_asg {g : TG} {D : Ends} (h : te σ H fun x H1 => g x σ H1 D.nx) : tAsg te g D σ H := h
theorem go_op {r : R2} {Q : VK} (h : te σ H fun x H1 => tf σ H1 fun y H2 => r x y H2 Q) : tOp r te tf σ H Q := h
theorem Bd.go (h : Bd K te σ H d) {Q : VK} (q : ∀ H' v, Same H H' → Tp K H' v d → Q v H') : te σ H Q := h H (Same.refl _) Q q
end
/-! ### the chain of the law -/
def nmc (k : Nat) : Str := ("p" : Str) ++ (toString ((k : Nat) : Int) : String)
theorem nmc_len (k : Nat) (h : k ≤ 5) : ("p" : Str).length + Str.length (toString ((k : Nat) : Int) : String) ≤ 1000000 := by
  match k, h with
  | 0, _ => decide +kernel
  | 1, _ => decide +kernel
  | 2, _ => decide +kernel
  | 3, _ => decide +kernel
  | 4, _ => decide +kernel
  | 5, _ => decide +kernel
theorem nmc_ok (k : Nat) (h : k ≤ 5) : okN (nmc k) = true := by
  match k, h with
  | 0, _ => decide +kernel
  | 1, _ => decide +kernel
  | 2, _ => decide +kernel
  | 3, _ => decide +kernel
  | 4, _ => decide +kernel
  | 5, _ => decide +kernel
theorem nmc_all : ((List.range 6).all fun j => (List.range 6).all fun k => !(nmc j == nmc k) || j == k) = true := by decide +kernel
theorem nmc_inj {j k : Nat} (hj : j ≤ 5) (hk : k ≤ 5) (e : nmc j = nmc k) : j = k := by
  have h1 := List.all_eq_true.mp nmc_all j (List.mem_range.mpr (by omega))
  have h2 := List.all_eq_true.mp h1 k (List.mem_range.mpr (by omega))
  rw [e] at h2
  simpa using h2
/-- the procedures of the bodies -/
def pB : Nat → List (List Cmd) → List (Str × List Cmd)
  | _, [] => []
  | k, c :: B => (nmc k, c) :: pB (k + 1) B
theorem pB_len : ∀ (k : Nat) (B : List (List Cmd)), (pB k B).length = B.length
  | _, [] => rfl
  | k, c :: B => congrArg (· + 1) (pB_len (k + 1) B)
theorem pB_snd : ∀ (k : Nat) (B : List (List Cmd)), (pB k B).map (·.2) = B
  | _, [] => rfl
  | k, c :: B => by rw [pB, List.map_cons, pB_snd (k + 1) B]
theorem pB_at : ∀ (k : Nat) (B : List (List Cmd)) (i : Nat) (d : Str × List Cmd), (pB k B)[i]? = some d → d.1 = nmc (k + i) ∧ B[i]? = some d.2
  | _, [], i, d, e => by simp [pB] at e
  | k, c :: B, 0, d, e => by
    cases Option.some.inj e
    exact ⟨rfl, rfl⟩
  | k, c :: B, i + 1, d, e => by
    have := pB_at (k + 1) B i d e
    rw [show k + (i + 1) = k + 1 + i by omega]
    exact this
theorem pB_app : ∀ (k : Nat) (B : List (List Cmd)) (c : List Cmd), pB k (B ++ [c]) = pB k B ++ [(nmc (k + B.length), c)]
  | _, [], c => rfl
  | k, b :: B, c => by
    rw [List.cons_append, pB, pB, pB_app (k + 1) B c, List.cons_append, List.length_cons, show k + 1 + B.length = k + (B.length + 1) by omega]
theorem pB_snoc (B : List (List Cmd)) (c : List Cmd) : pB 0 (B ++ [c]) = pB 0 B ++ [(nmc B.length, c)] := by
  rw [pB_app, Nat.zero_add]
def OkBd (k : Nat) (cs : List Cmd) : Prop := okCs nmc k cs ∧ cszs cs ≤ 1000 ∧ dpts cs 2
def OkB (B : List (List Cmd)) : Prop := ∀ (k : Nat) (cs : List Cmd), B[k]? = some cs → OkBd k cs
theorem okB_snoc {B : List (List Cmd)} {c : List Cmd} (h : OkB B) (hc : OkBd B.length c) : OkB (B ++ [c]) := fun k cs e => by
  by_cases hk : k < B.length
  · rw [List.getElem?_append_left hk] at e
    exact h k cs e
  · have ek : k = B.length := by
      have := (List.getElem?_eq_some_iff.mp e).1
      rw [List.length_append] at this
      have h1 : [c].length = 1 := rfl
      omega
    subst ek
    rw [List.getElem?_append_right (Nat.le_refl _), Nat.sub_self] at e
    cases Option.some.inj e
    exact hc
theorem Dst.fresh {d l b : Addr} {H H' : Hp} {o : HO} (h : Dst d l H H') (e : H b = none) : Dst d l H (upd H' b o) := fun x u n1 n2 q => by
  rw [upd_ne (ne_of_none q e)]
  exact h x u n1 n2 q
theorem Deck.put {d l b : Addr} {H : Hp} {o : HO} (h : Deck H d l) (n1 : b ≠ d) (n2 : b ≠ l) : Deck (upd H b o) d l := by
  obtain ⟨m, q, ns, h1, h2, r⟩ := h
  exact ⟨m, q, ns, by rw [upd_ne (Ne.symm n1)]; exact h1, by rw [upd_ne (Ne.symm n2)]; exact h2, r⟩
theorem eight_small {p : Poly} (h : p ∈ eight) : SmallP p := by
  obtain ⟨h1, h2, h3⟩ := eight_ok p h
  exact ⟨h1, h2, fun q hq => by have := h3 q hq; omega⟩
theorem tpa_rep {K : PySem.W.Frag} {H : Hp} {v : V} {d : PyData} (h : Tp K H v d) : ∀ k : Nat, TpAll K H (List.replicate k v) (List.replicate k d)
  | 0 => .nil
  | k + 1 => .cons h (tpa_rep h k)
theorem okCs_rep {nm : Nat → Str} {b : Nat} {c : Cmd} (h : okC nm b c) : ∀ k : Nat, okCs nm b (List.replicate k c)
  | 0 => True.intro
  | k + 1 => ⟨h, okCs_rep h k⟩
theorem dpts_rep {n : Nat} {c : Cmd} (h : dpt c n) : ∀ k : Nat, dpts (List.replicate k c) n
  | 0 => True.intro
  | k + 1 => ⟨h, dpts_rep h k⟩
theorem cszs_rep (c : Cmd) : ∀ k : Nat, cszs (List.replicate k c) = k * csz c
  | 0 => by rw [Nat.zero_mul]; rfl
  | k + 1 => by rw [List.replicate_succ, cszs, cszs_rep c k, Nat.succ_mul, Nat.add_comm]
theorem pval_eight {p : Poly} (h : p ∈ eight) {n : Nat} (hn : n ≤ 4) : pval p n ≤ 16 := by
  simp only [eight, List.mem_cons, List.not_mem_nil, or_false] at h
  have h2 : n * n ≤ 4 * 4 := Nat.mul_le_mul hn hn
  rcases h with rfl | rfl | rfl | rfl | rfl | rfl | rfl | rfl <;> simp [pval, Nat.pow_succ] <;> omega
abbrev S_law_chain : Stmt := top 86
abbrev N_law_chain : List Str := ["_law_deck_here", "_law_n", "_law_most", "_law_found", "_law_times", "_law_steps", "_law_at", "_law_call", "_law_way", "_law_many", "_law_commands", "_law_near", "_law_far", "_law_poly", "_law_m", "_law_other", "_law_k"]
theorem sc_law_chain : FnScope N_law_chain ["_law_deck_here", "_law_n", "_law_most"] (defScope S_law_chain) := ⟨rfl, rfl, rfl, by decide +kernel, rfl, by decide +kernel, by decide +kernel⟩
theorem nd_law_chain : N_law_chain.Nodup := sc_law_chain.nd
def spChain (K : PySem.W.Frag) : Sp := fun vs H Q _ => ∃ d l, ∃ n : Nat, vs = [.ref d, .int (n : Int), .int 1500] ∧ Deck H d l ∧ n ≤ 4 ∧
  ∀ H' t tp B (tt ss : Nat), Dst d l H H' → Deck H' d l → SqT K H' t [tp, .int (tt : Int), .int (ss : Int)] → Tp K H' tp (.tuple ((pB 0 B).map (encPr nmc))) → Chain n B tt ss → ss ≤ 1500 → B.length ≤ 5 → OkB B → Q (.ref t) H'
section
variable {P : Program} {w : World} {K : PySem.W.Frag} {mg : Str → Option Value} {base : Heap} {a : Ads}
theorem fk_law_chain (T : Txt K mg w a) : Fk P w K mg base "_law_chain" 4 ["_law_deck_here", "_law_n", "_law_most"] (spChain K) := by
  have F_law_draw := fk_law_draw (P := P) (base := base) T
  have F_law_drawn_rounds := fk_law_drawn_rounds (P := P) (base := base) T
  have F_law_value := fk_law_value (P := P) (base := base) T
  refine (show Df K mg "_law_chain" (top 86) from T.fn 52 _ rfl).fk sc_law_chain (fun vs H Q E h => ?_) (fun _ _ _ _ _ _ us hl => match us, hl with | [_, _, _], _ => rfl) fun f cdv A outer s H vs Q E hr h => ?_
  · obtain ⟨d, l, n, rfl, _⟩ := h
    rfl
  · obtain ⟨d, l, n, rfl, hD, hn, k⟩ := h
    refine ⟨_, (pss_cons (ps_par3 (by rfl) nd_law_chain (i := 3) (j := 4) (l := 5) rfl rfl rfl (by decide) (by decide) (by decide) rfl rfl rfl (pa_cons (pe_lst (pa_cons (pe_tup (pa_cons pe_str (pa_cons (pe_tup (pa_cons (pe_tup (pa_cons pe_str (pa_cons pe_str pa_nil))) pa_nil)) pa_nil))) pa_nil)) (pa_cons pe_int (pa_cons pe_int pa_nil))) (by rfl))
      (pss_cons (ps_for PassesOwn.never rfl (pi_range1 (by rfl) T.range (pa_cons (pe_op op_add pe_int (pe_f (F_law_draw) (hr.mono (by decide)) rfl (pa_cons (pv 0) (pa_cons pe_int pa_nil)))) pa_nil)) (pg_name (i := 6) nd_law_chain rfl (by first | exact Or.inl rfl | exact Or.inr rfl)) (pss_cons (ps_par (by rfl) nd_law_chain (i := 7) (j := 8) rfl rfl (by decide) rfl rfl (pa_cons (pe_tup (pa_cons pe_str (pa_cons (pe_op op_add_str pe_str (pe_callTy call_str_int (by rfl) T.str (by decide +kernel) (pa_cons (pv 6) pa_nil))) pa_nil))) (pa_cons (pe_f (F_law_draw) (hr.mono (by decide)) rfl (pa_cons (pv 0) (pa_cons pe_int pa_nil))) pa_nil)) (by rfl))
      (pss_cons (ps_if (pt_cmpR op_eq (pv 8) pe_int (nomark _)) (pss_cons (ps_set (i := 9) nd_law_chain rfl (by first | exact Or.inl rfl | exact Or.inr rfl) (pe_op op_add pe_int (pe_f (F_law_draw) (hr.mono (by decide)) rfl (pa_cons (pv 0) (pa_cons pe_int pa_nil)))))
      (pss_one (ps_par3 (by rfl) nd_law_chain (i := 10) (j := 11) (l := 12) rfl rfl rfl (by decide) (by decide) (by decide) rfl rfl rfl (pa_cons (pe_op (repA K rfl) (pe_tup (pa_cons (pv 7) pa_nil)) (pv 9)) (pa_cons (pe_op op_mul (pv 4) (pv 9)) (pa_cons (pe_op op_mul (pv 9) (pe_op op_add (pv 5) pe_int)) pa_nil))) (by rfl)))) (pss_one (ps_if (pt_cmpR op_eq (pv 8) pe_int (nomark _)) (pss_cons (ps_set (i := 13) nd_law_chain rfl (by first | exact Or.inl rfl | exact Or.inr rfl) (pe_f (F_law_drawn_rounds) (hr.mono (by decide)) rfl (pa_cons (pv 0) pa_nil)))
      (pss_cons (ps_set (i := 14) nd_law_chain rfl (by first | exact Or.inl rfl | exact Or.inr rfl) (pe_f (F_law_value) (hr.mono (by decide)) rfl (pa_cons (pv 13) (pa_cons (pv 1) pa_nil))))
      (pss_one (ps_par3 (by rfl) nd_law_chain (i := 10) (j := 11) (l := 12) rfl rfl rfl (by decide) (by decide) (by decide) rfl rfl rfl (pa_cons (pe_tup (pa_cons (pe_tup (pa_cons pe_str (pa_cons (pv 13) (pa_cons (pe_tup (pa_cons (pv 7) pa_nil)) pa_nil)))) pa_nil)) (pa_cons (pe_op op_mul (pv 4) (pv 14)) (pa_cons (pe_op op_add pe_int (pe_op op_mul (pv 14) (pe_op op_add (pv 5) pe_int))) pa_nil))) (by rfl))))) (pss_cons (ps_par (by rfl) nd_law_chain (i := 13) (j := 15) rfl rfl (by decide) rfl rfl (pa_cons (pe_f (F_law_drawn_rounds) (hr.mono (by decide)) rfl (pa_cons (pv 0) pa_nil)) (pa_cons (pe_f (F_law_drawn_rounds) (hr.mono (by decide)) rfl (pa_cons (pv 0) pa_nil)) pa_nil)) (by rfl))
      (pss_cons (ps_par (by rfl) nd_law_chain (i := 14) (j := 16) rfl rfl (by decide) rfl rfl (pa_cons (pe_f (F_law_value) (hr.mono (by decide)) rfl (pa_cons (pv 13) (pa_cons (pv 1) pa_nil))) (pa_cons (pe_f (F_law_value) (hr.mono (by decide)) rfl (pa_cons (pv 15) (pa_cons (pv 1) pa_nil))) pa_nil)) (by rfl))
      (pss_cons (ps_set (i := 10) nd_law_chain rfl (by first | exact Or.inl rfl | exact Or.inr rfl) (pe_tup (pa_cons (pe_tup (pa_cons pe_str (pa_cons (pv 13) (pa_cons (pe_tup (pa_cons (pe_tup (pa_cons pe_str (pa_cons (pv 15) (pa_cons (pe_tup (pa_cons (pv 7) (pa_cons (pe_tup (pa_cons pe_str (pa_cons pe_str pa_nil))) pa_nil))) pa_nil)))) pa_nil)) pa_nil)))) pa_nil)))
      (pss_one (ps_par (by rfl) nd_law_chain (i := 11) (j := 12) rfl rfl (by decide) rfl rfl (pa_cons (pe_op op_mul (pe_op op_mul (pv 4) (pv 14)) (pv 16)) (pa_cons (pe_op op_add pe_int (pe_op op_mul (pv 14) (pe_op op_add pe_int (pe_op op_mul (pv 16) (pe_op op_add (pv 5) pe_int))))) pa_nil)) (by rfl)))))))))
      (pss_cons (ps_if (pt_cmpR op_gt (pv 12) (pv 2) (nomark _)) (pss_one ps_break) pss_nil)
      (pss_cons (ps_expr (pe_bm PySem.F.plainAttrs_list PySem.F.slot_list_append PySem.F.type_list_append mt_append (pv 3) (pa_cons (pe_tup (pa_cons (pe_op op_add_str pe_str (pe_callTy call_str_int (by rfl) T.str (by decide +kernel) (pa_cons (pe_op op_add (pv 6) pe_int) pa_nil))) (pa_cons (pv 10) pa_nil))) pa_nil)))
      (pss_one (ps_par (by rfl) nd_law_chain (i := 4) (j := 5) rfl rfl (by decide) rfl rfl (pa_cons (pv 11) (pa_cons (pv 12) pa_nil)) (by rfl))))))))
      (pss_one (ps_ret (pe_tup (pa_cons (pe_callTy call_tuple_of (by rfl) T.tuple (by decide +kernel) (pa_cons (pv 3) pa_nil)) (pa_cons (pv 4) (pa_cons (pv 5) pa_nil)))))))), ?_⟩
    refine go_seq (go_par3 (go_cons (go_lst (go_cons ?_))))
    refine Bd.go (K := K) (d := .tuple [.str "p0", .tuple [.tuple [.str "up", .str "i"]]]) (.tup (.cons (.str _) (.cons (.tup (.cons (.tup (.cons (.str _) (.cons (.str _) .nil)) (by simp)) .nil) (by simp)) .nil)) (by simp)) fun H1 v1 s1 t1' => ⟨small_le (by show 1 ≤ 1000000; decide), fun lf hlf1 => ⟨_, _, _, rfl, ?_⟩⟩
    have t1 : Tp K H1 v1 (encPr nmc (nmc 0, [.up false])) := by
      have e0 : nmc 0 = "p0" := by decide +kernel
      rw [encPr, e0]
      exact t1'
    have hlf : H lf = none := none_of_same s1 hlf1
    have s2 := s1.trans (same_new (o := .lst [v1]) hlf1)
    have hDs := hD
    obtain ⟨m0, q0, ns0, hd0, hl0, _⟩ := hDs
    have hnd : lf ≠ d := Ne.symm (ne_of_none hd0 hlf)
    have hnl : lf ≠ l := Ne.symm (ne_of_none hl0 hlf)
    refine ⟨_, rfl, d, l, 4, rfl, hD.same s2, by decide, by decide, fun H2 r0 y2 hD2 hr0 => ⟨_, _, rfl, rfl, _, rfl, by omega, by omega, ?_⟩⟩
    have kk2 := (hD.same s2).kept y2
    have hf2 := y2 _ _ hnd hnl (upd_same (H := H1) (a := lf) (o := .lst [v1]))
    refine for_it (walk_range (lo := 0) (n := ((1 : Int) + (r0 : Int)).toNat)) (fun i σ H' => ∃ z6 z7 z8 z9 z10 z11 z12 z13 z14 z15 z16 B, ∃ tt ss : Nat, ∃ fs, σ = [some (.ref d), some (.int (n : Int)), some (.int 1500), some (.ref lf), some (.int (tt : Int)), some (.int (ss : Int)), z6, z7, z8, z9, z10, z11, z12, z13, z14, z15, z16] ∧ Dst d l H H' ∧ Deck H' d l ∧ H' lf = some (.lst fs) ∧ TpAll K H' fs ((pB 0 B).map (encPr nmc)) ∧ B.length = i + 1 ∧ Chain n B tt ss ∧ ss ≤ 1500 ∧ OkB B)
      ⟨none, none, none, none, none, none, none, none, none, none, none, [[.up false]], 1, 1, [v1], rfl, s2.dst.trans y2, hD2, hf2, ?_, rfl, .base, by decide, ?_⟩ (fun _ _ _ _ _ => True.intro) ?_ ?_
    · exact .cons ((t1.same (same_new (o := .lst [v1]) hlf1)).kept kk2) .nil
    · intro k cs e
      match k, e with
      | 0, e => cases Option.some.inj e; exact ⟨⟨True.intro, True.intro⟩, by decide, ⟨True.intro, True.intro⟩⟩
      | k + 1, e => cases e
    · rintro i x σ H3 H4 hi ⟨z6, z7, z8, z9, z10, z11, z12, z13, z14, z15, z16, B, tt, ss, fs, rfl, y3, hD3, hf3, hfs3, hBl, hc, hs, hB⟩ ⟨rfl, rfl⟩
      have hi4 : i ≤ 3 := by omega
      have lfs := hfs3.len
      rw [List.length_map, pB_len, hBl] at lfs
      have htt := hc.le
      -- the call
      have e0i : (0 + (i : Int)) = ((i : Nat) : Int) := Int.zero_add _
      refine ⟨_, rfl, _, rfl, by show (0 + (i : Int)).natAbs.log2 < 1920; rw [show (0 + (i : Int)).natAbs = i by omega]; exact Nat.lt_of_le_of_lt (Nat.log2_le_self _) (by omega), _, _, rfl, rfl, ?_, small_le (by show 2 ≤ 1000000; decide), fun tc htc => ?_⟩
      · show ("p" : Str).length + Str.length (toString (0 + (i : Int)) : String) ≤ sizeLine
        rw [e0i]
        exact small_le (nmc_len i (by omega))
      have enc0 : ((("p" : Str) ++ (toString (0 + (i : Int)) : String)) : Str) = nmc i := by
        rw [e0i]
        rfl
      have s5 := same_new (o := .tup [.str "do", .str ((("p" : Str) ++ (toString (0 + (i : Int)) : String)) : Str)]) htc
      have tcall0 : Tp K (upd H4 tc (.tup [.str "do", .str ((("p" : Str) ++ (toString (0 + (i : Int)) : String)) : Str)])) (.ref tc) (enc nmc (.call i)) := by
        have h : SqT K (upd H4 tc (.tup [.str "do", .str ((("p" : Str) ++ (toString (0 + (i : Int)) : String)) : Str)])) tc [.str "do", .str ((("p" : Str) ++ (toString (0 + (i : Int)) : String)) : Str)] := SqT.of upd_same
        rw [enc0] at h ⊢
        exact .tup h (.cons (.str _) (.cons (.str _) .nil))
      refine ⟨_, rfl, d, l, 3, rfl, hD3.same s5, by decide, by decide, fun H5 way y5 hD5 hway => ⟨_, _, rfl, ?_⟩⟩
      have kk5 := (hD3.same s5).kept y5
      have y05 := (y3.trans s5.dst).trans y5
      have hf5 := y5 _ _ hnd hnl (s5 _ _ hf3)
      have hfs5 := (hfs3.same s5).kept kk5
      have tcall := tcall0.kept kk5
      clear tcall0
      have okcall : okC nmc (i + 1) (.call i) := ⟨Nat.lt_succ_self i, nmc_ok i (by omega)⟩
      refine ⟨_, rfl, rfl, _, rfl, ite2 (fun _ => ?_) (fun _ => ?_)⟩
      · -- one after the other
        refine ⟨_, rfl, d, l, 3, rfl, hD5, by decide, by decide, fun H6 r6 y6 hD6 hr6 => ⟨_, _, rfl, rfl, ?_⟩⟩
        have kk6 := hD5.kept y6
        refine ⟨_, rfl, small_le (by show 1 ≤ 1000000; decide), fun t7 ht7 => ⟨_, rfl, t7, [.ref tc], 1 + r6, rfl, rfl, SqT.of upd_same, by simp, by omega, (by show 1 ≤ 1000; decide), fun H8 cv s8 hcv => ?_⟩⟩
        have s78 := (same_new (o := .tup [V.ref tc]) ht7).trans s8
        refine ⟨_, rfl, _, rfl, _, _, rfl, rfl, .inl ⟨by omega, by omega⟩, _, rfl, _, rfl, _, _, rfl, rfl, _, _, rfl, rfl, .inl ⟨by omega, by omega⟩, _, _, _, rfl, ?_⟩
        have y9 := (y05.trans y6).trans s78.dst
        have hD9 := hD6.same s78
        have hf9 := s78 _ _ (y6 _ _ hnd hnl hf5)
        have hfs9 := (hfs5.kept kk6).same s78
        rw [List.flatten_replicate_singleton] at hcv
        have hcv9 : Tp K H8 (.ref cv) (.tuple (encs nmc (List.replicate (1 + r6) (.call i)))) := by
          rw [encs_map, List.map_replicate]
          exact .tup hcv (tpa_rep ((tcall.kept kk6).same s78) (1 + r6))
        refine ⟨_, rfl, _, rfl, _, _, rfl, rfl, _, rfl, ?_⟩
        refine ite2 (fun _ => ?_) (fun hle => ?_)
        · -- the break
          refine ⟨_, rfl, lf, fs, rfl, .inl ⟨SqL.of hf9, fun t ht => ?_⟩⟩
          have sA := same_new (o := .tup fs) ht
          refine ⟨_, rfl, _, rfl, small_le (by show 3 ≤ 1000000; decide), fun t2 ht2 => ?_⟩
          have sB := same_new (o := .tup [.ref t, .int (tt : Int), .int (ss : Int)]) ht2
          exact k _ t2 _ B tt ss ((y9.trans sA.dst).trans sB.dst) ((hD9.same sA).same sB) (SqT.of upd_same) (.tup (sB.tq (SqT.of upd_same)) (hfs9.same (sA.trans sB))) hc hs (by omega) hB
        · have hle' : ((1 + r6) * (ss + 1)) ≤ 1500 := by
            have h1 : ¬ (((1500 : Int)) < ((((1 + r6) * (ss + 1)) : Nat) : Int)) := fun h => hle (decide_eq_true h)
            omega
          refine ⟨_, rfl, .inl ⟨rfl, _, SqL.of hf9⟩, _, rfl, _, _, rfl, rfl, _, rfl, by show (0 + (i : Int) + 1).natAbs.log2 < 1920; rw [show (0 + (i : Int) + 1).natAbs = i + 1 by omega]; exact Nat.lt_of_le_of_lt (Nat.log2_le_self _) (by omega), _, _, rfl, rfl, ?_, _, rfl, small_le (by show 2 ≤ 1000000; decide), fun t ht => ?_⟩
          · show ("p" : Str).length + Str.length (toString (0 + (i : Int) + 1) : String) ≤ sizeLine
            rw [show (0 + (i : Int) + 1) = ((i + 1 : Nat) : Int) by omega]
            exact small_le (nmc_len (i + 1) (by omega))
          have enm : ((("p" : Str) ++ (toString (0 + (i : Int) + 1) : String)) : Str) = nmc (i + 1) := by
            rw [show (0 + (i : Int) + 1) = ((i + 1 : Nat) : Int) by omega]
            rfl
          have sA := same_new (o := .tup [.str ((("p" : Str) ++ (toString (0 + (i : Int) + 1) : String)) : Str), .ref cv]) ht
          have hfA := sA _ _ hf9
          refine ⟨lf, fs, _, rfl, rfl, hfA, small_line (by omega), ?_⟩
          have kB : Kept H8 (upd (upd H8 t (.tup [.str ((("p" : Str) ++ (toString (0 + (i : Int) + 1) : String)) : Str), .ref cv])) lf (.lst (fs ++ [.ref t]))) := sA.kept.write hfA True.intro
          have htB : SqT K (upd (upd H8 t (.tup [.str ((("p" : Str) ++ (toString (0 + (i : Int) + 1) : String)) : Str), .ref cv])) lf (.lst (fs ++ [.ref t]))) t [.str ((("p" : Str) ++ (toString (0 + (i : Int) + 1) : String)) : Str), .ref cv] := ((Kept.refl _).write hfA True.intro).tq (SqT.of upd_same)
          have hB' : OkB (B ++ [List.replicate (1 + r6) (.call i)]) := okB_snoc hB (by rw [hBl]; exact ⟨okCs_rep okcall _, by rw [cszs_rep]; show (1 + r6) * 1 ≤ 1000; omega, dpts_rep (c := .call i) (n := 2) True.intro _⟩)
          refine ⟨_, rfl, _, rfl, _, _, rfl, ?_⟩
          refine ⟨_, _, _, _, _, _, _, _, _, _, _, B ++ [List.replicate (1 + r6) (.call i)], (tt * (1 + r6)), ((1 + r6) * (ss + 1)), fs ++ [.ref t], rfl, (y9.trans sA.dst).fresh hlf, (hD9.same sA).put hnd hnl, upd_same, ?_, by rw [List.length_append, hBl]; rfl, (by have := Chain.w0 hc (1 + r6); rw [hBl] at this; exact this), hle', hB'⟩
          rw [pB_snoc, List.map_append, hBl]
          refine (hfs9.kept kB).app (.cons ?_ .nil)
          exact .tup htB (.cons (by rw [enm]; exact .str _) (.cons (hcv9.kept kB) .nil))
      refine ⟨_, rfl, rfl, _, rfl, ite2 (fun _ => ?_) (fun _ => ?_)⟩
      · -- one loop
        refine ⟨_, rfl, d, l, rfl, hD5, fun H6 v6 p6 y6 hD6 hp6 t6 => ?_⟩
        have kk6 := hD5.kept y6
        have hpv := pval_eight hp6 hn
        refine ⟨_, rfl, _, rfl, v6, p6, n, rfl, t6, (eight_ok p6 hp6).1, hn, ?_⟩
        dsimp only [gName]
        refine go_par3 (go_cons ?_)
        refine Bd.go (K := K) (d := .tuple [.tuple [.str "repeat", encP p6, .tuple [enc nmc (.call i)]]]) (.tup (.cons (.tup (.cons (.str _) (.cons (.var rfl t6) (.cons (.tup (.cons (.var rfl (tcall.kept kk6)) .nil) (by simp)) .nil))) (by simp)) .nil) (by simp)) fun H8 cv s78 hcv9 => ?_
        refine ⟨_, rfl, _, rfl, _, _, rfl, rfl, .inl ⟨by omega, by omega⟩, _, rfl, _, rfl, _, _, rfl, rfl, _, _, rfl, rfl, .inl ⟨by omega, by omega⟩, _, _, rfl, rfl, _, _, _, rfl, ?_⟩
        have y9 := (y05.trans y6).trans s78.dst
        have hD9 := hD6.same s78
        have hf9 := s78 _ _ (y6 _ _ hnd hnl hf5)
        have hfs9 := (hfs5.kept kk6).same s78
        refine ⟨_, rfl, _, rfl, _, _, rfl, rfl, _, rfl, ?_⟩
        refine ite2 (fun _ => ?_) (fun hle => ?_)
        · -- the break
          refine ⟨_, rfl, lf, fs, rfl, .inl ⟨SqL.of hf9, fun t ht => ?_⟩⟩
          have sA := same_new (o := .tup fs) ht
          refine ⟨_, rfl, _, rfl, small_le (by show 3 ≤ 1000000; decide), fun t2 ht2 => ?_⟩
          have sB := same_new (o := .tup [.ref t, .int (tt : Int), .int (ss : Int)]) ht2
          exact k _ t2 _ B tt ss ((y9.trans sA.dst).trans sB.dst) ((hD9.same sA).same sB) (SqT.of upd_same) (.tup (sB.tq (SqT.of upd_same)) (hfs9.same (sA.trans sB))) hc hs (by omega) hB
        · have hle' : (1 + pval p6 n * (ss + 2)) ≤ 1500 := by
            have h1 : ¬ (((1500 : Int)) < (((1 + pval p6 n * (ss + 2)) : Nat) : Int)) := fun h => hle (decide_eq_true h)
            omega
          refine ⟨_, rfl, .inl ⟨rfl, _, SqL.of hf9⟩, _, rfl, _, _, rfl, rfl, _, rfl, by show (0 + (i : Int) + 1).natAbs.log2 < 1920; rw [show (0 + (i : Int) + 1).natAbs = i + 1 by omega]; exact Nat.lt_of_le_of_lt (Nat.log2_le_self _) (by omega), _, _, rfl, rfl, ?_, _, rfl, small_le (by show 2 ≤ 1000000; decide), fun t ht => ?_⟩
          · show ("p" : Str).length + Str.length (toString (0 + (i : Int) + 1) : String) ≤ sizeLine
            rw [show (0 + (i : Int) + 1) = ((i + 1 : Nat) : Int) by omega]
            exact small_le (nmc_len (i + 1) (by omega))
          have enm : ((("p" : Str) ++ (toString (0 + (i : Int) + 1) : String)) : Str) = nmc (i + 1) := by
            rw [show (0 + (i : Int) + 1) = ((i + 1 : Nat) : Int) by omega]
            rfl
          have sA := same_new (o := .tup [.str ((("p" : Str) ++ (toString (0 + (i : Int) + 1) : String)) : Str), cv]) ht
          have hfA := sA _ _ hf9
          refine ⟨lf, fs, _, rfl, rfl, hfA, small_line (by omega), ?_⟩
          have kB : Kept H8 (upd (upd H8 t (.tup [.str ((("p" : Str) ++ (toString (0 + (i : Int) + 1) : String)) : Str), cv])) lf (.lst (fs ++ [.ref t]))) := sA.kept.write hfA True.intro
          have htB : SqT K (upd (upd H8 t (.tup [.str ((("p" : Str) ++ (toString (0 + (i : Int) + 1) : String)) : Str), cv])) lf (.lst (fs ++ [.ref t]))) t [.str ((("p" : Str) ++ (toString (0 + (i : Int) + 1) : String)) : Str), cv] := ((Kept.refl _).write hfA True.intro).tq (SqT.of upd_same)
          have hB' : OkB (B ++ [[.rep p6 [.call i]]]) := okB_snoc hB (by rw [hBl]; exact ⟨⟨⟨(eight_ok p6 hp6).1, okcall, True.intro⟩, True.intro⟩, by simp [cszs, csz], ⟨⟨eight_small hp6, 1, rfl, True.intro, True.intro⟩, True.intro⟩⟩)
          refine ⟨_, rfl, _, rfl, _, _, rfl, ?_⟩
          refine ⟨_, _, _, _, _, _, _, _, _, _, _, B ++ [[.rep p6 [.call i]]], (tt * pval p6 n), (1 + pval p6 n * (ss + 2)), fs ++ [.ref t], rfl, (y9.trans sA.dst).fresh hlf, (hD9.same sA).put hnd hnl, upd_same, ?_, by rw [List.length_append, hBl]; rfl, (by have := Chain.w1 hc p6; rw [hBl] at this; exact this), hle', hB'⟩
          rw [pB_snoc, List.map_append, hBl]
          refine (hfs9.kept kB).app (.cons ?_ .nil)
          exact .tup htB (.cons (by rw [enm]; exact .str _) (.cons (hcv9.kept kB) .nil))
      · -- a loop in a loop
        refine ⟨_, rfl, d, l, rfl, hD5, fun H6 v6 p6 y6 hD6 hp6 t6 => ⟨_, rfl, d, l, rfl, hD6, fun H7 v7 p7 y7 hD7 hp7 t7 => ⟨_, _, rfl, ?_⟩⟩⟩
        have kk6 := hD5.kept y6
        have kk7 := hD6.kept y7
        have hpv := pval_eight hp6 hn
        have hpv7 := pval_eight hp7 hn
        refine ⟨_, rfl, _, rfl, v6, p6, n, rfl, t6.kept kk7, (eight_ok p6 hp6).1, hn, _, rfl, _, rfl, v7, p7, n, rfl, t7, (eight_ok p7 hp7).1, hn, _, _, rfl, ?_⟩
        dsimp only
        refine go_seq (go_asg ?_)
        refine Bd.go (K := K) (d := .tuple [.tuple [.str "repeat", encP p6, .tuple [.tuple [.str "repeat", encP p7, .tuple [enc nmc (.call i), .tuple [.str "zero", .str "j"]]]]]]) (.tup (.cons (.tup (.cons (.str _) (.cons (.var rfl (t6.kept kk7)) (.cons (.tup (.cons (.tup (.cons (.str _) (.cons (.var rfl t7) (.cons (.tup (.cons (.var rfl (tcall.kept (kk6.trans kk7))) (.cons (.tup (.cons (.str _) (.cons (.str _) .nil)) (by simp)) .nil)) (by simp)) .nil))) (by simp)) .nil) (by simp)) .nil))) (by simp)) .nil) (by simp)) fun H8 cv s78 hcv9 => ?_
        refine ⟨_, rfl, _, rfl, _, _, rfl, rfl, .inl ⟨by omega, by omega⟩, _, rfl, _, _, rfl, rfl, .inr ⟨by omega, by omega⟩, _, rfl, _, rfl, _, rfl, _, _, rfl, rfl, _, _, rfl, rfl, .inl ⟨by omega, by omega⟩, _, _, rfl, rfl, _, _, rfl, rfl, .inl ⟨by omega, by omega⟩, _, _, rfl, rfl, _, _, rfl, ?_⟩
        have y9 := ((y05.trans y6).trans y7).trans s78.dst
        have hD9 := hD7.same s78
        have hf9 := s78 _ _ (y7 _ _ hnd hnl (y6 _ _ hnd hnl hf5))
        have hfs9 := (hfs5.kept (kk6.trans kk7)).same s78
        refine ⟨_, rfl, _, rfl, _, _, rfl, rfl, _, rfl, ?_⟩
        refine ite2 (fun _ => ?_) (fun hle => ?_)
        · -- the break
          refine ⟨_, rfl, lf, fs, rfl, .inl ⟨SqL.of hf9, fun t ht => ?_⟩⟩
          have sA := same_new (o := .tup fs) ht
          refine ⟨_, rfl, _, rfl, small_le (by show 3 ≤ 1000000; decide), fun t2 ht2 => ?_⟩
          have sB := same_new (o := .tup [.ref t, .int (tt : Int), .int (ss : Int)]) ht2
          exact k _ t2 _ B tt ss ((y9.trans sA.dst).trans sB.dst) ((hD9.same sA).same sB) (SqT.of upd_same) (.tup (sB.tq (SqT.of upd_same)) (hfs9.same (sA.trans sB))) hc hs (by omega) hB
        · have hle' : (1 + pval p6 n * (2 + pval p7 n * (ss + 3))) ≤ 1500 := by
            have h1 : ¬ (((1500 : Int)) < (((1 + pval p6 n * (2 + pval p7 n * (ss + 3))) : Nat) : Int)) := fun h => hle (decide_eq_true h)
            omega
          refine ⟨_, rfl, .inl ⟨rfl, _, SqL.of hf9⟩, _, rfl, _, _, rfl, rfl, _, rfl, by show (0 + (i : Int) + 1).natAbs.log2 < 1920; rw [show (0 + (i : Int) + 1).natAbs = i + 1 by omega]; exact Nat.lt_of_le_of_lt (Nat.log2_le_self _) (by omega), _, _, rfl, rfl, ?_, _, rfl, small_le (by show 2 ≤ 1000000; decide), fun t ht => ?_⟩
          · show ("p" : Str).length + Str.length (toString (0 + (i : Int) + 1) : String) ≤ sizeLine
            rw [show (0 + (i : Int) + 1) = ((i + 1 : Nat) : Int) by omega]
            exact small_le (nmc_len (i + 1) (by omega))
          have enm : ((("p" : Str) ++ (toString (0 + (i : Int) + 1) : String)) : Str) = nmc (i + 1) := by
            rw [show (0 + (i : Int) + 1) = ((i + 1 : Nat) : Int) by omega]
            rfl
          have sA := same_new (o := .tup [.str ((("p" : Str) ++ (toString (0 + (i : Int) + 1) : String)) : Str), cv]) ht
          have hfA := sA _ _ hf9
          refine ⟨lf, fs, _, rfl, rfl, hfA, small_line (by omega), ?_⟩
          have kB : Kept H8 (upd (upd H8 t (.tup [.str ((("p" : Str) ++ (toString (0 + (i : Int) + 1) : String)) : Str), cv])) lf (.lst (fs ++ [.ref t]))) := sA.kept.write hfA True.intro
          have htB : SqT K (upd (upd H8 t (.tup [.str ((("p" : Str) ++ (toString (0 + (i : Int) + 1) : String)) : Str), cv])) lf (.lst (fs ++ [.ref t]))) t [.str ((("p" : Str) ++ (toString (0 + (i : Int) + 1) : String)) : Str), cv] := ((Kept.refl _).write hfA True.intro).tq (SqT.of upd_same)
          have hB' : OkB (B ++ [[.rep p6 [.rep p7 [.call i, .zero true]]]]) := okB_snoc hB (by rw [hBl]; exact ⟨⟨⟨(eight_ok p6 hp6).1, ⟨(eight_ok p7 hp7).1, okcall, True.intro, True.intro⟩, True.intro⟩, True.intro⟩, by simp [cszs, csz], ⟨⟨eight_small hp6, 1, rfl, ⟨eight_small hp7, 0, rfl, True.intro, True.intro, True.intro⟩, True.intro⟩, True.intro⟩⟩)
          refine ⟨_, rfl, _, rfl, _, _, rfl, ?_⟩
          refine ⟨_, _, _, _, _, _, _, _, _, _, _, B ++ [[.rep p6 [.rep p7 [.call i, .zero true]]]], (tt * pval p6 n * pval p7 n), (1 + pval p6 n * (2 + pval p7 n * (ss + 3))), fs ++ [.ref t], rfl, (y9.trans sA.dst).fresh hlf, (hD9.same sA).put hnd hnl, upd_same, ?_, by rw [List.length_append, hBl]; rfl, (by have := Chain.w2 hc p6 p7; rw [hBl] at this; exact this), hle', hB'⟩
          rw [pB_snoc, List.map_append, hBl]
          refine (hfs9.kept kB).app (.cons ?_ .nil)
          exact .tup htB (.cons (by rw [enm]; exact .str _) (.cons (hcv9.kept kB) .nil))
    · rintro σ H3 ⟨z6, z7, z8, z9, z10, z11, z12, z13, z14, z15, z16, B, tt, ss, fs, rfl, y9, hD9, hf9, hfs9, hBl, hc, hs, hB⟩
      refine ⟨_, rfl, lf, fs, rfl, .inl ⟨SqL.of hf9, fun t ht => ?_⟩⟩
      have sA := same_new (o := .tup fs) ht
      refine ⟨_, rfl, _, rfl, small_le (by show 3 ≤ 1000000; decide), fun t2 ht2 => ?_⟩
      have sB := same_new (o := .tup [.ref t, .int (tt : Int), .int (ss : Int)]) ht2
      exact k _ t2 _ B tt ss ((y9.trans sA.dst).trans sB.dst) ((hD9.same sA).same sB) (SqT.of upd_same) (.tup (sB.tq (SqT.of upd_same)) (hfs9.same (sA.trans sB))) hc hs (by omega) hB
end
end NPK
set_option Elab.async false
set_option linter.all false
set_option maxRecDepth 100000
set_option maxHeartbeats 4000000
namespace NPK
open PySem PySem.Spec PyProof.Rows L2 NP
/-! ### what is shown is short -/
def Sm (i : Int) : Prop := 0 ≤ i ∧ i ≤ 100000
theorem sm_w {i : Int} (h : Sm i) : (if (i == 0) = true then 0 else i.natAbs.log2 + 1) ≤ 100001 := by
  have h1 := Nat.log2_le_self i.natAbs
  have h2 := h.1
  have h3 := h.2
  split <;> omega
theorem sm_l {i : Int} (h : Sm i) : i.natAbs.log2 < 1920 := by
  have h2 := h.1
  have h3 := h.2
  by_cases h0 : i.natAbs = 0
  · rw [h0]
    decide
  · rw [Nat.log2_lt h0]
    exact Nat.lt_of_lt_of_le (by omega : i.natAbs < 2 ^ 17) (Nat.pow_le_pow_right (by decide) (by decide))
theorem sm_s {i : Int} (h : Sm i) : (PyData.shown (.int i)).length ≤ 13 := PyData.shown_int_le2 (by have := h.1; omega) (by have := h.2; omega)
def dWon (z : Str) (s : Int) : PyData := .tuple [.str "won", .str z, .int s, .int 0]
def dTold (s t : Int) : PyData := .tuple [dWon "two" s, .tuple [.tuple [.tuple [.none]], .tuple [.int t, .int 0]]]
/-- data that repr shows well -/
structure Shows (d : PyData) : Prop where
  a : d.showable = true
  b : d.hasDict = false
  c : d.depth < 1000
  e : d.shown.length ≤ sizeLine
theorem sm0 : Sm 0 := ⟨by decide, by decide⟩
theorem shows_won {z : Str} {s : Int} (hz : z = "one" ∨ z = "two") (hs : Sm s) : Shows (dWon z s) := by
  have w1 := sm_w hs
  have l1 := sm_l hs
  have k1 := sm_s hs
  have k0 := sm_s sm0
  refine ⟨?_, ?_, ?_, Nat.le_trans (shown_le13 ?_ ?_) (by decide)⟩
  · simp [dWon, PyData.showable, PyData.showableAll, l1]
  · simp [dWon, PyData.hasDict, PyData.hasDictAll]
  · simp [dWon, PyData.depth, PyData.depthAll]
  · unfold PyData.layable0
    rw [Bool.and_eq_true, Bool.and_eq_true]
    refine ⟨⟨?_, ?_⟩, decide_eq_true ?_⟩
    · rcases hz with rfl | rfl <;> (simp only [dWon, PyData.canLay0, PyData.canLayAll0]; decide +kernel)
    · simp [dWon, PyData.depth, PyData.depthAll]
    · have hz : z.cps.size ≤ 3 := by rcases hz with rfl | rfl <;> decide +kernel
      have hw : (("won" : Str)).cps.size ≤ 3 := by decide +kernel
      simp only [dWon, PyData.weight, PyData.weightAll]
      have w0 := sm_w sm0
      omega
  · simp only [dWon, PyData.intsShort, PyData.intsShortAll, Bool.true_and, Bool.and_true]
    rw [decide_eq_true k1, decide_eq_true k0]
    rfl
theorem shows_told {s t : Int} (hs : Sm s) (ht : Sm t) : Shows (dTold s t) := by
  have w1 := sm_w hs
  have l1 := sm_l hs
  have k1 := sm_s hs
  have w2 := sm_w ht
  have l2 := sm_l ht
  have k2 := sm_s ht
  have k0 := sm_s sm0
  refine ⟨?_, ?_, ?_, Nat.le_trans (shown_le13 ?_ ?_) (by decide)⟩
  · simp [dTold, dWon, PyData.showable, PyData.showableAll, l1, l2]
  · simp [dTold, dWon, PyData.hasDict, PyData.hasDictAll]
  · simp [dTold, dWon, PyData.depth, PyData.depthAll]
  · unfold PyData.layable0
    rw [Bool.and_eq_true, Bool.and_eq_true]
    refine ⟨⟨?_, ?_⟩, decide_eq_true ?_⟩
    · simp only [dTold, dWon, PyData.canLay0, PyData.canLayAll0]
      decide +kernel
    · simp [dTold, dWon, PyData.depth, PyData.depthAll]
    · have hz : (("two" : Str)).cps.size ≤ 3 := by decide +kernel
      have hw : (("won" : Str)).cps.size ≤ 3 := by decide +kernel
      simp only [dTold, dWon, PyData.weight, PyData.weightAll]
      have w0 := sm_w sm0
      omega
  · simp only [dTold, dWon, PyData.intsShort, PyData.intsShortAll, Bool.true_and, Bool.and_true]
    rw [decide_eq_true k1, decide_eq_true k0, decide_eq_true k2]
    rfl
/-! ### more of what is built -/
section
variable {K : PySem.W.Frag} {σ : L2.St} {H : Hp} {ds es : List PyData} {te tf : TE}
theorem tpa_flat {K : PySem.W.Frag} {H : Hp} {xs : List V} {ds : List PyData} (h : TpAll K H xs ds) : ∀ k : Nat, TpAll K H (List.replicate k xs).flatten (List.replicate k ds).flatten
  | 0 => .nil
  | k + 1 => h.app (tpa_flat h k)
theorem Bd.rep {i k : Nat} (h : Bd K te σ H (.tuple ds)) (hn : ds ≠ []) (hl : ds.length ≤ 1000) (hk : k ≤ 1000) (e : σ[i]? = some (some (.int (k : Int)))) : Bd K (tOp (rRepA K) te (tVar i)) σ H (.tuple (List.replicate k ds).flatten) := fun H1 s Q q =>
  h H1 s _ fun H2 v s2 hv => by
    obtain ⟨a, xs, rfl, hx, r⟩ := tp_tup hv
    have hl2 := r.len
    refine ⟨_, e, a, xs, k, rfl, rfl, hx, fun e => hn (by rw [e] at hl2; exact List.eq_nil_of_length_eq_zero hl2.symm), hk, by omega, fun H3 p s3 hp => q _ _ (s2.trans s3) (.tup hp (tpa_flat (r.same s3) k))⟩
theorem Bd.cat (h : Bd K te σ H (.tuple ds)) (h2 : Bd K tf σ H (.tuple es)) (hl : ds.length + es.length ≤ 1000) : Bd K (tOp (rCatA K) te tf) σ H (.tuple (ds ++ es)) := fun H1 s Q q =>
  h H1 s _ fun H2 v s2 hv => h2 H2 (s.trans s2) _ fun H3 u s3 hu => by
    obtain ⟨a, xs, rfl, hx, r⟩ := tp_tup hv
    obtain ⟨b, ys, rfl, hy, r2⟩ := tp_tup hu
    have l1 := r.len
    have l2 := r2.len
    exact cat_any (s3.tq hx) hy (small_le (by omega)) fun H4 p s4 hp => q _ _ ((s2.trans s3).trans s4) (.tup hp (((r.same s3).same s4).app (r2.same s4)))
end
theorem iteNS {x : Str} {A B : Prop} (k : B) : if (!decide (V.str x = V.str x)) = true then A else B := by
  rw [decide_eq_true rfl]
  exact iteF k
theorem go_nil {σ : L2.St} {H : Hp} {Q : List V → Hp → Prop} (h : Q [] H) : tNil σ H Q := h
theorem go_cb {r : List V → Hp → VK → Prop} {t : TA} {σ : L2.St} {H : Hp} {Q : VK} (h : t σ H fun vs H1 => r vs H1 Q) : tCB r t σ H Q := h
theorem repr_of {K : PySem.W.Frag} {H : Hp} {v : V} {d : PyData} {Q : VK} {zz : Str} (h : Tp K H v d) (hd : ∃ ds, d = .tuple ds) (sh : Shows d) (e : d.shown = zz) (q : Q (.str zz) H) : rRepr K [v] H Q := by
  obtain ⟨ds, rfl⟩ := hd
  subst e
  obtain ⟨a, xs, rfl, hx, r⟩ := tp_tup h
  exact ⟨a, _, rfl, tp_dp _ _ h, sh.a, sh.b, sh.c, sh.e, q⟩
/-! ### the word -/
def wok (z : Str) : Bool := decide (z.cps.size ≤ 4) && z.cps.toList.all (fun c => decide (c ∈ lets.cps.toList))
theorem word_ok : ∀ ys : List Str, (∀ y ∈ ys, y = "a" ∨ y = "b") → ys.length ≤ 4 → wok (Txt.join "" ys) = true
  | [], _, _ => by decide +kernel
  | [x], h, _ => by
    rcases h x (by simp) with rfl | rfl <;> decide +kernel
  | [x, y], h, _ => by
    rcases h x (by simp) with rfl | rfl <;> rcases h y (by simp) with rfl | rfl <;> decide +kernel
  | [x, y, z], h, _ => by
    rcases h x (by simp) with rfl | rfl <;> rcases h y (by simp) with rfl | rfl <;> rcases h z (by simp) with rfl | rfl <;> decide +kernel
  | [x, y, z, u], h, _ => by
    rcases h x (by simp) with rfl | rfl <;> rcases h y (by simp) with rfl | rfl <;> rcases h z (by simp) with rfl | rfl <;> rcases h u (by simp) with rfl | rfl <;> decide +kernel
  | _ :: _ :: _ :: _ :: _ :: _, _, hl => by
    simp only [List.length_cons] at hl
    omega
/-! ### the two programs -/
def S1 (B : List (List Cmd)) : Scr := ⟨[("t", [(0, 1)])], 5000, 1, nmc, pB 0 B⟩
def S2 (k m : Nat) : Scr := ⟨[], 20, 20, fun _ => "main", [("main", mainOf k m)]⟩
theorem s1_ok {n : Nat} {B : List (List Cmd)} {t s : Nat} (hc : Chain n B t s) (hl : B.length ≤ 5) (hB : OkB B) : OkScr (S1 B) := by
  have hp := hc.pos
  refine ⟨fun d hd => ?_, (by show 1 ≤ 10; decide), (by show (("input" : Str) :: [("t" : Str)]).Nodup; decide +kernel), (by show 1 ≤ 5000; decide), (by show 1 ≤ 1; decide), ?_, ?_, fun k d e => ?_, fun j k hj hk e => ?_⟩
  · cases List.mem_singleton.mp hd
    exact ⟨(by decide +kernel : okN "t" = true), okP_one (Nat.le_refl 1)⟩
  · show (pB 0 B).length ≤ 10
    rw [pB_len]
    omega
  · show 1 ≤ (pB 0 B).length
    rw [pB_len]
    omega
  · obtain ⟨h1, h2⟩ := pB_at 0 B k d e
    rw [Nat.zero_add] at h1
    have hk : k < B.length := (List.getElem?_eq_some_iff.mp h2).1
    obtain ⟨h3, h4, h5⟩ := hB k d.2 h2
    exact ⟨h1, by rw [h1]; exact nmc_ok k (by omega), h3, h4⟩
  · have hj' : j < (pB 0 B).length := hj
    have hk' : k < (pB 0 B).length := hk
    rw [pB_len] at hj' hk'
    exact nmc_inj (by omega) (by omega) e
theorem s2_ok {k m : Nat} (hk : k ≤ 8) (hm : 1 ≤ m) : OkScr (S2 k m) := by
  refine ⟨fun d hd => absurd hd List.not_mem_nil, (by show 0 ≤ 10; decide), (by show [("input" : Str)].Nodup; simp), (by show 1 ≤ 20; decide), (by show 1 ≤ 20; decide), (by show 1 ≤ 10; decide), (by show 1 ≤ 1; decide), fun i d e => ?_, fun i j hi hj _ => ?_⟩
  · match i, e with
    | 0, e =>
      cases Option.some.inj e
      refine ⟨rfl, (by decide +kernel : okN "main" = true), ?_, ?_⟩
      · show okCs _ _ (List.replicate k (.up true) ++ [.rep [(0, m)] [.ifat [.win] [], .up false]])
        exact okCs_app.mpr ⟨okCs_rep (c := .up true) True.intro k, ⟨okP_one hm, ⟨⟨True.intro, True.intro⟩, True.intro⟩, True.intro, True.intro⟩, True.intro⟩
      · show cszs (List.replicate k (.up true) ++ [.rep [(0, m)] [.ifat [.win] [], .up false]]) ≤ 1000
        rw [cszs_app, cszs_rep]
        simp [cszs, csz]
        omega
    | i + 1, e => cases e
  · have h1 : i < 1 := hi
    have h2 : j < 1 := hj
    omega
theorem asks1 {B : List (List Cmd)} {t s : Nat} {z : Str} (hw : wok z = true) (hc : Chain z.cps.size B t s) (hs : s ≤ 1500) (hl : B.length ≤ 5) (hB : OkB B) : Asks (S1 B) z false ⟨t, 0, s, []⟩ := by
  unfold wok at hw
  rw [Bool.and_eq_true, decide_eq_true_eq, List.all_eq_true] at hw
  refine ⟨s1_ok hc hl hB, hw.1, fun c hcm => of_decide_eq_true (hw.2 c hcm), ?_, (by show s ≤ 2000; omega)⟩
  have h := chain_play (bj := 1) hc hs
  show Ex ⟨z.cps.size, 5000, 1, (pB 0 B).map (·.2)⟩ ⟨0, 0, 0, [(((pB 0 B).map (·.2)).getD ((pB 0 B).length - 1) [], 0, 0)]⟩ false ⟨t, 0, s, []⟩
  rw [pB_snd, pB_len]
  exact h
theorem asks2 {k m : Nat} {z : Str} (hw : wok z = true) (hk : k ≤ 8) (hm : 1 ≤ m) (hm9 : m ≤ 9) : ∃ F, Asks (S2 k m) z (decide (k < m)) F ∧ F.st = if k < m then k + 1 + 3 * k + 2 else k + 1 + 3 * m := by
  unfold wok at hw
  rw [Bool.and_eq_true, decide_eq_true_eq, List.all_eq_true] at hw
  obtain ⟨F, h1, h2⟩ := main_play (n := z.cps.size) hm hm9 hk
  refine ⟨F, ⟨s2_ok hk hm, hw.1, fun c hcm => of_decide_eq_true (hw.2 c hcm), h1, ?_⟩, h2⟩
  rw [h2]
  split <;> omega
/-! the law -/
abbrev S_law : Stmt := top 87
abbrev N_law : List Str := ["_law_script", "_law_deck_here", "_law_turn", "_law_word", "_law_procedures", "_law_times", "_law_steps", "_law_program", "_law_told", "_law_m", "_law_k", "_law_main", "_law_near", "_law_due"]
theorem sc_law : FnScope N_law ["_law_script"] (defScope S_law) := ⟨rfl, rfl, rfl, by decide +kernel, rfl, by decide +kernel, by decide +kernel⟩
theorem nd_law : N_law.Nodup := sc_law.nd
def spLaw (K : PySem.W.Frag) : Sp := fun vs H Q _ => ∃ a, ∃ ns : List Int, vs = [.ref a] ∧ SqL K H a (ns.map V.int) ∧ ∀ H', Q (.bl true) H'
section
variable {P : Program} {w : World} {K : PySem.W.Frag} {mg : Str → Option Value} {base : Heap} {a : Ads}
theorem run_law (T : Txt K mg w a) {f : Addr} {fd : FuncData} (F : FunD K "law" "law" (defArgs S_law) (defBody S_law) (defScope S_law) [] [] f fd) : RunAt P w K mg base callerA f fd ["_law_script"] (spLaw K) := by
  have F_law_deck := fk_law_deck (P := P) (w := w) (base := base) T
  have F_law_draw := fk_law_draw (P := P) (w := w) (base := base) T
  have F_law_pick := fk_law_pick (P := P) (w := w) (base := base) T
  have F_law_chain := fk_law_chain (P := P) (w := w) (base := base) T
  have F_law_are_bounds_within := fk_law_within (P := P) (w := w) (base := base) T
  have F_run := (fk2_run (P := P) (w := w) (base := base) T).fk
  obtain ⟨fR, fdR, FR, hmR, hkR, _, hbR⟩ := fk2_run (P := P) (w := w) (base := base) T
  obtain ⟨fA, fdA, FA, hmA, hkA, _, hbA⟩ := fk2_state_after (P := P) (w := w) (base := base) T
  have room : Room (63 + 1) callerA := ⟨rfl, by decide, by decide⟩
  refine run_at F sc_law (fun vs H Q E h => ?_) room fun cdv outer s H vs Q E hr h => ?_
  · obtain ⟨p, ns, rfl, _⟩ := h
    rfl
  · obtain ⟨p, ns, rfl, hp, k⟩ := h
    suffices h : ∃ t, PSs (cxOf CX0 P w K mg base N_law "law" (defScope S_law) f cdv callerA outer s H E).nox (defBody S_law) t ∧ t { nx := fun _ H' => Q .non H', rt := Q } (start N_law [.ref p]) H from let ⟨t, h1, h2⟩ := h; ⟨t, h1.nox, h2⟩
    refine ⟨_, (pss_cons (ps_set (i := 1) nd_law rfl (by first | exact Or.inl rfl | exact Or.inr rfl) (pe_f (F_law_deck) (hr.mono (by decide)) rfl (pa_cons (pv 0) pa_nil)))
      (pss_cons (ps_for PassesOwn.never rfl (pi_range1 (by rfl) T.range (pa_cons pe_int pa_nil)) (pg_name (i := 2) nd_law rfl (by first | exact Or.inl rfl | exact Or.inr rfl)) (pss_cons (ps_set (i := 3) nd_law rfl (by first | exact Or.inl rfl | exact Or.inr rfl) (pe_join pe_str (pe_lc (own := [("_law_k", 10)]) (by rfl) nd_law (pi_range1 (by rfl) T.range (pa_cons (pe_f (F_law_draw) (hr.mono (by decide)) rfl (pa_cons (pv 1) (pa_cons pe_int pa_nil))) pa_nil)) (blkOk_by (own := [("_law_k", 10)]) (N := N_law) (sc := defScope S_law) (by decide +kernel)) (fun _ _ _ _ _ => (pg_name (i := 10) nd_law rfl (by first | exact Or.inl rfl | exact Or.inr rfl))) (fun _ _ _ _ _ => pts_nil) (fun _ _ _ _ _ => (pe_f (F_law_pick) (hr.mono (by decide)) rfl (pa_cons (pv 1) (pa_cons (pe_lst (pa_cons pe_str (pa_cons pe_str pa_nil))) pa_nil)))))))
      (pss_cons (ps_asg (pe_f (F_law_chain) (hr.mono (by decide)) rfl (pa_cons (pv 1) (pa_cons (pe_callB call_len_str (by rfl) T.len (by decide +kernel) (pa_cons (pv 3) pa_nil)) (pa_cons pe_int pa_nil)))) (pgT K rfl rfl (pgs_cons (pg_name (i := 4) nd_law rfl (by first | exact Or.inl rfl | exact Or.inr rfl)) (pgs_cons (pg_name (i := 5) nd_law rfl (by first | exact Or.inl rfl | exact Or.inr rfl)) (pgs_cons (pg_name (i := 6) nd_law rfl (by first | exact Or.inl rfl | exact Or.inr rfl)) pgs_nil)))))
      (pss_cons (ps_set (i := 7) nd_law rfl (by first | exact Or.inl rfl | exact Or.inr rfl) (pe_tup (pa_cons (pe_tup (pa_cons (pe_tup (pa_cons pe_str (pa_cons (pe_tup (pa_cons (pe_tup (pa_cons pe_int (pa_cons pe_int pa_nil))) pa_nil)) pa_nil))) pa_nil)) (pa_cons (pe_tup (pa_cons (pe_tup (pa_cons pe_str (pa_cons (pe_tup (pa_cons (pe_tup (pa_cons pe_int (pa_cons pe_int pa_nil))) pa_nil)) pa_nil))) (pa_cons (pe_tup (pa_cons pe_str (pa_cons (pe_tup (pa_cons (pe_tup (pa_cons pe_int (pa_cons pe_int pa_nil))) pa_nil)) pa_nil))) pa_nil))) (pa_cons (pv 4) pa_nil)))))
      (pss_cons (ps_if (pt_not (pt_val (pe_f (F_law_are_bounds_within) (hr.mono (by decide)) rfl (pa_cons (pv 7) pa_nil)))) (pss_one ps_continue) pss_nil)
      (pss_cons (ps_set (i := 8) nd_law rfl (by first | exact Or.inl rfl | exact Or.inr rfl) (pe_tup (pa_cons (pe_f (F_run) (hr.mono (by decide)) rfl (pa_cons (pv 7) (pa_cons (pv 3) (pa_cons pe_str pa_nil)))) (pa_cons (pe_callK0 FA (hr.mono (by decide)) rfl hmA hkA hbA pass0 (pk_cons pe_str (pk_cons (pv 3) (pk_cons (pv 7) pk_nil)))) pa_nil))))
      (pss_cons (ps_if (pt_cmpR op_ne (pe_callB (cr_repr hr (by decide) rfl) (by rfl) T.repr (by decide +kernel) (pa_cons (pv 8) pa_nil)) (pe_callB (cr_repr hr (by decide) rfl) (by rfl) T.repr (by decide +kernel) (pa_cons (pe_tup (pa_cons (pe_tup (pa_cons pe_str (pa_cons pe_str (pa_cons (pv 6) (pa_cons pe_int pa_nil))))) (pa_cons (pe_tup (pa_cons (pe_tup (pa_cons (pe_tup (pa_cons pe_non pa_nil)) pa_nil)) (pa_cons (pe_tup (pa_cons (pv 5) (pa_cons pe_int pa_nil))) pa_nil))) pa_nil))) pa_nil)) (nomark _)) (pss_one (ps_ret pe_bl)) pss_nil)
      (pss_cons (ps_par (by rfl) nd_law (i := 9) (j := 10) rfl rfl (by decide) rfl rfl (pa_cons (pe_op op_add pe_int (pe_f (F_law_draw) (hr.mono (by decide)) rfl (pa_cons (pv 1) (pa_cons pe_int pa_nil)))) (pa_cons (pe_f (F_law_draw) (hr.mono (by decide)) rfl (pa_cons (pv 1) (pa_cons pe_int pa_nil))) pa_nil)) (by rfl))
      (pss_cons (ps_set (i := 11) nd_law rfl (by first | exact Or.inl rfl | exact Or.inr rfl) (pe_tup (pa_cons (pe_tup (pa_cons pe_str (pa_cons (pe_tup (pa_cons (pe_tup (pa_cons pe_int (pa_cons (pv 9) pa_nil))) pa_nil)) (pa_cons (pe_tup (pa_cons (pe_tup (pa_cons pe_str (pa_cons (pe_tup (pa_cons pe_str (pa_cons pe_str (pa_cons pe_str pa_nil)))) (pa_cons (pe_tup (pa_cons (pe_tup (pa_cons pe_str (pa_cons pe_str pa_nil))) pa_nil)) (pa_cons (pe_tup pa_nil) pa_nil))))) (pa_cons (pe_tup (pa_cons pe_str (pa_cons pe_str pa_nil))) pa_nil))) pa_nil)))) pa_nil)))
      (pss_cons (ps_set (i := 12) nd_law rfl (by first | exact Or.inl rfl | exact Or.inr rfl) (pe_tup (pa_cons (pe_tup pa_nil) (pa_cons (pe_tup (pa_cons (pe_tup (pa_cons pe_str (pa_cons (pe_tup (pa_cons (pe_tup (pa_cons pe_int (pa_cons pe_int pa_nil))) pa_nil)) pa_nil))) (pa_cons (pe_tup (pa_cons pe_str (pa_cons (pe_tup (pa_cons (pe_tup (pa_cons pe_int (pa_cons pe_int pa_nil))) pa_nil)) pa_nil))) pa_nil))) (pa_cons (pe_tup (pa_cons (pe_tup (pa_cons pe_str (pa_cons (pe_op (catT K rfl) (pe_op (repA K rfl) (pe_tup (pa_cons (pe_tup (pa_cons pe_str (pa_cons pe_str pa_nil))) pa_nil)) (pv 10)) (pv 11)) pa_nil))) pa_nil)) pa_nil)))))
      (pss_cons (ps_set (i := 13) nd_law rfl (by first | exact Or.inl rfl | exact Or.inr rfl) (pe_ifExp (pt_cmpR op_lt (pv 10) (pv 9) (nomark _)) (pe_tup (pa_cons pe_str (pa_cons pe_str (pa_cons (pe_op op_add (pe_op op_add (pe_op op_add (pv 10) pe_int) (pe_op op_mul pe_int (pv 10))) pe_int) (pa_cons pe_int pa_nil))))) (pe_tup (pa_cons pe_str (pa_cons pe_str (pa_cons (pe_op op_add (pe_op op_add (pv 10) pe_int) (pe_op op_mul pe_int (pv 9))) (pa_cons pe_int pa_nil)))))))
      (pss_one (ps_if (pt_cmpR op_ne (pe_callB (cr_repr hr (by decide) rfl) (by rfl) T.repr (by decide +kernel) (pa_cons (pe_callK0 FR (hr.mono (by decide)) rfl hmR hkR hbR pass0 (pk_cons pe_str (pk_cons (pv 3) (pk_cons (pv 12) pk_nil)))) pa_nil)) (pe_callB (cr_repr hr (by decide) rfl) (by rfl) T.repr (by decide +kernel) (pa_cons (pv 13) pa_nil)) (nomark _)) (pss_one (ps_ret pe_bl)) pss_nil)))))))))))))
      (pss_one (ps_ret pe_bl)))), ?_⟩
    refine ⟨_, rfl, p, ns, rfl, hp, fun H1 d l s1 _ _ hD => ?_⟩
    refine ⟨3, rfl, by decide, by decide, ?_⟩
    refine for_it (walk_range (lo := 0) (n := 3)) (fun i σ H' => ∃ z2 z3 z4 z5 z6 z7 z8 z9 z10 z11 z12 z13, σ = [some (.ref p), some (.ref d), z2, z3, z4, z5, z6, z7, z8, z9, z10, z11, z12, z13] ∧ Deck H' d l) ⟨none, none, none, none, none, none, none, none, none, none, none, none, rfl, hD⟩ (fun _ _ _ _ _ => True.intro) ?_ ?_
    · rintro i x σ H2 H3 hi ⟨z2, z3, z4, z5, z6, z7, z8, z9, z10, z11, z12, z13, rfl, hD3⟩ ⟨rfl, rfl⟩
      -- the word
      refine ⟨⟨_, rfl⟩, _, rfl, d, l, 5, rfl, hD3, by decide, by decide, fun H4 r y4 hD4 hr4 => ⟨(r : Int), rfl, by omega, by omega, fun D hDn => ?_⟩⟩
      obtain ⟨m0, q0, ns0, hd0, hl0, _⟩ := id hD4
      have nDd : D ≠ d := Ne.symm (ne_of_none hd0 hDn)
      have nDl : D ≠ l := Ne.symm (ne_of_none hl0 hDn)
      refine lc_it (walk_range (lo := 0) (n := (r : Int).toNat)) (fun i H' => Deck H' d l ∧ ∃ ys : List Str, H' D = some (.lst (ys.map V.str)) ∧ ys.length = i ∧ ∀ y ∈ ys, y = "a" ∨ y = "b") ⟨hD4.put nDd nDl, [], upd_same, rfl, fun y hy => absurd hy List.not_mem_nil⟩ (fun _ _ _ _ => True.intro) ?_ ?_
      · rintro j x5 H5 H6 hj ⟨hD5, ys, hys, hyl, hyp⟩ ⟨rfl, rfl⟩
        simp only [tYes, ↓reduceIte]
        refine ⟨rfl, _, rfl, small_le (by show 2 ≤ 1000000; decide), fun q hq => ?_⟩
        have s6 := same_new (o := .lst [V.str "a", V.str "b"]) hq
        obtain ⟨m1, q1, ns1, hd1, hl1, _⟩ := id hD5
        refine ⟨d, l, q, _, rfl, hD5.same s6, upd_same, Ne.symm (ne_of_none hl1 hq), by simp, (by show 2 ≤ 64; decide), fun H7 x7 y7 hD7 hx7 => ?_⟩
        have hys7 := y7 _ _ nDd nDl (s6 _ _ hys)
        have hxs : ∃ z : Str, x7 = .str z ∧ (z = "a" ∨ z = "b") := by
          simp only [List.mem_cons, List.not_mem_nil, or_false] at hx7
          rcases hx7 with rfl | rfl
          · exact ⟨_, rfl, .inl rfl⟩
          · exact ⟨_, rfl, .inr rfl⟩
        obtain ⟨zz, rfl, hzz⟩ := hxs
        refine ⟨_, hys7, small_line (by rw [List.length_map]; omega), hD7.put nDd nDl, ys ++ [zz], by rw [upd_same, List.map_append]; rfl, by rw [List.length_append, hyl]; rfl, fun y hy => ?_⟩
        rcases List.mem_append.mp hy with hy | hy
        · exact hyp y hy
        · cases List.mem_singleton.mp hy
          exact hzz
      rintro H5 ⟨hD5, ys, hys, hyl, hyp⟩
      have hw := word_ok ys hyp (by omega)
      refine ⟨"", D, ys, rfl, rfl, .inl (SqL.of hys), ?_, ?_⟩
      · have hsum : (ys.map (·.length)).sum ≤ ys.length := by
          have : ∀ l : List Str, (∀ y ∈ l, y = "a" ∨ y = "b") → (l.map (·.length)).sum ≤ l.length := by
            intro l
            induction l with
            | nil => intro _; exact Nat.le_refl _
            | cons y l ih =>
              intro h
              have h1 := ih fun z hz => h z (List.mem_cons_of_mem _ hz)
              have h2 : y.length = 1 := by
                rcases h y (List.mem_cons_self ..) with rfl | rfl <;> decide +kernel
              rw [List.map_cons, List.sum_cons, List.length_cons]
              omega
          exact this ys hyp
        have h0 : ("" : Str).length = 0 := by decide +kernel
        rw [h0]
        omega
      generalize Txt.join "" ys = z at hw ⊢
      have hw2 := hw
      unfold wok at hw2
      rw [Bool.and_eq_true, decide_eq_true_eq] at hw2
      have hz4 := hw2.1
      clear hw2
      have hzl : z.length = z.cps.size := by simp [Str.length]
      refine ⟨_, rfl, _, rfl, z, rfl, small_le (by omega), d, l, z.length, rfl, hD5, by omega, fun H6 t tp B tt ss y6 hD6 ht htp hc hs hBl hB => ?_⟩
      rw [hzl] at hc
      refine ⟨t, _, rfl, ht, rfl, _, _, rfl, _, _, rfl, _, _, rfl, rfl, ?_⟩
      dsimp only
      refine go_seq (go_asg ?_)
      refine Bd.go (K := K) (d := .tuple [.tuple [.tuple [.str "t", .tuple [.tuple [.int 0, .int 1]]]], .tuple [.tuple [.str "i", .tuple [.tuple [.int 0, .int 5000]]], .tuple [.str "j", .tuple [.tuple [.int 0, .int 1]]]], .tuple ((pB 0 B).map (encPr nmc))]) (.tup (.cons (.tup (.cons (.tup (.cons (.str _) (.cons (.tup (.cons (.tup (.cons (.int _) (.cons (.int _) .nil)) (by simp)) .nil) (by simp)) .nil)) (by simp)) .nil) (by simp)) (.cons (.tup (.cons (.tup (.cons (.str _) (.cons (.tup (.cons (.tup (.cons (.int _) (.cons (.int _) .nil)) (by simp)) .nil) (by simp)) .nil)) (by simp)) (.cons (.tup (.cons (.str _) (.cons (.tup (.cons (.tup (.cons (.int _) (.cons (.int _) .nil)) (by simp)) .nil) (by simp)) .nil)) (by simp)) .nil)) (by simp)) (.cons (.var rfl htp) .nil))) (by simp)) fun H7 v7 s7 hv7' => ?_
      have hv7 : Tp K H7 v7 (encScr (S1 B)) := hv7'
      have hok1 := s1_ok hc hBl hB
      have hask1 := asks1 hw hc hs hBl hB
      refine ⟨_, rfl, v7, S1 B, rfl, hv7, hok1, rfl, (by show (pB 0 B).length ≤ 5; rw [pB_len]; exact hBl), fun dd hdd => ?_, fun H8 bb s8 => ⟨_, rfl, ?_⟩⟩
      · obtain ⟨q, hq⟩ := List.mem_iff_getElem?.mp hdd
        exact (hB q _ (pB_at 0 B q dd hq).2).2.2
      cases bb with
      | false => exact iteT ⟨_, _, _, _, _, _, _, _, _, _, _, _, rfl, ((hD6.same s7).same s8)⟩
      | true =>
      refine iteF ?_
      have hv8 := hv7.same s8
      refine ⟨_, rfl, _, rfl, v7, S1 B, z, false, _, rfl, hv8, hask1, fun H9 t9 s9 ht9 => ⟨_, rfl, _, rfl, v7, S1 B, z, false, _, rfl, hv8.same s9, hask1, rfl, fun H10 t10 s10 ht10 => ⟨small_le (by show 2 ≤ 1000000; decide), fun p2 hp2 => ?_⟩⟩⟩
      have s11 := same_new (o := .tup [.ref t9, .ref t10]) hp2
      have htold : Tp K (upd H10 p2 (.tup [.ref t9, .ref t10])) (.ref p2) (dTold (ss : Int) (tt : Int)) := .tup (SqT.of upd_same) (.cons (ht9.same (s10.trans s11)) (.cons (ht10.same s11) .nil))
      have hD11 := ((((hD6.same s7).same s8).same s9).same s10).same s11
      have htt := hc.le
      have hsh1 := shows_told (s := (ss : Int)) (t := (tt : Int)) ⟨by omega, by omega⟩ ⟨by omega, by omega⟩
      refine ⟨_, rfl, ?_⟩
      refine go_nil ?_
      obtain ⟨zt, hzt⟩ : ∃ zt, (dTold (ss : Int) (tt : Int)).shown = zt := ⟨_, rfl⟩
      refine repr_of htold ⟨_, rfl⟩ hsh1 hzt ?_
      show tCB _ _ _ _ _
      refine go_cb (go_cons ?_)
      refine Bd.go (K := K) (d := dTold (ss : Int) (tt : Int)) (.tup (.cons (.tup (.cons (.str _) (.cons (.str _) (.cons (.var rfl (.int _)) (.cons (.int _) .nil)))) (by simp)) (.cons (.tup (.cons (.tup (.cons (.tup (.cons .non .nil) (by simp)) .nil) (by simp)) (.cons (.tup (.cons (.var rfl (.int _)) (.cons (.int _) .nil)) (by simp)) .nil)) (by simp)) .nil)) (by simp)) fun H12 v12 s12 hv12 => ?_
      refine go_nil ?_
      refine repr_of hv12 ⟨_, rfl⟩ hsh1 hzt ⟨rfl, _, rfl, iteNS ?_⟩
      have hD12 := hD11.same s12
      refine ⟨_, rfl, d, l, 9, rfl, hD12, by decide, by decide, fun H13 r1 y13 hD13 hr1 => ⟨_, _, rfl, rfl, _, rfl, d, l, 9, rfl, hD13, by decide, by decide, fun H14 k2 y14 hD14 hk2 => ⟨_, _, rfl, ?_⟩⟩⟩
      dsimp only
      refine go_seq (go_asg ?_)
      refine Bd.go (K := K) (d := .tuple [.tuple [.str "repeat", .tuple [.tuple [.int 0, .int ((1 + r1 : Nat) : Int)]], .tuple [.tuple [.str "if", .tuple [.str "at", .str "i", .str "j"], .tuple [.tuple [.str "wins", .str "one"]], .tuple []], .tuple [.str "up", .str "i"]]]]) (.tup (.cons (.tup (.cons (.str _) (.cons (.tup (.cons (.tup (.cons (.int _) (.cons (.var rfl (.int _)) .nil)) (by simp)) .nil) (by simp)) (.cons (.tup (.cons (.tup (.cons (.str _) (.cons (.tup (.cons (.str _) (.cons (.str _) (.cons (.str _) .nil))) (by simp)) (.cons (.tup (.cons (.tup (.cons (.str _) (.cons (.str _) .nil)) (by simp)) .nil) (by simp)) (.cons (.tup .nil (by simp)) .nil)))) (by simp)) (.cons (.tup (.cons (.str _) (.cons (.str _) .nil)) (by simp)) .nil)) (by simp)) .nil))) (by simp)) .nil) (by simp)) fun H14b v14 s14 hv14 => ?_
      dsimp only [gName]
      refine go_seq (go_asg ?_)
      refine Bd.go (K := K) (d := .tuple [.tuple [], .tuple [.tuple [.str "i", .tuple [.tuple [.int 0, .int 20]]], .tuple [.str "j", .tuple [.tuple [.int 0, .int 20]]]], .tuple [.tuple [.str "main", .tuple ((List.replicate k2 [PyData.tuple [.str "up", .str "j"]]).flatten ++ [.tuple [.str "repeat", .tuple [.tuple [.int 0, .int ((1 + r1 : Nat) : Int)]], .tuple [.tuple [.str "if", .tuple [.str "at", .str "i", .str "j"], .tuple [.tuple [.str "wins", .str "one"]], .tuple []], .tuple [.str "up", .str "i"]]]])]]])
        (.tup (.cons (.tup .nil (by simp)) (.cons (.tup (.cons (.tup (.cons (.str _) (.cons (.tup (.cons (.tup (.cons (.int _) (.cons (.int _) .nil)) (by simp)) .nil) (by simp)) .nil)) (by simp)) (.cons (.tup (.cons (.str _) (.cons (.tup (.cons (.tup (.cons (.int _) (.cons (.int _) .nil)) (by simp)) .nil) (by simp)) .nil)) (by simp)) .nil)) (by simp)) (.cons (.tup (.cons (.tup (.cons (.str _) (.cons (.cat (.rep (.tup (.cons (.tup (.cons (.str _) (.cons (.str _) .nil)) (by simp)) .nil) (by simp)) (by simp) (by simp) (by omega) rfl) (.var rfl hv14) (by simp; omega)) .nil)) (by simp)) .nil) (by simp)) .nil))) (by simp)) fun H15 v15 s15 hv15' => ?_
      have hv15 : Tp K H15 v15 (encScr (S2 k2 (1 + r1))) := by
        have e : encs (fun _ => "main") (mainOf k2 (1 + r1)) = (List.replicate k2 [PyData.tuple [.str "up", .str "j"]]).flatten ++ [.tuple [.str "repeat", .tuple [.tuple [.int 0, .int ((1 + r1 : Nat) : Int)]], .tuple [.tuple [.str "if", .tuple [.str "at", .str "i", .str "j"], .tuple [.tuple [.str "wins", .str "one"]], .tuple []], .tuple [.str "up", .str "i"]]]] := by
          rw [mainOf, encs_app, encs_map, List.map_replicate, List.flatten_replicate_singleton]
          rfl
        rw [← e] at hv15'
        exact hv15'
      have hD15 := (hD14.same s14).same s15
      obtain ⟨F2, hask2, hst2⟩ := asks2 (z := z) (k := k2) (m := 1 + r1) hw (by omega) (by omega) (by omega)
      dsimp only [gName]
      refine go_seq (go_asg ?_)
      refine ⟨_, rfl, _, rfl, _, _, rfl, rfl, _, rfl, ite2 (fun hlt => ?_) (fun hlt => ?_)⟩
      · have hlt' : k2 < 1 + r1 := by
          have := of_decide_eq_true hlt
          omega
        refine Bd.go (K := K) (d := dWon "one" ((k2 : Int) + 1 + 3 * (k2 : Int) + 2)) (.tup (.cons (.str _) (.cons (.str _) (.cons (.add (.add (.add (.var rfl (.int _)) (.int _)) (.mul (.int _) (.var rfl (.int _)) (.inl ⟨by decide, by decide⟩))) (.int _)) (.cons (.int _) .nil)))) (by simp [dWon])) fun H17 v17 s17 hv17 => ?_
        have hsm : Sm (((k2 : Int) + 1 + 3 * (k2 : Int) + 2)) := ⟨by omega, by omega⟩
        have hsh := shows_won (z := "one") (.inl rfl) hsm
        refine ⟨_, rfl, _, rfl, v15, S2 k2 (1 + r1), z, _, F2, rfl, hv15.same s17, hask2, fun H18 t18 s18 ht18 => ?_⟩
        have ht18' : Tp K H18 (.ref t18) (dWon "one" ((k2 : Int) + 1 + 3 * (k2 : Int) + 2)) := by
          rw [if_pos hlt'] at hst2
          rw [decide_eq_true hlt'] at ht18
          have e : ((F2.st : Nat) : Int) = (k2 : Int) + 1 + 3 * (k2 : Int) + 2 := by omega
          rw [e] at ht18
          exact ht18
        refine go_nil ?_
        obtain ⟨zu, hzu⟩ : ∃ zu, (dWon "one" ((k2 : Int) + 1 + 3 * (k2 : Int) + 2)).shown = zu := ⟨_, rfl⟩
        refine repr_of ht18' ⟨_, rfl⟩ hsh hzu ?_
        refine ⟨_, rfl, ?_⟩
        refine go_nil ?_
        refine repr_of (hv17.same s18) ⟨_, rfl⟩ hsh hzu ⟨rfl, _, rfl, iteNS ?_⟩
        exact ⟨_, _, _, _, _, _, _, _, _, _, _, _, rfl, ((hD15.same s17).same s18)⟩
      · have hlt' : ¬ k2 < 1 + r1 := fun h => hlt (decide_eq_true (by omega))
        refine Bd.go (K := K) (d := dWon "two" ((k2 : Int) + 1 + 3 * ((1 + r1 : Nat) : Int))) (.tup (.cons (.str _) (.cons (.str _) (.cons (.add (.add (.var rfl (.int _)) (.int _)) (.mul (.int _) (.var rfl (.int _)) (.inl ⟨by decide, by decide⟩))) (.cons (.int _) .nil)))) (by simp [dWon])) fun H17 v17 s17 hv17 => ?_
        have hsm : Sm (((k2 : Int) + 1 + 3 * ((1 + r1 : Nat) : Int))) := ⟨by omega, by omega⟩
        have hsh := shows_won (z := "two") (.inr rfl) hsm
        refine ⟨_, rfl, _, rfl, v15, S2 k2 (1 + r1), z, _, F2, rfl, hv15.same s17, hask2, fun H18 t18 s18 ht18 => ?_⟩
        have ht18' : Tp K H18 (.ref t18) (dWon "two" ((k2 : Int) + 1 + 3 * ((1 + r1 : Nat) : Int))) := by
          rw [if_neg hlt'] at hst2
          rw [decide_eq_false hlt'] at ht18
          have e : ((F2.st : Nat) : Int) = (k2 : Int) + 1 + 3 * ((1 + r1 : Nat) : Int) := by omega
          rw [e] at ht18
          exact ht18
        refine go_nil ?_
        obtain ⟨zu, hzu⟩ : ∃ zu, (dWon "two" ((k2 : Int) + 1 + 3 * ((1 + r1 : Nat) : Int))).shown = zu := ⟨_, rfl⟩
        refine repr_of ht18' ⟨_, rfl⟩ hsh hzu ?_
        refine ⟨_, rfl, ?_⟩
        refine go_nil ?_
        refine repr_of (hv17.same s18) ⟨_, rfl⟩ hsh hzu ⟨rfl, _, rfl, iteNS ?_⟩
        exact ⟨_, _, _, _, _, _, _, _, _, _, _, _, rfl, ((hD15.same s17).same s18)⟩
    · rintro σ H2 ⟨z2, z3, z4, z5, z6, z7, z8, z9, z10, z11, z12, z13, rfl, hD3⟩
      exact k H2
end
end NPK
set_option Elab.async false
set_option linter.all false
set_option maxRecDepth 100000
set_option maxHeartbeats 0
namespace NPK
open PySem PySem.Spec PyProof.Rows L2
section
variable {K : PySem.W.Frag} {w : World} {h : Heap} {mg : Str → Option Value}
theorem fb (c : He.SaysX hFa hFn hTs [] hEx w h K) (k : Nat) {f : He.Fa} (e : hFb[k]? = some f) : f.ok K = true := c.t.d.facts (List.mem_append_right _ (List.mem_of_getElem? e))
theorem exb (c : He.SaysX hFa hFn hTs [] hEx w h K) (k : Nat) {b : Bool} (e : (exL K)[k]? = some b) : b = true := List.all_eq_true.mp c.more b (List.mem_of_getElem? e)
def ads (K : PySem.W.Frag) : Ads := ⟨He.ga K "LIST_PLACES", He.ga K "TEST_PARTS", He.ga K "COMMAND_PARTS", He.ga K "TAPES_AT", He.ga K "INDEXES_AT", He.ga K "WRITTEN_AT", He.ga K "KEYWORDS", He.ga K "PlayStage", He.ma K (He.ga K "PlayStage") "__init__", He.ga K "PlayState", He.ma K (He.ga K "PlayState") "__init__"⟩
theorem txt (X : K.In h) (G : h.Ns mainGlobals mg) (c : He.SaysX hFa hFn hTs [] hEx w h K) : Txt K mg w (ads K) where
    fn := fun j p hp => by
      have hm := List.mem_of_getElem? hp
      obtain ⟨fd, F⟩ := c.t.d.defs (d := dF p) (List.mem_append_right _ (List.mem_map.mpr ⟨p, hm, rfl⟩))
      exact ⟨_, fd, F, He.glo_ok X G (c.t.d.facts (f := .glo p.2) (List.mem_append_left _ (List.mem_map.mpr ⟨p, hm, rfl⟩)))⟩
    isinstance := He.free_ok X G (fb c 9 (f := .free "isinstance") rfl)
    int := He.free_ok X G (fb c 10 (f := .free "int") rfl)
    bool := He.free_ok X G (fb c 11 (f := .free "bool") rfl)
    str := He.free_ok X G (fb c 12 (f := .free "str") rfl)
    tuple := He.free_ok X G (fb c 13 (f := .free "tuple") rfl)
    all := He.free_ok X G (fb c 14 (f := .free "all") rfl)
    zip := He.free_ok X G (fb c 15 (f := .free "zip") rfl)
    list := He.free_ok X G (fb c 16 (f := .free "list") rfl)
    len := He.free_ok X G (fb c 17 (f := .free "len") rfl)
    reversed := He.free_ok X G (fb c 18 (f := .free "reversed") rfl)
    enumerate := He.free_ok X G (fb c 19 (f := .free "enumerate") rfl)
    range := He.free_ok X G (fb c 20 (f := .free "range") rfl)
    sum := He.free_ok X G (fb c 21 (f := .free "sum") rfl)
    min := He.free_ok X G (fb c 22 (f := .free "min") rfl)
    max := He.free_ok X G (fb c 23 (f := .free "max") rfl)
    sorted := He.free_ok X G (fb c 24 (f := .free "sorted") rfl)
    repr := He.free_ok X G (fb c 25 (f := .free "repr") rfl)
    LETTERS := He.str_ok X G (fb c 26 (f := .str "LETTERS" "abcdefghijklmnopqrstuvwxyz") rfl)
    NAME_SIGNS := He.str_ok X G (fb c 27 (f := .str "NAME_SIGNS" "abcdefghijklmnopqrstuvwxyz0123456789_") rfl)
    INPUT_faultwork := He.str_ok X G (fb c 28 (f := .str "INPUT_faultwork" "input") rfl)
    INPUT_playwork := He.str_ok X G (fb c 29 (f := .str "INPUT_playwork" "input") rfl)
    LONGEST_NAME := He.int_ok X G (fb c 30 (f := .int "LONGEST_NAME" 12) rfl)
    SORTS := He.int_ok X G (fb c 31 (f := .int "SORTS" 3) rfl)
    PROCEDURES := He.int_ok X G (fb c 32 (f := .int "PROCEDURES" 2) rfl)
    LIST_PLACES := ⟨He.glo_ok X G (fb c 0 (f := .glo "LIST_PLACES") rfl), (show KTab K w (He.ga K "LIST_PLACES") from c.t.tab 0 (t := (fun K => He.ga K "LIST_PLACES", ["if", "repeat"])) rfl), fun p hp => rowB_ok (List.all_eq_true.mp (exb c 0 rfl) p hp), fun z hz => of_decide_eq_true (List.all_eq_true.mp (exb c 1 rfl) z hz)⟩
    TEST_PARTS := ⟨He.glo_ok X G (fb c 1 (f := .glo "TEST_PARTS") rfl), (show KTab K w (He.ga K "TEST_PARTS") from c.t.tab 1 (t := (fun K => He.ga K "TEST_PARTS", ["is", "equal", "empty", "inside", "at"])) rfl), fun p hp => rowB_ok (List.all_eq_true.mp (exb c 2 rfl) p hp), fun z hz => of_decide_eq_true (List.all_eq_true.mp (exb c 3 rfl) z hz)⟩
    COMMAND_PARTS := ⟨He.glo_ok X G (fb c 2 (f := .glo "COMMAND_PARTS") rfl), (show KTab K w (He.ga K "COMMAND_PARTS") from c.t.tab 2 (t := (fun K => He.ga K "COMMAND_PARTS", ["set", "copy", "clear", "zero", "up", "down", "same", "do", "choose", "wins"])) rfl), fun p hp => rowB_ok (List.all_eq_true.mp (exb c 4 rfl) p hp), fun z hz => of_decide_eq_true (List.all_eq_true.mp (exb c 5 rfl) z hz)⟩
    TAPES_AT := ⟨He.glo_ok X G (fb c 3 (f := .glo "TAPES_AT") rfl), (show KTab K w (He.ga K "TAPES_AT") from c.t.tab 3 (t := (fun K => He.ga K "TAPES_AT", ["set", "copy", "clear", "choose", "is", "equal", "empty", "inside"])) rfl), fun p hp => rowB_ok (List.all_eq_true.mp (exb c 6 rfl) p hp), fun z hz => of_decide_eq_true (List.all_eq_true.mp (exb c 7 rfl) z hz)⟩
    INDEXES_AT := ⟨He.glo_ok X G (fb c 4 (f := .glo "INDEXES_AT") rfl), (show KTab K w (He.ga K "INDEXES_AT") from c.t.tab 4 (t := (fun K => He.ga K "INDEXES_AT", ["set", "copy", "clear", "choose", "zero", "up", "down", "same", "is", "equal", "empty", "inside", "at"])) rfl), fun p hp => rowB_ok (List.all_eq_true.mp (exb c 8 rfl) p hp), fun z hz => of_decide_eq_true (List.all_eq_true.mp (exb c 9 rfl) z hz)⟩
    WRITTEN_AT := ⟨He.glo_ok X G (fb c 5 (f := .glo "WRITTEN_AT") rfl), (show KTab K w (He.ga K "WRITTEN_AT") from c.t.tab 5 (t := (fun K => He.ga K "WRITTEN_AT", ["set", "copy", "clear", "choose"])) rfl), fun p hp => rowB_ok (List.all_eq_true.mp (exb c 10 rfl) p hp), fun z hz => of_decide_eq_true (List.all_eq_true.mp (exb c 11 rfl) z hz)⟩
    KEYWORDS := He.glo_ok X G (fb c 6 (f := .glo "KEYWORDS") rfl)
    kws := fun H => He.tupB_ok (exb c 12 rfl) H
    clS := He.cls_ok (fb c 33 (f := .cls "PlayStage") rfl)
    mgS := He.glo_ok X G (fb c 7 (f := .glo "PlayStage") rfl)
    mkS := He.mkr_ok (fb c 34 (f := .mkr "PlayStage") rfl)
    fnS := c.t.d.def_ 0 (d := dS) rfl
    noS := fun x hx => by
      simp only [List.mem_cons, List.not_mem_nil, or_false] at hx
      rcases hx with rfl | rfl | rfl | rfl
      · exact He.noat_ok (fb c 35 (f := .noat "PlayStage" "length") rfl)
      · exact He.noat_ok (fb c 36 (f := .noat "PlayStage" "sizes") rfl)
      · exact He.noat_ok (fb c 37 (f := .noat "PlayStage" "bounds") rfl)
      · exact He.noat_ok (fb c 38 (f := .noat "PlayStage" "bodies") rfl)
    clP := He.cls_ok (fb c 39 (f := .cls "PlayState") rfl)
    mgP := He.glo_ok X G (fb c 8 (f := .glo "PlayState") rfl)
    mkP := He.mkr_ok (fb c 40 (f := .mkr "PlayState") rfl)
    fnP := c.t.d.def_ 1 (d := dP) rfl
    noP := fun x hx => by
      simp only [List.mem_cons, List.not_mem_nil, or_false] at hx
      rcases hx with rfl | rfl | rfl | rfl | rfl | rfl
      · exact He.noat_ok (fb c 41 (f := .noat "PlayState" "stage") rfl)
      · exact He.noat_ok (fb c 42 (f := .noat "PlayState" "held") rfl)
      · exact He.noat_ok (fb c 43 (f := .noat "PlayState" "numbers") rfl)
      · exact He.noat_ok (fb c 44 (f := .noat "PlayState" "pile") rfl)
      · exact He.noat_ok (fb c 45 (f := .noat "PlayState" "steps") rfl)
      · exact He.noat_ok (fb c 46 (f := .noat "PlayState" "champion") rfl)
end
end NPK
open PySem PySem.W PySem.Calls PyProof.Rows
theorem PySem.Challenge.cw_narrowplay_k15_whole_loops_and_procedure_holds : PySem.Challenge.rw_narrowplay_k15_whole_loops_and_procedure.Holds := by
  w_on; o_law
  refine HandSHeadRun.head_any (r := OpenLaw.row PySem.Challenge.rw_narrowplay_k15_whole_loops_and_procedure) (q := NPK.qv) (H := NPK.hk) (ob := NPK.ob) (M := 6000) (loose := NPK.names) (d := HandSHeadRun.topDef (OpenLaw.row PySem.Challenge.rw_narrowplay_k15_whole_loops_and_procedure).prog 87) (kwd := []) NPK.ob_eq
    (by kernel_rfl) (fun s => by kernel_rfl) NPK.run (by kernel_rfl) (by kernel_rfl) (by kernel_rfl) (by rfl) (by first | assumption | decide +kernel) (by decide +kernel) ⟨rfl, rfl, rfl, rfl, rfl, by decide +kernel⟩ ?hw ?hc
  case hw => w_witness2
  case hc =>
    refine NPK.walk_runs (l := PySem.Challenge.rw_narrowplay_k15_whole_loops_and_procedure) (n := 63) (x := "_law_script") rfl (by decide) (by kernel_rfl) ?F
    intro w mg fa h Y G hmg0
    obtain ⟨K, KX, c⟩ := Y
    have hmg : mg ("law" : PySem.Str) = some (.ref fa) := by
      have e : (HandSHeadRun.topDef (OpenLaw.row PySem.Challenge.rw_narrowplay_k15_whole_loops_and_procedure).prog 87).name = ("law" : PySem.Str) := by kernel_rfl
      rw [← e]
      exact hmg0
    have T := NPK.txt KX G c
    obtain ⟨f, fd, F, hf⟩ : NPK.Df K mg "law" (NPK.top 87) := T.fn 53 _ rfl
    have e2 := hmg.symm.trans hf
    cases e2
    have b := L2.FunD.bindsA (ps := ["_law_script"]) F fun _ _ _ _ _ _ us hl => match us, hl with | [_], _ => rfl
    exact ⟨K, fd, NPK.spLaw K, KX, fun s u => b s [u] rfl, fun H a ns _ _ hS => ⟨a, ns, rfl, hS, fun _ => rfl⟩, fun base _ _ => NPK.run_law T F⟩
