import PyProof.Rows.All
import Wide.All
import OpenK.AllK
import Wide.FinOn
import HandS.ForMost
import HandS.Wide
import HandS.IsInst
import HandS.Walk
import HandS.Codes
import PySem.Challenge.RW_chiefway_k78_whole_shortened_in_any_orde
set_option Elab.async false
set_option linter.all false
set_option maxRecDepth 100000
set_option maxHeartbeats 4000000
/-! K78, the mathematics: rows, the shortening as a stack with flags, one deed at a time. No program in sight. -/
namespace K78
open PySem

inductive Rest where | take | keep | count | reckon
  deriving DecidableEq

inductive Row where
  | push (n : Int)
  | turn (a b : Int)
  | jump (u : Bool) (t : Int)
  | round (i t : Int)
  | rest (w : Rest) (ds : List PyData)

namespace Row
def isTurn : Row → Bool
  | .turn _ _ => true
  | _ => false
def turny : Row → Bool
  | .push _ => true
  | .turn _ _ => true
  | _ => false
def idle : Row → Bool
  | .turn a b => a == 1 && b == 0
  | _ => false
def goal? : Row → Option Int
  | .jump _ t => some t
  | .round _ t => some t
  | _ => none
/-- where a row leads to, told anew -/
def re (f : Int → Int) : Row → Row
  | .jump u t => .jump u (f t)
  | .round i t => .round i (f t)
  | r => r
/-- its numbers are on the wheel -/
def on (M : Int) : Row → Prop
  | .push n => 0 ≤ n ∧ n < M
  | .turn a b => (0 ≤ a ∧ a < M) ∧ 0 ≤ b ∧ b < M
  | _ => True
theorem re_isTurn (f : Int → Int) : ∀ r : Row, (re f r).isTurn = r.isTurn := by intro r; cases r <;> rfl
theorem re_turny (f : Int → Int) : ∀ r : Row, (re f r).turny = r.turny := by intro r; cases r <;> rfl
theorem re_idle (f : Int → Int) : ∀ r : Row, (re f r).idle = r.idle := by intro r; cases r <;> rfl
theorem re_on (f : Int → Int) {M : Int} : ∀ r : Row, (re f r).on M ↔ r.on M := by intro r; cases r <;> exact Iff.rfl
theorem re_re (f g : Int → Int) : ∀ r : Row, re f (re g r) = re (fun t => f (g t)) r := by intro r; cases r <;> rfl
theorem re_goal (f : Int → Int) : ∀ r : Row, (re f r).goal? = r.goal?.map f := by intro r; cases r <;> rfl
theorem re_congr {f g : Int → Int} : ∀ r : Row, (∀ t, r.goal? = some t → f t = g t) → re f r = re g r := by
  intro r h
  cases r with
  | jump u t => show Row.jump u (f t) = Row.jump u (g t); rw [h t rfl]
  | round i t => show Row.round i (f t) = Row.round i (g t); rw [h t rfl]
  | _ => rfl
theorem re_id : ∀ r : Row, re (fun t => t) r = r := by intro r; cases r <;> rfl
theorem turny_of_turn {r : Row} (h : r.isTurn = true) : r.turny = true := by
  cases r with
  | turn a b => rfl
  | _ => cases h
theorem turn_of_idle {r : Row} (h : r.idle = true) : r.isTurn = true := by
  cases r with
  | turn a b => rfl
  | _ => cases h
theorem idle_eq {r : Row} (h : r.idle = true) : r = .turn 1 0 := by
  cases r with
  | turn a b =>
    have h' : (a == 1 && b == 0) = true := h
    rw [Bool.and_eq_true, beq_iff_eq, beq_iff_eq] at h'
    rw [h'.1, h'.2]
  | _ => cases h
end Row
open Row

def goals (rs : List Row) : List Int := rs.filterMap Row.goal?
/-- a push or a turn, and the turn behind it, as one row -/
def joined (M : Int) : Row → Row → Row
  | .push n, .turn a b => .push ((a * n + b) % M)
  | .turn c d, .turn a b => .turn (a * c % M) ((a * d + b) % M)
  | l, _ => l
theorem joined_re (M : Int) (f : Int → Int) (l r : Row) (hl : l.turny = true) : joined M (re f l) (re f r) = re f (joined M l r) := by
  cases l <;> first | (cases r <;> rfl) | cases hl
theorem joined_turny {M : Int} {l r : Row} (hl : l.turny = true) : (joined M l r).turny = true := by
  cases l <;> first | (cases r <;> rfl) | cases hl
theorem joined_isTurn {M : Int} {l r : Row} (hl : l.turny = true) : (joined M l r).isTurn = l.isTurn := by
  cases l <;> first | (cases r <;> rfl) | cases hl
theorem joined_on {M : Int} (hM : 1 < M) {l r : Row} (hl : l.on M) : (joined M l r).on M := by
  have h0 : ∀ x : Int, 0 ≤ x % M := fun x => Int.emod_nonneg _ (by omega)
  have h1 : ∀ x : Int, x % M < M := fun x => Int.emod_lt_of_pos _ (by omega)
  cases l with
  | push n =>
    cases r with
    | turn a b => exact ⟨h0 _, h1 _⟩
    | _ => exact hl
  | turn c d =>
    cases r with
    | turn a b => exact ⟨⟨h0 _, h1 _⟩, h0 _, h1 _⟩
    | _ => exact hl
  | _ => exact hl
/-- an idle turn put to a row leaves it -/
theorem joined_idle {M : Int} {l r : Row} (hl : l.on M) (hr : r.idle = true) : joined M l r = l := by
  rw [idle_eq hr]
  cases l with
  | push n =>
    show Row.push ((1 * n + 0) % M) = _
    rw [Int.one_mul, Int.add_zero, Int.emod_eq_of_lt hl.1 hl.2]
  | turn c d =>
    show Row.turn (1 * c % M) ((1 * d + 0) % M) = _
    rw [Int.one_mul, Int.one_mul, Int.add_zero, Int.emod_eq_of_lt hl.1.1 hl.1.2, Int.emod_eq_of_lt hl.2.1 hl.2.2]
  | _ => rfl
/-- a turn put to an idle one is that turn -/
theorem idle_joined {M : Int} {l r : Row} (hr : r.on M) (hl : l.idle = true) (ht : r.isTurn = true) : joined M l r = r := by
  rw [idle_eq hl]
  cases r with
  | turn a b =>
    show Row.turn (a * 1 % M) ((a * 0 + b) % M) = _
    rw [Int.mul_one, Int.mul_zero, Int.zero_add, Int.emod_eq_of_lt hr.1.1 hr.1.2, Int.emod_eq_of_lt hr.2.1 hr.2.2]
  | _ => cases ht
theorem mod_in (M a x b : Int) : (a * (x % M) + b) % M = (a * x + b) % M := by
  have h1 : (a * (x % M)) % M = (a * x) % M := by rw [Int.mul_emod, Int.emod_emod_of_dvd _ (Int.dvd_refl M), ← Int.mul_emod]
  rw [Int.add_emod, h1, ← Int.add_emod]
theorem mod_mul (M a x : Int) : a * (x % M) % M = a * x % M := by
  rw [Int.mul_emod, Int.emod_emod_of_dvd _ (Int.dvd_refl M), ← Int.mul_emod]
theorem mod_mul' (M a x : Int) : a % M * x % M = a * x % M := by
  rw [Int.mul_comm, mod_mul, Int.mul_comm]
theorem mod_add (M u v b : Int) : (u % M * v + b) % M = (u * v + b) % M := by
  rw [Int.add_emod, mod_mul', ← Int.add_emod]
/-- put together from the left or from the right -/
theorem joined_assoc {M : Int} {l r t : Row} (hl : l.turny = true) (hr : r.isTurn = true) (ht : t.isTurn = true) : joined M (joined M l r) t = joined M l (joined M r t) := by
  cases r with
  | turn a b =>
    cases t with
    | turn p q =>
      cases l with
      | push n =>
        show Row.push ((p * ((a * n + b) % M) + q) % M) = Row.push ((p * a % M * n + (p * b + q) % M) % M)
        have e : (p * a % M * n + (p * b + q) % M) % M = (p * a * n + (p * b + q)) % M := by
          rw [Int.add_emod, mod_mul', Int.emod_emod_of_dvd _ (Int.dvd_refl M), ← Int.add_emod]
        have e2 : p * (a * n + b) + q = p * a * n + (p * b + q) := by rw [Int.mul_add, Int.mul_assoc, Int.add_assoc]
        rw [mod_in, e, e2]
      | turn c d =>
        show Row.turn (p * (a * c % M) % M) ((p * ((a * d + b) % M) + q) % M) = Row.turn (p * a % M * c % M) ((p * a % M * d + (p * b + q) % M) % M)
        have e : (p * a % M * d + (p * b + q) % M) % M = (p * a * d + (p * b + q)) % M := by
          rw [Int.add_emod, mod_mul', Int.emod_emod_of_dvd _ (Int.dvd_refl M), ← Int.add_emod]
        have e2 : p * (a * d + b) + q = p * a * d + (p * b + q) := by rw [Int.mul_add, Int.mul_assoc, Int.add_assoc]
        rw [mod_in, e, e2, mod_mul, mod_mul']
        simp only [Int.mul_assoc]
      | _ => cases hl
    | _ => cases ht
  | _ => cases hr

/-! ### the stack -/
structure St where
  stk : List (Bool × Row)
  bar : Bool

def topTurny : List (Bool × Row) → Bool
  | (_, r) :: _ => r.turny
  | [] => false
def put (b : Bool) (s : List (Bool × Row)) (r : Row) : St := if r.idle = true then ⟨s, b⟩ else ⟨(b, r) :: s, false⟩
def lay (M : Int) (b : Bool) (r : Row) : List (Bool × Row) → St
  | (g, l) :: more => if b = false ∧ l.turny = true then put g more (joined M l r) else put b ((g, l) :: more) r
  | [] => put b [] r
def stp (M : Int) (s : St) (f : Bool) (r : Row) : St :=
  if r.isTurn = true then lay M (s.bar || f) r s.stk else ⟨(s.bar || f, r) :: s.stk, false⟩

theorem lay_cons (M : Int) (b : Bool) (r : Row) (g : Bool) (l : Row) (more : List (Bool × Row)) : lay M b r ((g, l) :: more) = if b = false ∧ l.turny = true then put g more (joined M l r) else put b ((g, l) :: more) r := rfl

def Good (M : Int) : List (Bool × Row) → Prop
  | [] => True
  | (f, r) :: more => r.on M ∧ r.idle = false ∧ (r.isTurn = true → f = false → topTurny more = false) ∧ Good M more

theorem good_put {M : Int} {b : Bool} {s : List (Bool × Row)} {r : Row} (hs : Good M s) (hr : r.on M) (h : r.isTurn = true → b = false → topTurny s = false) : Good M (put b s r).stk := by
  unfold put
  split
  · exact hs
  · rename_i hi
    exact ⟨hr, Bool.eq_false_iff.mpr hi, h, hs⟩
theorem good_stp {M : Int} (hM : 1 < M) {s : St} {f : Bool} {r : Row} (hs : Good M s.stk) (hr : r.on M) : Good M (stp M s f r).stk := by
  unfold stp
  split
  · rename_i ht
    obtain ⟨stk, bar⟩ := s
    cases stk with
    | nil => exact good_put hs hr fun _ _ => rfl
    | cons p more =>
      obtain ⟨g, l⟩ := p
      rw [lay_cons]
      split
      · rename_i hc
        exact good_put hs.2.2.2 (joined_on hM hs.1) fun h1 h2 => hs.2.2.1 (by rw [joined_isTurn hc.2] at h1; exact h1) h2
      · rename_i hc
        refine good_put hs hr fun h1 h2 => ?_
        show l.turny = false
        cases e : l.turny with
        | false => rfl
        | true => exact absurd ⟨h2, e⟩ hc
  · rename_i ht
    refine ⟨hr, ?_, fun h => absurd h ht, hs⟩
    cases e : r.idle with
    | false => rfl
    | true => exact absurd (turn_of_idle e) ht

/-- an idle turn leaves nothing but its flag -/
theorem stp_idle {M : Int} {s : St} {f : Bool} {r : Row} (hs : Good M s.stk) (hr : r.idle = true) : stp M s f r = ⟨s.stk, s.bar || f⟩ := by
  unfold stp
  rw [if_pos (turn_of_idle hr)]
  obtain ⟨stk, bar⟩ := s
  cases stk with
  | nil =>
    show put (bar || f) [] r = _
    unfold put
    rw [if_pos hr]
  | cons p more =>
    obtain ⟨g, l⟩ := p
    show lay M (bar || f) r ((g, l) :: more) = ⟨(g, l) :: more, bar || f⟩
    rw [lay_cons]
    split
    · rename_i hc
      rw [joined_idle hs.1 hr, hc.1]
      unfold put
      rw [if_neg (by rw [hs.2.1]; exact Bool.false_ne_true)]
    · unfold put
      rw [if_pos hr]
/-- the flag handed on to the row behind -/
theorem stp_flag (M : Int) (l : List (Bool × Row)) (b f g : Bool) (r : Row) : stp M ⟨l, b || f⟩ g r = stp M ⟨l, b⟩ (f || g) r := by
  unfold stp
  show (if r.isTurn = true then lay M (b || f || g) r l else _) = if r.isTurn = true then lay M (b || (f || g)) r l else _
  rw [Bool.or_assoc]
theorem lay_put {M : Int} {g : Bool} {s : List (Bool × Row)} {l t : Row} (hl : l.on M) (ht : t.on M) (htt : t.isTurn = true) (hty : l.turny = true) (hs : l.idle = true → g = false → topTurny s = false) :
    lay M (put g s l).bar t (put g s l).stk = put g s (joined M l t) := by
  by_cases hi : l.idle = true
  · have e : put g s l = ⟨s, g⟩ := by unfold put; rw [if_pos hi]
    rw [e, idle_joined ht hi htt]
    show lay M g t s = put g s t
    cases s with
    | nil => rfl
    | cons p more =>
      obtain ⟨h, q⟩ := p
      rw [lay_cons]
      split
      · rename_i hc
        have z := hs hi hc.1
        have z' : q.turny = false := z
        rw [z'] at hc
        exact absurd hc.2 Bool.false_ne_true
      · rfl
  · have e : put g s l = ⟨(g, l) :: s, false⟩ := by unfold put; rw [if_neg hi]
    rw [e]
    show lay M false t ((g, l) :: s) = _
    rw [lay_cons, if_pos ⟨rfl, hty⟩]
/-- two rows one behind the other, or put together ahead -/
theorem stp_join {M : Int} (hM : 1 < M) {s : St} {f : Bool} {l t : Row} (hs : Good M s.stk) (hl : l.on M) (ht : t.on M) (hty : l.turny = true) (htt : t.isTurn = true) :
    stp M (stp M s f l) false t = stp M s f (joined M l t) := by
  obtain ⟨stk, bar⟩ := s
  have step : ∀ u : St, stp M u false t = lay M u.bar t u.stk := fun u => by
    unfold stp
    rw [if_pos htt, Bool.or_false]
  rw [step]
  by_cases hlt : l.isTurn = true
  · have hjt : (joined M l t).isTurn = true := by rw [joined_isTurn hty]; exact hlt
    have e1 : stp M ⟨stk, bar⟩ f l = lay M (bar || f) l stk := by unfold stp; rw [if_pos hlt]
    have e2 : stp M ⟨stk, bar⟩ f (joined M l t) = lay M (bar || f) (joined M l t) stk := by unfold stp; rw [if_pos hjt]
    rw [e1, e2]
    cases stk with
    | nil => exact lay_put hl ht htt hty fun _ _ => rfl
    | cons p more =>
      obtain ⟨g, q⟩ := p
      by_cases hc : (bar || f) = false ∧ q.turny = true
      · have a1 : lay M (bar || f) l ((g, q) :: more) = put g more (joined M q l) := by rw [lay_cons, if_pos hc]
        have a2 : lay M (bar || f) (joined M l t) ((g, q) :: more) = put g more (joined M q (joined M l t)) := by rw [lay_cons, if_pos hc]
        rw [a1, a2, ← joined_assoc hc.2 hlt htt]
        refine lay_put (joined_on hM hs.1) ht htt (joined_turny hc.2) fun hi hg => ?_
        have z := turn_of_idle hi
        rw [joined_isTurn hc.2] at z
        exact hs.2.2.1 z hg
      · have a1 : lay M (bar || f) l ((g, q) :: more) = put (bar || f) ((g, q) :: more) l := by rw [lay_cons, if_neg hc]
        have a2 : lay M (bar || f) (joined M l t) ((g, q) :: more) = put (bar || f) ((g, q) :: more) (joined M l t) := by rw [lay_cons, if_neg hc]
        rw [a1, a2]
        refine lay_put hl ht htt hty fun _ hb => ?_
        show q.turny = false
        cases e : q.turny with
        | false => rfl
        | true => exact absurd ⟨hb, e⟩ hc
  · have hjt : ¬ (joined M l t).isTurn = true := by rw [joined_isTurn hty]; exact hlt
    have e1 : stp M ⟨stk, bar⟩ f l = ⟨(bar || f, l) :: stk, false⟩ := by unfold stp; rw [if_neg hlt]
    have e2 : stp M ⟨stk, bar⟩ f (joined M l t) = ⟨(bar || f, joined M l t) :: stk, false⟩ := by unfold stp; rw [if_neg hjt]
    rw [e1, e2]
    show lay M false t ((bar || f, l) :: stk) = _
    rw [lay_cons, if_pos ⟨rfl, hty⟩]
    unfold put
    rw [if_neg fun z => hjt (turn_of_idle z)]

/-! ### a run over rows, the flags by places -/
def run (M : Int) (g : Nat → Bool) (i : Nat) (s : St) : List Row → St
  | [] => s
  | r :: rs => run M g (i + 1) (stp M s (g i) r) rs
theorem run_append (M : Int) (g : Nat → Bool) : ∀ (a b : List Row) (i : Nat) (s : St), run M g i s (a ++ b) = run M g (i + a.length) (run M g i s a) b
  | [], b, i, s => rfl
  | r :: a, b, i, s => by
    show run M g (i + 1) (stp M s (g i) r) (a ++ b) = run M g (i + (a.length + 1)) (run M g (i + 1) (stp M s (g i) r) a) b
    rw [run_append M g a b (i + 1) _, Nat.add_assoc, Nat.add_comm 1 a.length]
theorem run_snoc (M : Int) (g : Nat → Bool) (a : List Row) (r : Row) (s : St) : run M g 0 s (a ++ [r]) = stp M (run M g 0 s a) (g a.length) r := by
  rw [run_append, Nat.zero_add]
  rfl
theorem run_congr {M : Int} {g h : Nat → Bool} : ∀ (a : List Row) (i : Nat) (s : St), (∀ j, i ≤ j → j < i + a.length → g j = h j) → run M g i s a = run M h i s a
  | [], _, _, _ => rfl
  | r :: a, i, s, e => by
    show run M g (i + 1) (stp M s (g i) r) a = run M h (i + 1) (stp M s (h i) r) a
    rw [e i (Nat.le_refl _) (by simp)]
    exact run_congr a (i + 1) _ fun j h1 h2 => e j (by omega) (by simp only [List.length_cons]; omega)
theorem run_shift {M : Int} {g h : Nat → Bool} : ∀ (a : List Row) (i : Nat) (s : St), (∀ j, i ≤ j → g (j + 1) = h j) → run M g (i + 1) s a = run M h i s a
  | [], _, _, _ => rfl
  | r :: a, i, s, e => by
    show run M g (i + 1 + 1) (stp M s (g (i + 1)) r) a = run M h (i + 1) (stp M s (h i) r) a
    rw [e i (Nat.le_refl _)]
    exact run_shift a (i + 1) _ fun j h1 => e j (by omega)
theorem good_run {M : Int} (hM : 1 < M) {g : Nat → Bool} : ∀ (a : List Row) (i : Nat) (s : St), Good M s.stk → (∀ r, r ∈ a → r.on M) → Good M (run M g i s a).stk
  | [], _, _, h, _ => h
  | r :: a, i, s, h, ha => good_run hM a (i + 1) _ (good_stp hM h (ha r List.mem_cons_self)) fun x hx => ha x (List.mem_cons_of_mem _ hx)

/-- what a row leads to doesn't matter to the stack -/
def mapS (f : Int → Int) (l : List (Bool × Row)) : List (Bool × Row) := l.map fun p => (p.1, re f p.2)
def St.map (f : Int → Int) (s : St) : St := ⟨mapS f s.stk, s.bar⟩
theorem put_map (f : Int → Int) (b : Bool) (s : List (Bool × Row)) (r : Row) : put b (mapS f s) (re f r) = (put b s r).map f := by
  unfold put
  rw [re_idle]
  split <;> rfl
theorem stp_map (M : Int) (f : Int → Int) (s : St) (g : Bool) (r : Row) : stp M (s.map f) g (re f r) = (stp M s g r).map f := by
  obtain ⟨stk, bar⟩ := s
  unfold stp
  rw [re_isTurn]
  split
  · show lay M (bar || g) (re f r) (mapS f stk) = (lay M (bar || g) r stk).map f
    cases stk with
    | nil => exact put_map f _ [] r
    | cons p more =>
      obtain ⟨h, l⟩ := p
      show lay M (bar || g) (re f r) ((h, re f l) :: mapS f more) = (lay M (bar || g) r ((h, l) :: more)).map f
      rw [lay_cons, lay_cons, re_turny]
      split
      · rename_i hc
        rw [joined_re M f l r hc.2]
        exact put_map f h more _
      · exact put_map f (bar || g) ((h, l) :: more) r
  · rfl
theorem run_map (M : Int) (g : Nat → Bool) (f : Int → Int) : ∀ (a : List Row) (i : Nat) (s : St), run M g i (s.map f) (a.map (re f)) = (run M g i s a).map f
  | [], _, _ => rfl
  | r :: a, i, s => by
    show run M g (i + 1) (stp M (s.map f) (g i) (re f r)) (a.map (re f)) = _
    rw [stp_map]
    exact run_map M g f a (i + 1) _
/-- nothing leads elsewhere on the stack than in the rows -/
theorem put_goal {b : Bool} {s : List (Bool × Row)} {r : Row} {p : Bool × Row} (h : p ∈ (put b s r).stk) : p ∈ s ∨ p.2 = r := by
  unfold put at h
  split at h
  · exact .inl h
  · rcases List.mem_cons.mp h with e | e
    · exact .inr (by rw [e])
    · exact .inl e
theorem stp_goal {M : Int} {s : St} {f : Bool} {r : Row} {p : Bool × Row} (h : p ∈ (stp M s f r).stk) {t : Int} (ht : p.2.goal? = some t) : p ∈ s.stk ∨ r.goal? = some t := by
  obtain ⟨stk, bar⟩ := s
  unfold stp at h
  split at h
  · cases stk with
    | nil =>
      rcases put_goal h with e | e
      · exact .inl e
      · exact .inr (by rw [← e]; exact ht)
    | cons q more =>
      obtain ⟨g, l⟩ := q
      change p ∈ (lay M (bar || f) r ((g, l) :: more)).stk at h
      rw [lay_cons] at h
      split at h
      · rename_i hc
        rcases put_goal h with e | e
        · exact .inl (List.mem_cons_of_mem _ e)
        · rw [e] at ht
          have z : (joined M l r).turny = true := joined_turny hc.2
          exfalso
          cases hj : joined M l r <;> rw [hj] at z ht <;> first | (simp [Row.turny] at z; done) | (simp [Row.goal?] at ht; done)
      · rcases put_goal h with e | e
        · exact .inl e
        · exact .inr (by rw [← e]; exact ht)
  · rcases List.mem_cons.mp h with e | e
    · exact .inr (by rw [e] at ht; exact ht)
    · exact .inl e
theorem run_goal {M : Int} {g : Nat → Bool} {p : Bool × Row} {t : Int} (ht : p.2.goal? = some t) : ∀ (a : List Row) (i : Nat) (s : St), p ∈ (run M g i s a).stk → p ∈ s.stk ∨ t ∈ goals a
  | [], _, _, h => .inl h
  | r :: a, i, s, h => by
    have sub : ∀ x, x ∈ goals a → x ∈ goals (r :: a) := fun x hx => by
      obtain ⟨q, hq, e⟩ := List.mem_filterMap.mp hx
      exact List.mem_filterMap.mpr ⟨q, List.mem_cons_of_mem _ hq, e⟩
    rcases run_goal ht a (i + 1) _ h with e | e
    · rcases stp_goal e ht with e | e
      · exact .inl e
      · exact .inr (List.mem_filterMap.mpr ⟨r, List.mem_cons_self, e⟩)
    · exact .inr (sub t e)

/-! ### shorter -/
def flag (gs : List Int) (i : Nat) : Bool := decide ((i : Int) ∈ gs)
def s0 : St := ⟨[], false⟩
/-- the new place of the row that was at place t -/
def place (M : Int) (rs : List Row) (t : Nat) : Nat := (run M (flag (goals rs)) 0 s0 (rs.take t)).stk.length
def outs (s : St) : List Row := s.stk.reverse.map Prod.snd
def sh (M : Int) (rs : List Row) : List Row := (outs (run M (flag (goals rs)) 0 s0 rs)).map (re fun t => ((place M rs t.toNat : Nat) : Int))

/-! ### one deed -/
def led (k : Nat) (t : Int) : Int := if (k : Int) < t then t - 1 else t
def spotsAt (gs : List Int) (rs : List Row) (k : Nat) : List (Nat × Bool) :=
  (match rs[k]? with | some r => if r.idle = true then [(k, false)] else [] | none => []) ++
  (match rs[k]? with | some r => (if r.isTurn = true ∧ 0 < k ∧ ((k : Int) ∉ gs) ∧ ((rs[k - 1]?.map Row.turny) = some true) then [(k, true)] else []) | none => [])
def spots (rs : List Row) : List (Nat × Bool) := (List.range rs.length).flatMap (spotsAt (goals rs) rs)
structure WF (M : Int) (rs : List Row) : Prop where
  on : ∀ r, r ∈ rs → r.on M
  gl : ∀ t, t ∈ goals rs → 0 ≤ t ∧ t ≤ (rs.length : Int)

theorem goals_append (a b : List Row) : goals (a ++ b) = goals a ++ goals b := List.filterMap_append
theorem goals_turny {r : Row} (h : r.turny = true) (b : List Row) : goals (r :: b) = goals b := by
  cases r <;> first | rfl | cases h
theorem goals_re (f : Int → Int) : ∀ a : List Row, goals (a.map (re f)) = (goals a).map f
  | [] => rfl
  | r :: a => by
    have ih := goals_re f a
    unfold goals at ih ⊢
    rw [List.map_cons, List.filterMap_cons, List.filterMap_cons, re_goal, ih]
    cases r.goal? <;> rfl

theorem flag_lt {gs : List Int} {k i : Nat} (h : i < k) : flag (gs.map (led k)) i = flag gs i := by
  unfold flag
  congr 1
  apply propext
  constructor
  · intro z
    obtain ⟨t, ht, e⟩ := List.mem_map.mp z
    unfold led at e
    split at e
    · omega
    · rw [← e]; exact ht
  · intro z
    refine List.mem_map.mpr ⟨_, z, ?_⟩
    unfold led
    rw [if_neg (by omega)]
theorem flag_at {gs : List Int} {k : Nat} : flag (gs.map (led k)) k = (flag gs k || flag gs (k + 1)) := by
  unfold flag
  rw [← Bool.decide_or]
  congr 1
  apply propext
  constructor
  · intro z
    obtain ⟨t, ht, e⟩ := List.mem_map.mp z
    unfold led at e
    split at e
    · right
      have e2 : ((k + 1 : Nat) : Int) = t := by omega
      rw [e2]; exact ht
    · left; rw [← e]; exact ht
  · intro z
    rcases z with z | z
    · refine List.mem_map.mpr ⟨_, z, ?_⟩
      unfold led
      rw [if_neg (by omega)]
    · refine List.mem_map.mpr ⟨_, z, ?_⟩
      unfold led
      rw [if_pos (by omega)]
      omega
theorem flag_gt {gs : List Int} {k i : Nat} (h : k < i) : flag (gs.map (led k)) i = flag gs (i + 1) := by
  unfold flag
  congr 1
  apply propext
  constructor
  · intro z
    obtain ⟨t, ht, e⟩ := List.mem_map.mp z
    unfold led at e
    split at e
    · have e2 : ((i + 1 : Nat) : Int) = t := by omega
      rw [e2]; exact ht
    · omega
  · intro z
    refine List.mem_map.mpr ⟨_, z, ?_⟩
    unfold led
    rw [if_pos (by omega)]
    omega

theorem good_s0 {M : Int} : Good M s0.stk := True.intro
theorem run_cut0 {M : Int} (hM : 1 < M) (gs : List Int) {pre post : List Row} {r : Row} (hp : ∀ x, x ∈ pre → x.on M) (hr : r.idle = true) :
    (run M (flag (gs.map (led pre.length))) 0 s0 (pre ++ post)).stk = (run M (flag gs) 0 s0 (pre ++ r :: post)).stk := by
  rw [run_append, run_append, Nat.zero_add, run_congr (g := flag (gs.map (led pre.length))) (h := flag gs) pre 0 s0 fun j _ h2 => flag_lt (by omega)]
  have hg := good_run hM (g := flag gs) pre 0 s0 good_s0 hp
  generalize hs : run M (flag gs) 0 s0 pre = s at hg
  show _ = (run M (flag gs) (pre.length + 1) (stp M s (flag gs pre.length) r) post).stk
  rw [stp_idle hg hr]
  cases post with
  | nil => rfl
  | cons x xs =>
    show (run M (flag (gs.map (led pre.length))) (pre.length + 1) (stp M s (flag (gs.map (led pre.length)) pre.length) x) xs).stk =
      (run M (flag gs) (pre.length + 1 + 1) (stp M ⟨s.stk, s.bar || flag gs pre.length⟩ (flag gs (pre.length + 1)) x) xs).stk
    rw [stp_flag, flag_at, run_shift (g := flag gs) (h := flag (gs.map (led pre.length))) xs (pre.length + 1) _ fun j h => (flag_gt (by omega)).symm]
theorem run_cut1 {M : Int} (hM : 1 < M) (gs : List Int) {pre post : List Row} {l t : Row} (hp : ∀ x, x ∈ pre → x.on M) (hl : l.on M) (ht : t.on M) (hty : l.turny = true) (htt : t.isTurn = true) (hn : flag gs (pre.length + 1) = false) :
    run M (flag (gs.map (led (pre.length + 1)))) 0 s0 (pre ++ joined M l t :: post) = run M (flag gs) 0 s0 (pre ++ l :: t :: post) := by
  rw [run_append, run_append, Nat.zero_add, run_congr (g := flag (gs.map (led (pre.length + 1)))) (h := flag gs) pre 0 s0 fun j _ h2 => flag_lt (by omega)]
  have hg := good_run hM (g := flag gs) pre 0 s0 good_s0 hp
  generalize hs : run M (flag gs) 0 s0 pre = s at hg
  show run M (flag (gs.map (led (pre.length + 1)))) (pre.length + 1) (stp M s (flag (gs.map (led (pre.length + 1))) pre.length) (joined M l t)) post =
    run M (flag gs) (pre.length + 1 + 1) (stp M (stp M s (flag gs pre.length) l) (flag gs (pre.length + 1)) t) post
  rw [hn, stp_join hM hg hl ht hty htt, flag_lt (by omega)]
  refine (run_shift (g := flag gs) (h := flag (gs.map (led (pre.length + 1)))) post (pre.length + 1) _ fun j h => ?_).symm
  by_cases e : j = pre.length + 1
  · subst e
    rw [flag_at, hn, Bool.false_or]
  · exact (flag_gt (by omega)).symm

/-- sh of rows led on -/
theorem outs_map (f : Int → Int) (s : St) : outs (s.map f) = (outs s).map (re f) := by
  unfold outs St.map mapS
  rw [← List.map_reverse, List.map_map, List.map_map]
  rfl
theorem s0_map (f : Int → Int) : s0.map f = s0 := rfl
theorem mapS_length (f : Int → Int) (l : List (Bool × Row)) : (mapS f l).length = l.length := List.length_map _
theorem place_re {M : Int} (f : Int → Int) (rs : List Row) (n : Nat) : place M (rs.map (re f)) n = (run M (flag ((goals rs).map f)) 0 s0 (rs.take n)).stk.length := by
  unfold place
  rw [goals_re, ← List.map_take]
  have e := run_map M (flag ((goals rs).map f)) f (rs.take n) 0 s0
  rw [s0_map] at e
  rw [e]
  exact mapS_length f _
theorem sh_re {M : Int} {f : Int → Int} {rs xs : List Row} (hx : goals xs = goals rs) (ho : (run M (flag ((goals rs).map f)) 0 s0 xs).stk = (run M (flag (goals rs)) 0 s0 rs).stk)
    (hp : ∀ t, t ∈ goals rs → (run M (flag ((goals rs).map f)) 0 s0 (xs.take (f t).toNat)).stk.length = (run M (flag (goals rs)) 0 s0 (rs.take t.toNat)).stk.length) : sh M (xs.map (re f)) = sh M rs := by
  unfold sh
  have e := run_map M (flag ((goals rs).map f)) f xs 0 s0
  rw [s0_map] at e
  have eg : goals (xs.map (re f)) = (goals rs).map f := by rw [goals_re, hx]
  have e1 : outs (run M (flag (goals (xs.map (re f)))) 0 s0 (xs.map (re f))) = (outs (run M (flag (goals rs)) 0 s0 rs)).map (re f) := by
    rw [eg, e, outs_map]
    unfold outs
    rw [ho]
  rw [e1, List.map_map]
  refine List.map_congr_left fun r hr => ?_
  show re _ (re f r) = _
  rw [re_re]
  refine re_congr r fun t ht => ?_
  have hm : t ∈ goals rs := by
    obtain ⟨p, hp, e⟩ := List.mem_map.mp hr
    have hp' := List.mem_reverse.mp hp
    rcases run_goal (t := t) (by rw [e]; exact ht) rs 0 s0 hp' with z | z
    · cases z
    · exact z
  have e3 : place M (xs.map (re f)) (f t).toNat = place M rs t.toNat := by
    rw [place_re, hx]
    exact hp t hm
  show ((place M (xs.map (re f)) (f t).toNat : Nat) : Int) = _
  rw [e3]

theorem split_at {rs : List Row} {k : Nat} {r : Row} (h : rs[k]? = some r) : rs = rs.take k ++ r :: rs.drop (k + 1) ∧ (rs.take k).length = k := by
  obtain ⟨hk, e⟩ := List.getElem?_eq_some_iff.mp h
  refine ⟨?_, List.length_take_of_le (by omega)⟩
  rw [← e, ← List.drop_eq_getElem_cons hk, List.take_append_drop]
theorem sh_cut0 {M : Int} (hM : 1 < M) {pre post : List Row} {r : Row} (w : WF M (pre ++ r :: post)) (hr : r.idle = true) :
    sh M ((pre ++ post).map (re (led pre.length))) = sh M (pre ++ r :: post) := by
  have hp : ∀ x, x ∈ pre → x.on M := fun x hx => w.on x (List.mem_append_left _ hx)
  have eg : goals (pre ++ post) = goals (pre ++ r :: post) := by
    rw [goals_append, goals_append, goals_turny (turny_of_turn (turn_of_idle hr))]
  refine sh_re eg (run_cut0 hM _ hp hr) fun t ht => ?_
  have h0 := (w.gl t ht).1
  by_cases h : (pre.length : Int) < t
  · obtain ⟨n, rfl⟩ : ∃ n : Nat, t = ((pre.length + 1 + n : Nat) : Int) := ⟨t.toNat - (pre.length + 1), by omega⟩
    have e1 : (led pre.length ((pre.length + 1 + n : Nat) : Int)).toNat = pre.length + n := by unfold led; rw [if_pos h]; omega
    have e2 : (((pre.length + 1 + n : Nat) : Int)).toNat = pre.length + (n + 1) := by omega
    rw [e1, e2, List.take_length_add_append, List.take_length_add_append, List.take_succ_cons, run_cut0 hM _ hp hr]
  · have e1 : (led pre.length t).toNat = t.toNat := by unfold led; rw [if_neg h]
    have hn : t.toNat ≤ pre.length := by omega
    rw [e1, List.take_append_of_le_length hn, List.take_append_of_le_length hn]
    rw [run_congr (g := flag ((goals (pre ++ r :: post)).map (led pre.length))) (h := flag (goals (pre ++ r :: post))) _ 0 s0 fun j _ h2 => flag_lt (by rw [List.length_take] at h2; omega)]
theorem sh_cut1 {M : Int} (hM : 1 < M) {pre post : List Row} {l t : Row} (w : WF M (pre ++ l :: t :: post)) (hty : l.turny = true) (htt : t.isTurn = true) (hn : ((pre.length + 1 : Nat) : Int) ∉ goals (pre ++ l :: t :: post)) :
    sh M ((pre ++ joined M l t :: post).map (re (led (pre.length + 1)))) = sh M (pre ++ l :: t :: post) := by
  have hp : ∀ x, x ∈ pre → x.on M := fun x hx => w.on x (List.mem_append_left _ hx)
  have hl : l.on M := w.on l (List.mem_append_right _ List.mem_cons_self)
  have ht : t.on M := w.on t (List.mem_append_right _ (List.mem_cons_of_mem _ List.mem_cons_self))
  have hf : flag (goals (pre ++ l :: t :: post)) (pre.length + 1) = false := decide_eq_false hn
  have eg : goals (pre ++ joined M l t :: post) = goals (pre ++ l :: t :: post) := by
    rw [goals_append, goals_append, goals_turny (joined_turny hty), goals_turny hty, goals_turny (turny_of_turn htt)]
  refine sh_re eg (by rw [run_cut1 hM _ hp hl ht hty htt hf]) fun u hu => ?_
  have h0 := (w.gl u hu).1
  have hne : u ≠ ((pre.length + 1 : Nat) : Int) := fun e => hn (by rw [← e]; exact hu)
  by_cases h : ((pre.length + 1 : Nat) : Int) < u
  · obtain ⟨n, rfl⟩ : ∃ n : Nat, u = ((pre.length + 2 + n : Nat) : Int) := ⟨u.toNat - (pre.length + 2), by omega⟩
    have e1 : (led (pre.length + 1) ((pre.length + 2 + n : Nat) : Int)).toNat = pre.length + (n + 1) := by unfold led; rw [if_pos h]; omega
    have e2 : (((pre.length + 2 + n : Nat) : Int)).toNat = pre.length + (n + 1 + 1) := by omega
    rw [e1, e2, List.take_length_add_append, List.take_length_add_append, List.take_succ_cons, List.take_succ_cons, List.take_succ_cons, run_cut1 hM _ hp hl ht hty htt hf]
  · have e1 : (led (pre.length + 1) u).toNat = u.toNat := by unfold led; rw [if_neg h]
    have hn : u.toNat ≤ pre.length := by omega
    rw [e1, List.take_append_of_le_length hn, List.take_append_of_le_length hn]
    rw [run_congr (g := flag ((goals (pre ++ l :: t :: post)).map (led (pre.length + 1)))) (h := flag (goals (pre ++ l :: t :: post))) _ 0 s0 fun j _ h2 => flag_lt (by rw [List.length_take] at h2; omega)]

/-- out is what one deed at the spot (k, j) makes of rs -/
def CutTo (M : Int) (rs : List Row) (k : Nat) (j : Bool) (out : List Row) : Prop :=
  (j = false ∧ ∃ pre r post, rs = pre ++ r :: post ∧ k = pre.length ∧ r.idle = true ∧ out = (pre ++ post).map (re (led k))) ∨
  (j = true ∧ ∃ pre l t post, rs = pre ++ l :: t :: post ∧ k = pre.length + 1 ∧ l.turny = true ∧ t.isTurn = true ∧ (k : Int) ∉ goals rs ∧ out = (pre ++ joined M l t :: post).map (re (led k)))
theorem led_in {k : Nat} {t n : Int} (h0 : 0 ≤ t) (h1 : t ≤ n + 1) (hk : (k : Int) ≤ n) : 0 ≤ led k t ∧ led k t ≤ n := by
  unfold led
  split <;> omega
theorem CutTo.len {M : Int} {rs out : List Row} {k : Nat} {j : Bool} (c : CutTo M rs k j out) : out.length + 1 = rs.length := by
  rcases c with ⟨_, pre, r, post, rfl, _, _, rfl⟩ | ⟨_, pre, l, t, post, rfl, _, _, _, _, rfl⟩
  · simp only [List.length_map, List.length_append, List.length_cons]; omega
  · simp only [List.length_map, List.length_append, List.length_cons]; omega
theorem CutTo.wf {M : Int} (hM : 1 < M) {rs out : List Row} {k : Nat} {j : Bool} (c : CutTo M rs k j out) (w : WF M rs) : WF M out := by
  have hl := c.len
  rcases c with ⟨_, pre, r, post, rfl, rfl, hi, rfl⟩ | ⟨_, pre, l, t, post, rfl, rfl, hty, htt, hn, rfl⟩
  · refine ⟨fun x hx => ?_, fun t ht => ?_⟩
    · obtain ⟨y, hy, rfl⟩ := List.mem_map.mp hx
      refine (re_on _ y).mpr (w.on y ?_)
      rcases List.mem_append.mp hy with z | z
      · exact List.mem_append_left _ z
      · exact List.mem_append_right _ (List.mem_cons_of_mem _ z)
    · rw [goals_re] at ht
      obtain ⟨u, hu, rfl⟩ := List.mem_map.mp ht
      have hu' : u ∈ goals (pre ++ r :: post) := by
        rw [goals_append, goals_turny (turny_of_turn (turn_of_idle hi)), ← goals_append]
        exact hu
      have b := w.gl u hu'
      have e : (pre ++ r :: post).length = pre.length + post.length + 1 := by simp only [List.length_append, List.length_cons]; omega
      refine led_in b.1 (by omega) (by omega)
  · refine ⟨fun x hx => ?_, fun u hu => ?_⟩
    · obtain ⟨y, hy, rfl⟩ := List.mem_map.mp hx
      refine (re_on _ y).mpr ?_
      rcases List.mem_append.mp hy with z | z
      · exact w.on y (List.mem_append_left _ z)
      · rcases List.mem_cons.mp z with z | z
        · rw [z]
          exact joined_on hM (w.on l (List.mem_append_right _ List.mem_cons_self))
        · exact w.on y (List.mem_append_right _ (List.mem_cons_of_mem _ (List.mem_cons_of_mem _ z)))
    · rw [goals_re] at hu
      obtain ⟨v, hv, rfl⟩ := List.mem_map.mp hu
      have hv' : v ∈ goals (pre ++ l :: t :: post) := by
        rw [goals_append, goals_turny hty, goals_turny (turny_of_turn htt)]
        rw [goals_append, goals_turny (joined_turny hty)] at hv
        exact hv
      have b := w.gl v hv'
      have e : (pre ++ l :: t :: post).length = pre.length + post.length + 2 := by simp only [List.length_append, List.length_cons]; omega
      refine led_in b.1 (by omega) (by omega)
/-- ONE DEED changes nothing of what shorter tells -/
theorem CutTo.sh {M : Int} (hM : 1 < M) {rs out : List Row} {k : Nat} {j : Bool} (c : CutTo M rs k j out) (w : WF M rs) : sh M out = sh M rs := by
  rcases c with ⟨_, pre, r, post, rfl, rfl, hi, rfl⟩ | ⟨_, pre, l, t, post, rfl, rfl, hty, htt, hn, rfl⟩
  · exact sh_cut0 hM w hi
  · exact sh_cut1 hM w hty htt hn

theorem mem_spotsAt {gs : List Int} {rs : List Row} {k m : Nat} {j : Bool} (h : (m, j) ∈ spotsAt gs rs k) :
    m = k ∧ ((j = false ∧ ∃ r, rs[k]? = some r ∧ r.idle = true) ∨ (j = true ∧ ∃ l t, rs[k]? = some t ∧ rs[k - 1]? = some l ∧ 0 < k ∧ l.turny = true ∧ t.isTurn = true ∧ (k : Int) ∉ gs)) := by
  unfold spotsAt at h
  rcases List.mem_append.mp h with h | h
  · cases e : rs[k]? with
    | none => rw [e] at h; cases h
    | some r =>
      rw [e] at h
      change (m, j) ∈ (if r.idle = true then [(k, false)] else []) at h
      split at h
      · rename_i hi
        have q := List.mem_singleton.mp h
        injection q with q1 q2
        exact ⟨q1, .inl ⟨q2, r, rfl, hi⟩⟩
      · cases h
  · cases e : rs[k]? with
    | none => rw [e] at h; cases h
    | some t =>
      rw [e] at h
      change (m, j) ∈ (if t.isTurn = true ∧ 0 < k ∧ ((k : Int) ∉ gs) ∧ ((rs[k - 1]?.map Row.turny) = some true) then [(k, true)] else []) at h
      split at h
      · rename_i hc
        have q := List.mem_singleton.mp h
        injection q with q1 q2
        obtain ⟨c1, c2, c3, c4⟩ := hc
        cases el : rs[k - 1]? with
        | none => rw [el] at c4; cases c4
        | some l =>
          rw [el] at c4
          exact ⟨q1, .inr ⟨q2, l, t, rfl, rfl, c2, Option.some.inj c4, c1, c3⟩⟩
      · cases h
theorem spot_cut {M : Int} {rs : List Row} {k : Nat} {j : Bool} (h : (k, j) ∈ spots rs) : ∃ out, CutTo M rs k j out := by
  obtain ⟨m, _, hm⟩ := List.mem_flatMap.mp h
  obtain ⟨rfl, ⟨rfl, r, e, hi⟩ | ⟨rfl, l, t, e, el, hk, hty, htt, hn⟩⟩ := mem_spotsAt hm
  · obtain ⟨s1, s2⟩ := split_at e
    exact ⟨_, .inl ⟨rfl, _, r, _, s1, s2.symm, hi, rfl⟩⟩
  · obtain ⟨s1, s2⟩ := split_at el
    obtain ⟨n, rfl⟩ : ∃ n, k = n + 1 := ⟨k - 1, by omega⟩
    have s1' : rs = rs.take n ++ l :: rs.drop (n + 1) := s1
    have s2' : (rs.take n).length = n := s2
    have e3 : rs.drop (n + 1) = t :: rs.drop (n + 2) := by
      obtain ⟨hk, e'⟩ := List.getElem?_eq_some_iff.mp e
      rw [← e']
      exact List.drop_eq_getElem_cons hk
    rw [e3] at s1'
    exact ⟨_, .inr ⟨rfl, _, l, t, _, s1', by rw [s2'], hty, htt, hn, rfl⟩⟩
/-- where no deed is left, shorter leaves the rows -/
theorem spots_none {rs : List Row} (h : spots rs = []) {k : Nat} {r : Row} (e : rs[k]? = some r) :
    r.idle = false ∧ (r.isTurn = true → ∀ l, 0 < k → rs[k - 1]? = some l → (k : Int) ∉ goals rs → l.turny = false) := by
  have hk : k < rs.length := (List.getElem?_eq_some_iff.mp e).1
  have hn : ∀ x, x ∉ spotsAt (goals rs) rs k := fun x hx => by
    have z : x ∈ spots rs := List.mem_flatMap.mpr ⟨k, List.mem_range.mpr hk, hx⟩
    rw [h] at z
    cases z
  refine ⟨?_, fun ht l h0 el hg => ?_⟩
  · cases hi : r.idle with
    | false => rfl
    | true =>
      refine absurd (List.mem_append_left _ ?_) (hn (k, false))
      rw [e]
      show (k, false) ∈ (if r.idle = true then [(k, false)] else [])
      rw [if_pos hi]
      exact List.mem_singleton.mpr rfl
  · cases hi : l.turny with
    | false => rfl
    | true =>
      refine absurd (List.mem_append_right _ ?_) (hn (k, true))
      rw [e]
      show (k, true) ∈ (if r.isTurn = true ∧ 0 < k ∧ ((k : Int) ∉ goals rs) ∧ ((rs[k - 1]?.map Row.turny) = some true) then [(k, true)] else [])
      rw [if_pos ⟨ht, h0, hg, by rw [el]; exact congrArg some hi⟩]
      exact List.mem_singleton.mpr rfl
theorem put_not {b : Bool} {s : List (Bool × Row)} {r : Row} (h : r.idle = false) : put b s r = ⟨(b, r) :: s, false⟩ := by
  unfold put
  rw [if_neg (by rw [h]; exact Bool.false_ne_true)]
theorem run_still {M : Int} {rs : List Row} (h : spots rs = []) : ∀ n, n ≤ rs.length → (run M (flag (goals rs)) 0 s0 (rs.take n)).bar = false ∧ (run M (flag (goals rs)) 0 s0 (rs.take n)).stk.map Prod.snd = (rs.take n).reverse
  | 0, _ => ⟨rfl, rfl⟩
  | n + 1, hn => by
    obtain ⟨i1, i2⟩ := run_still (M := M) h n (by omega)
    have e : rs[n]? = some rs[n] := List.getElem?_eq_getElem (by omega)
    obtain ⟨q1, q2⟩ := spots_none h e
    have hl : (rs.take n).length = n := List.length_take_of_le (by omega)
    have et : rs.take (n + 1) = rs.take n ++ [rs[n]] := by rw [List.take_add_one, e]; rfl
    have key : stp M (run M (flag (goals rs)) 0 s0 (rs.take n)) (flag (goals rs) n) rs[n] = ⟨(flag (goals rs) n, rs[n]) :: (run M (flag (goals rs)) 0 s0 (rs.take n)).stk, false⟩ := by
      generalize run M (flag (goals rs)) 0 s0 (rs.take n) = s at i1 i2
      obtain ⟨stk, bar⟩ := s
      have ib : bar = false := i1
      subst ib
      unfold stp
      rw [Bool.false_or]
      by_cases ht : rs[n].isTurn = true
      · rw [if_pos ht]
        show lay M (flag (goals rs) n) rs[n] stk = ⟨(flag (goals rs) n, rs[n]) :: stk, false⟩
        cases stk with
        | nil => exact put_not q1
        | cons p more =>
          obtain ⟨g, l⟩ := p
          rw [lay_cons]
          rw [if_neg]
          · exact put_not q1
          · rintro ⟨c1, c2⟩
            have i2' : l :: more.map Prod.snd = (rs.take n).reverse := i2
            have hpos : 0 < n := by
              have z := congrArg List.length i2'
              rw [List.length_cons, List.length_reverse, hl] at z
              omega
            have el : rs[n - 1]? = some l := by
              have z : (rs.take n).reverse[0]? = some l := by rw [← i2']; rfl
              rw [List.getElem?_reverse (by omega), hl, List.getElem?_take] at z
              rw [if_pos (by omega)] at z
              have e4 : n - 1 - 0 = n - 1 := by omega
              rw [e4] at z
              exact z
            have z := q2 ht l hpos el (of_decide_eq_false c1)
            rw [z] at c2
            cases c2
      · rw [if_neg ht]
    rw [et, run_snoc, hl, key]
    refine ⟨rfl, ?_⟩
    show rs[n] :: (run M (flag (goals rs)) 0 s0 (rs.take n)).stk.map Prod.snd = _
    rw [i2, List.reverse_append]
    rfl
theorem sh_still {M : Int} {rs : List Row} (w : WF M rs) (h : spots rs = []) : sh M rs = rs := by
  have hp : ∀ n, n ≤ rs.length → place M rs n = n := fun n hn => by
    have z := congrArg List.length (run_still (M := M) h n hn).2
    rw [List.length_map, List.length_reverse, List.length_take_of_le hn] at z
    exact z
  have ho : outs (run M (flag (goals rs)) 0 s0 rs) = rs := by
    have z := (run_still (M := M) h rs.length (Nat.le_refl _)).2
    rw [List.take_length] at z
    unfold outs
    rw [List.map_reverse, z, List.reverse_reverse]
  unfold sh
  rw [ho]
  have e : rs.map (re fun t => ((place M rs t.toNat : Nat) : Int)) = rs.map id := by
    refine List.map_congr_left fun r hr => ?_
    refine (re_congr (g := fun t => t) r fun t ht => ?_).trans (re_id r)
    have b := w.gl t (List.mem_filterMap.mpr ⟨r, hr, ht⟩)
    show ((place M rs t.toNat : Nat) : Int) = t
    rw [hp _ (by omega)]
    omega
  rw [e, List.map_id]
end K78

/-! K78, the data: rows as tuples of the heap. -/
namespace K78
open PySem L2

def top (i : Nat) : Stmt := PySem.Challenge.pw_chiefway_k78_whole_shortened_in_any_orde.main.body.getD i (.Pass ⟨0, 0, 0, 0⟩)
abbrev sOn : Stmt := top 1
abbrev sTurned : Stmt := top 2
abbrev sThen : Stmt := top 3
abbrev sGoalsOf : Stmt := top 5
abbrev sJoined : Stmt := top 6
abbrev sSent : Stmt := top 7
abbrev sShorter : Stmt := top 8
abbrev sAt : Stmt := top 10
abbrev sSize : Stmt := top 11
abbrev sForm : Stmt := top 12
abbrev sRow : Stmt := top 13
abbrev sRows : Stmt := top 14
abbrev sGoals : Stmt := top 15
abbrev sSpots : Stmt := top 16
abbrev sLedOn : Stmt := top 17
abbrev sShortened : Stmt := top 18
abbrev sLaw : Stmt := top 19

/-! ### data of tuples, ints and texts as it stands in the heap -/
mutual
inductive Dt (H : Hp) : V → PyData → Prop
  | int (i : Int) : Dt H (.int i) (.int i)
  | str (x : Str) : Dt H (.str x) (.str x)
  | tup {a : Addr} {xs : List V} {ds : List PyData} : H a = some (.tup xs) → DtAll H xs ds → Dt H (.ref a) (.tuple ds)
inductive DtAll (H : Hp) : List V → List PyData → Prop
  | nil : DtAll H [] []
  | cons {v : V} {vs : List V} {d : PyData} {ds : List PyData} : Dt H v d → DtAll H vs ds → DtAll H (v :: vs) (d :: ds)
end
/-- each tuple stays -/
def TS (H H' : Hp) : Prop := ∀ b xs, H b = some (.tup xs) → H' b = some (.tup xs)
theorem TS.refl (H : Hp) : TS H H := fun _ _ h => h
theorem TS.trans {H H1 H2 : Hp} (a : TS H H1) (b : TS H1 H2) : TS H H2 := fun c xs h => b c xs (a c xs h)
theorem TS.of {H H' : Hp} (s : Same H H') : TS H H' := fun b xs h => s b _ h
theorem TS.lst {H : Hp} {a : Addr} {xs : List V} {o : HO} (h : H a = some (.lst xs)) : TS H (upd H a o) := fun b ys e => by
  rw [upd_ne (ne_of e h (by intro z; cases z))]
  exact e
theorem TS.dK {H : Hp} {a : Addr} {xs : List (Key × V)} {o : HO} (h : H a = some (.dK xs)) : TS H (upd H a o) := fun b ys e => by
  rw [upd_ne (ne_of e h (by intro z; cases z))]
  exact e
theorem same_new {H : Hp} {p : Addr} (h : H p = none) (o : HO) : Same H (upd H p o) := fun b u q => by rw [upd_ne (ne_of_none q h)]; exact q
/-- what is new to H0 may be changed -/
theorem same_upd {H0 H : Hp} {p : Addr} (h : H0 p = none) (s : Same H0 H) (o : HO) : Same H0 (upd H p o) := fun b u q => by rw [upd_ne (ne_of_none q h)]; exact s b u q
mutual
theorem Dt.mono {H H' : Hp} (t : TS H H') : ∀ {v : V} {d : PyData}, Dt H v d → Dt H' v d
  | _, _, .int i => .int i
  | _, _, .str x => .str x
  | _, _, .tup h a => .tup (t _ _ h) (DtAll.mono t a)
theorem DtAll.mono {H H' : Hp} (t : TS H H') : ∀ {vs : List V} {ds : List PyData}, DtAll H vs ds → DtAll H' vs ds
  | _, _, .nil => .nil
  | _, _, .cons h a => .cons (Dt.mono t h) (DtAll.mono t a)
end
mutual
theorem Dt.dp {K : PySem.W.Frag} {H : Hp} : ∀ {v : V} {d : PyData}, Dt H v d → Dp K H v d
  | _, _, .int i => .int i
  | _, _, .str x => .str x
  | _, _, .tup h a => .tup (SqT.of h) (DtAll.dp a)
theorem DtAll.dp {K : PySem.W.Frag} {H : Hp} : ∀ {vs : List V} {ds : List PyData}, DtAll H vs ds → DpAll K H vs ds
  | _, _, .nil => .nil
  | _, _, .cons h a => .cons (Dt.dp h) (DtAll.dp a)
end
theorem DtAll.len {H : Hp} : ∀ {vs : List V} {ds : List PyData}, DtAll H vs ds → vs.length = ds.length
  | _, _, .nil => rfl
  | _, _, .cons _ a => by rw [List.length_cons, List.length_cons, DtAll.len a]
theorem Dt.int_inv {H : Hp} {v : V} {n : Int} (h : Dt H v (.int n)) : v = .int n := by cases h; rfl
theorem Dt.str_inv {H : Hp} {v : V} {x : Str} (h : Dt H v (.str x)) : v = .str x := by cases h; rfl
theorem Dt.tup_inv {H : Hp} {v : V} {ds : List PyData} (h : Dt H v (.tuple ds)) : ∃ a xs, v = .ref a ∧ H a = some (.tup xs) ∧ DtAll H xs ds := by
  cases h with
  | tup h a => exact ⟨_, _, rfl, h, a⟩
theorem DtAll.nil_inv {H : Hp} {vs : List V} (h : DtAll H vs []) : vs = [] := by cases h; rfl
theorem DtAll.cons_inv {H : Hp} {vs : List V} {d : PyData} {ds : List PyData} (h : DtAll H vs (d :: ds)) : ∃ v r, vs = v :: r ∧ Dt H v d ∧ DtAll H r ds := by
  cases h with
  | cons h a => exact ⟨_, _, rfl, h, a⟩
theorem DtAll.ints {H : Hp} : ∀ {vs : List V} {ns : List Int}, DtAll H vs (ns.map .int) → vs = ns.map .int
  | vs, [], h => DtAll.nil_inv h
  | vs, n :: ns, h => by
    obtain ⟨v, r, rfl, h1, h2⟩ := DtAll.cons_inv h
    rw [Dt.int_inv h1, DtAll.ints h2]
    rfl
theorem DtAll.of_ints {H : Hp} : ∀ (ns : List Int), DtAll H (ns.map .int) (ns.map .int)
  | [] => .nil
  | n :: ns => .cons (.int n) (DtAll.of_ints ns)

/-! ### a row -/
def Rest.word : Rest → Str
  | .take => "take"
  | .keep => "keep"
  | .count => "count"
  | .reckon => "reckon"
namespace Row
def word : Row → Str
  | .push _ => "push"
  | .turn _ _ => "turn"
  | .jump true _ => "unless"
  | .jump false _ => "go"
  | .round _ _ => "round"
  | .rest w _ => w.word
def tail : Row → List PyData
  | .push n => [.int n]
  | .turn a b => [.int a, .int b]
  | .jump _ t => [.int t]
  | .round i t => [.int i, .int t]
  | .rest _ ds => ds
def dat (r : Row) : List PyData := .str r.word :: r.tail
def isPush : Row → Bool
  | .push _ => true
  | _ => false
def isUnless : Row → Bool
  | .jump true _ => true
  | _ => false
def isGo : Row → Bool
  | .jump false _ => true
  | _ => false
def isRound : Row → Bool
  | .round _ _ => true
  | _ => false
end Row
theorem word_ne {a b : Str} (h : a ≠ b) : decide (V.str a = V.str b) = false := decide_eq_false fun e => h (by injection e)
theorem word_eq (a : Str) : decide (V.str a = V.str a) = true := decide_eq_true rfl
theorem rest_push : ∀ w : Rest, w.word ≠ "push" := by intro w; cases w <;> decide +kernel
theorem w_push (r : Row) : decide (V.str r.word = V.str "push") = r.isPush := by
  cases r with
  | push n => exact word_eq _
  | turn a b => exact word_ne (show ("turn" : Str) ≠ "push" by decide +kernel)
  | jump u t => cases u <;> first | exact word_ne (show ("unless" : Str) ≠ "push" by decide +kernel) | exact word_ne (show ("go" : Str) ≠ "push" by decide +kernel)
  | round i t => exact word_ne (show ("round" : Str) ≠ "push" by decide +kernel)
  | rest w ds => exact word_ne (rest_push w)
theorem rest_turn : ∀ w : Rest, w.word ≠ "turn" := by intro w; cases w <;> decide +kernel
theorem w_turn (r : Row) : decide (V.str r.word = V.str "turn") = r.isTurn := by
  cases r with
  | push n => exact word_ne (show ("push" : Str) ≠ "turn" by decide +kernel)
  | turn a b => exact word_eq _
  | jump u t => cases u <;> first | exact word_ne (show ("unless" : Str) ≠ "turn" by decide +kernel) | exact word_ne (show ("go" : Str) ≠ "turn" by decide +kernel)
  | round i t => exact word_ne (show ("round" : Str) ≠ "turn" by decide +kernel)
  | rest w ds => exact word_ne (rest_turn w)
theorem rest_unless : ∀ w : Rest, w.word ≠ "unless" := by intro w; cases w <;> decide +kernel
theorem w_unless (r : Row) : decide (V.str r.word = V.str "unless") = r.isUnless := by
  cases r with
  | push n => exact word_ne (show ("push" : Str) ≠ "unless" by decide +kernel)
  | turn a b => exact word_ne (show ("turn" : Str) ≠ "unless" by decide +kernel)
  | jump u t => cases u <;> first | exact word_eq _ | exact word_ne (show ("go" : Str) ≠ "unless" by decide +kernel)
  | round i t => exact word_ne (show ("round" : Str) ≠ "unless" by decide +kernel)
  | rest w ds => exact word_ne (rest_unless w)
theorem rest_go : ∀ w : Rest, w.word ≠ "go" := by intro w; cases w <;> decide +kernel
theorem w_go (r : Row) : decide (V.str r.word = V.str "go") = r.isGo := by
  cases r with
  | push n => exact word_ne (show ("push" : Str) ≠ "go" by decide +kernel)
  | turn a b => exact word_ne (show ("turn" : Str) ≠ "go" by decide +kernel)
  | jump u t => cases u <;> first | exact word_eq _ | exact word_ne (show ("unless" : Str) ≠ "go" by decide +kernel)
  | round i t => exact word_ne (show ("round" : Str) ≠ "go" by decide +kernel)
  | rest w ds => exact word_ne (rest_go w)
theorem rest_round : ∀ w : Rest, w.word ≠ "round" := by intro w; cases w <;> decide +kernel
theorem w_round (r : Row) : decide (V.str r.word = V.str "round") = r.isRound := by
  cases r with
  | push n => exact word_ne (show ("push" : Str) ≠ "round" by decide +kernel)
  | turn a b => exact word_ne (show ("turn" : Str) ≠ "round" by decide +kernel)
  | jump u t => cases u <;> first | exact word_ne (show ("unless" : Str) ≠ "round" by decide +kernel) | exact word_ne (show ("go" : Str) ≠ "round" by decide +kernel)
  | round i t => exact word_eq _
  | rest w ds => exact word_ne (rest_round w)

abbrev RowAt (H : Hp) (v : V) (r : Row) : Prop := Dt H v (.tuple r.dat)
theorem RowAt.inv {H : Hp} {v : V} {r : Row} (h : RowAt H v r) : ∃ a ys, v = .ref a ∧ H a = some (.tup (.str r.word :: ys)) ∧ DtAll H ys r.tail := by
  obtain ⟨a, xs, rfl, h1, h2⟩ := Dt.tup_inv h
  obtain ⟨w, ys, rfl, h3, h4⟩ := DtAll.cons_inv h2
  rw [Dt.str_inv h3] at h1
  exact ⟨a, ys, rfl, h1, h4⟩
theorem RowAt.mk {H : Hp} {a : Addr} {ys : List V} {r : Row} (h : H a = some (.tup (.str r.word :: ys))) (h2 : DtAll H ys r.tail) : RowAt H (.ref a) r := .tup h (.cons (.str _) h2)
theorem RowAt.push {H : Hp} {v : V} {n : Int} (h : RowAt H v (.push n)) : ∃ a, v = .ref a ∧ H a = some (.tup [.str "push", .int n]) := by
  obtain ⟨a, ys, rfl, h1, h2⟩ := h.inv
  rw [DtAll.ints (ns := [n]) h2] at h1
  exact ⟨a, rfl, h1⟩
theorem RowAt.turn {H : Hp} {v : V} {m n : Int} (h : RowAt H v (.turn m n)) : ∃ a, v = .ref a ∧ H a = some (.tup [.str "turn", .int m, .int n]) := by
  obtain ⟨a, ys, rfl, h1, h2⟩ := h.inv
  rw [DtAll.ints (ns := [m, n]) h2] at h1
  exact ⟨a, rfl, h1⟩
theorem RowAt.jump {H : Hp} {v : V} {u : Bool} {n : Int} (h : RowAt H v (.jump u n)) : ∃ a, v = .ref a ∧ H a = some (.tup [.str (Row.jump u n).word, .int n]) := by
  obtain ⟨a, ys, rfl, h1, h2⟩ := h.inv
  rw [DtAll.ints (ns := [n]) h2] at h1
  exact ⟨a, rfl, h1⟩
theorem RowAt.round {H : Hp} {v : V} {m n : Int} (h : RowAt H v (.round m n)) : ∃ a, v = .ref a ∧ H a = some (.tup [.str "round", .int m, .int n]) := by
  obtain ⟨a, ys, rfl, h1, h2⟩ := h.inv
  rw [DtAll.ints (ns := [m, n]) h2] at h1
  exact ⟨a, rfl, h1⟩

/-! ### lists of rows -/
def RowsAt (H : Hp) (xs : List V) (rs : List Row) : Prop := Paired (RowAt H) xs rs
section
variable {α β : Type} {F G : α → β → Prop}
theorem pd_append : ∀ {a : List α} {b : List β} {c : List α} {d : List β}, Paired F a b → Paired F c d → Paired F (a ++ c) (b ++ d)
  | _, _, _, _, .nil, h => h
  | _, _, _, _, .cons h t, h' => .cons h (pd_append t h')
theorem pd_split : ∀ {a : List α} {b1 b2 : List β}, Paired F a (b1 ++ b2) → ∃ a1 a2, a = a1 ++ a2 ∧ Paired F a1 b1 ∧ Paired F a2 b2
  | a, [], b2, h => ⟨[], a, rfl, .nil, h⟩
  | _, b :: b1, b2, .cons h t => by
    obtain ⟨a1, a2, rfl, p, q⟩ := pd_split (b1 := b1) t
    exact ⟨_ :: a1, a2, rfl, .cons h p, q⟩
theorem pd_cons : ∀ {a : List α} {b : β} {bs : List β}, Paired F a (b :: bs) → ∃ x r, a = x :: r ∧ F x b ∧ Paired F r bs
  | _, _, _, .cons h t => ⟨_, _, rfl, h, t⟩
theorem pd_get : ∀ {a : List α} {b : List β} {i : Nat} {x : α}, Paired F a b → a[i]? = some x → ∃ y, b[i]? = some y ∧ F x y
  | _, _, 0, _, .cons h t, e => by
    have e' := Option.some.inj e
    subst e'
    exact ⟨_, rfl, h⟩
  | _, _, i + 1, x, .cons h t, e => pd_get (i := i) t e
  | _, _, _, _, .nil, e => by simp at e
theorem pd_get' : ∀ {a : List α} {b : List β} {i : Nat} {y : β}, Paired F a b → b[i]? = some y → ∃ x, a[i]? = some x ∧ F x y
  | _, _, 0, _, .cons h t, e => by
    have e' := Option.some.inj e
    subst e'
    exact ⟨_, rfl, h⟩
  | _, _, i + 1, x, .cons h t, e => pd_get' (i := i) t e
  | _, _, _, _, .nil, e => by simp at e
theorem pd_take : ∀ {a : List α} {b : List β} (n : Nat), Paired F a b → Paired F (a.take n) (b.take n)
  | _, _, 0, _ => .nil
  | _, _, _ + 1, .nil => .nil
  | _, _, n + 1, .cons h t => .cons h (pd_take n t)
theorem pd_drop : ∀ {a : List α} {b : List β} (n : Nat), Paired F a b → Paired F (a.drop n) (b.drop n)
  | _, _, 0, h => h
  | _, _, _ + 1, .nil => .nil
  | _, _, n + 1, .cons h t => pd_drop n t
end
theorem RowsAt.mono {H H' : Hp} (t : TS H H') {xs : List V} {rs : List Row} (h : RowsAt H xs rs) : RowsAt H' xs rs := Paired.mapP h fun _ _ q => q.mono t
theorem RowsAt.len {H : Hp} {xs : List V} {rs : List Row} (h : RowsAt H xs rs) : xs.length = rs.length := Paired.length h
theorem RowsAt.all {H : Hp} : ∀ {xs : List V} {rs : List Row}, RowsAt H xs rs → DtAll H xs (rs.map fun r => .tuple r.dat)
  | _, _, .nil => .nil
  | _, _, .cons h t => .cons h (RowsAt.all t)

/-! ### expressions that make data -/
def Mk (t : TE) (σ : L2.St) (H : Hp) (d : PyData) : Prop := ∀ H1, Same H H1 → ∀ Q : VK, (∀ v H2, Same H1 H2 → Dt H2 v d → Q v H2) → t σ H1 Q
def MkA (t : TA) (σ : L2.St) (H : Hp) (ds : List PyData) : Prop := ∀ H1, Same H H1 → ∀ Q, (∀ vs H2, Same H1 H2 → DtAll H2 vs ds → Q vs H2) → t σ H1 Q
section
variable {σ : L2.St} {H : Hp} {d : PyData} {ds : List PyData} {t : TE} {tr : TA}
theorem MkA.nil : MkA tNil σ H [] := fun H1 _ Q q => q [] H1 (Same.refl _) .nil
theorem MkA.cons (h : Mk t σ H d) (hr : MkA tr σ H ds) : MkA (tCons t tr) σ H (d :: ds) := fun H1 s1 Q q =>
  h H1 s1 _ fun v H2 s2 dv => hr H2 (s1.trans s2) _ fun vs H3 s3 dvs => q (v :: vs) H3 (s2.trans s3) (.cons (dv.mono (TS.of s3)) dvs)
theorem Mk.tup (h : MkA tr σ H ds) (hl : ds.length ≤ 1000) : Mk (tTup tr) σ H (.tuple ds) := fun H1 s1 Q q =>
  h H1 s1 _ fun vs H2 s2 dvs => ⟨by rw [dvs.len]; exact Nat.le_of_lt (small1000 hl), fun p hp => q (.ref p) _ (s2.trans (same_new hp _)) (.tup upd_same (dvs.mono (TS.of (same_new hp _))))⟩
theorem Mk.int (n : Int) : Mk (tC (.int n)) σ H (.int n) := fun H1 _ Q q => q _ H1 (Same.refl _) (.int n)
theorem Mk.str (x : Str) : Mk (tC (.str x)) σ H (.str x) := fun H1 _ Q q => q _ H1 (Same.refl _) (.str x)
theorem Mk.var {i : Nat} {v : V} (e : σ[i]? = some (some v)) (h : Dt H v d) : Mk (tVar i) σ H d := fun H1 s1 Q q => ⟨v, e, q v H1 (Same.refl _) (h.mono (TS.of s1))⟩
/-- an expression that only reads and gives an int -/
theorem Mk.val {n : Int} (h : ∀ H1, Same H H1 → ∀ Q : VK, Q (.int n) H1 → t σ H1 Q) : Mk t σ H (.int n) := fun H1 s1 Q q => h H1 s1 Q (q _ H1 (Same.refl _) (.int n))
end
end K78

/-! K78, the program's small defs: on, turned, then, joined, goals_of, sent. -/
namespace K78
open PySem L2

/-- a def of the top that keeps a promise, as its callers meet it -/
def Own (P : Program) (w : World) (K : PySem.W.Frag) (mg : Str → Option Value) (base : Heap) (k : Nat) (x : Str) (ps : List Str) (sp : Sp) : Prop :=
  ∃ (f : Addr) (fd : FuncData), FnOk P w K mg base CX0 k f fd ps sp ∧ mg x = some (.ref f) ∧ PySem.W.keepIn K (.ref f) = true ∧ Binds K fd ps []

structure Txt (mg : Str → Option Value) : Prop where
  len : mg "len" = none
  range : mg "range" = none
  max : mg "max" = none
  min : mg "min" = none
  enumerate : mg "enumerate" = none
  list : mg "list" = none
  int : mg "int" = none
  isinstance : mg "isinstance" = none

def big (n : Int) : Prop := n.natAbs < 2 ^ 200
theorem big_of {n M : Int} (h0 : 0 ≤ n) (h : n < M) (hM : big M) : big n := by
  unfold big at *
  omega
theorem big_mul {a b : Int} (ha : big a) (hb : big b) : CMulW a b := wide_mul ha hb (by decide) (by decide) (by decide)

def spOn : Sp := fun vs H Q _ => ∃ M n : Int, vs = [.int M, .int n] ∧ 0 < M ∧ Q (.int (n % M)) H
def spTurned : Sp := fun vs H Q _ => ∃ (M p q x : Int) (a : Addr), vs = [.int M, .ref a, .int x] ∧ 0 < M ∧ H a = some (.tup [.int p, .int q]) ∧ big p ∧ big x ∧ Q (.int ((p * x + q) % M)) H
def spThen : Sp := fun vs H Q _ => ∃ (M c d p q : Int) (a b : Addr), vs = [.int M, .ref a, .ref b] ∧ 0 < M ∧ H a = some (.tup [.int c, .int d]) ∧ H b = some (.tup [.int p, .int q]) ∧ big c ∧ big d ∧ big p ∧
  ∀ r H', Same H H' → H' r = some (.tup [.int (c * p % M), .int ((d * p + q) % M)]) → Q (.ref r) H'
def spJoined : Sp := fun vs H Q _ => ∃ (M : Int) (v u : V) (l t : Row), vs = [.int M, v, u] ∧ 1 < M ∧ big M ∧ RowAt H v l ∧ RowAt H u t ∧ l.turny = true ∧ t.isTurn = true ∧ l.on M ∧ t.on M ∧
  ∀ x H', Same H H' → RowAt H' x (joined M l t) → Q x H'

section
variable {P : Program} {w : World} {K : PySem.W.Frag} {mg : Str → Option Value} {base : Heap} {f : Addr} {fd : FuncData}
theorem scOn : FnScope ["M", "n"] ["M", "n"] (defScope sOn) := ⟨rfl, rfl, rfl, by decide +kernel, rfl, by decide +kernel, by decide +kernel⟩
theorem ok_on (F : Fun K "on" "on" sOn f fd) : FnOk P w K mg base CX0 1 f fd ["M", "n"] spOn := by
  refine F.ok scOn (fun vs H Q E h => ?_) (fun cdv A outer s H vs Q E hr h => ?_)
  · obtain ⟨M, n, rfl, _⟩ := h
    rfl
  · obtain ⟨M, n, rfl, hM, q⟩ := h
    refine ⟨_, pss_one (ps_ret (pe_op op_mod (pv 1) (pv 0))), ?_⟩
    exact ⟨_, rfl, _, rfl, _, _, rfl, rfl, hM, q⟩
theorem scTurned : FnScope ["M", "turn", "x"] ["M", "turn", "x"] (defScope sTurned) := ⟨rfl, rfl, rfl, by decide +kernel, rfl, by decide +kernel, by decide +kernel⟩
theorem ok_turned (F : Fun K "turned" "turned" sTurned f fd) (O : Own P w K mg base 1 "on" ["M", "n"] spOn) : FnOk P w K mg base CX0 2 f fd ["M", "turn", "x"] spTurned := by
  obtain ⟨f1, fd1, G1, m1, kp1, b1⟩ := O
  refine F.ok scTurned (fun vs H Q E h => ?_) (fun cdv A outer s H vs Q E hr h => ?_)
  · obtain ⟨M, p, q, x, a, rfl, _⟩ := h
    rfl
  · obtain ⟨M, p, z, x, a, rfl, hM, ha, hp, hx, q⟩ := h
    refine ⟨_, pss_one (ps_ret (pe_call G1 hr rfl m1 kp1 b1 .nil pass0 (pa_cons (pv 0) (pa_cons (pe_op op_add (pe_op op_mulW (pe_ix ix_tup (pv 1) pe_int (fun _ _ => rfl)) (pv 2)) (pe_ix ix_tup (pv 1) pe_int (fun _ _ => rfl))) pa_nil)))), ?_⟩
    exact ⟨_, rfl, _, rfl, a, _, _, _, rfl, rfl, SqT.of ha, rfl, _, rfl, _, _, rfl, rfl, big_mul hp hx, _, rfl, a, _, _, _, rfl, rfl, SqT.of ha, rfl, _, _, rfl, rfl, M, _, rfl, hM, q⟩
theorem scThen : FnScope ["M", "one", "other"] ["M", "one", "other"] (defScope sThen) := ⟨rfl, rfl, rfl, by decide +kernel, rfl, by decide +kernel, by decide +kernel⟩
theorem ok_then (F : Fun K "then" "then" sThen f fd) (O : Own P w K mg base 1 "on" ["M", "n"] spOn) : FnOk P w K mg base CX0 2 f fd ["M", "one", "other"] spThen := by
  obtain ⟨f1, fd1, G1, m1, kp1, b1⟩ := O
  refine F.ok scThen (fun vs H Q E h => ?_) (fun cdv A outer s H vs Q E hr h => ?_)
  · obtain ⟨M, c, d, p, q, a, b, rfl, _⟩ := h
    rfl
  · obtain ⟨M, c, d, p, z, a, b, rfl, hM, ha, hb, hc, hd, hp, q⟩ := h
    refine ⟨_, pss_one (ps_ret (pe_tup (pa_cons (pe_call G1 hr rfl m1 kp1 b1 .nil pass0 (pa_cons (pv 0) (pa_cons (pe_op op_mulW (pe_ix ix_tup (pv 1) pe_int (fun _ _ => rfl)) (pe_ix ix_tup (pv 2) pe_int (fun _ _ => rfl))) pa_nil)))
      (pa_cons (pe_call G1 hr rfl m1 kp1 b1 .nil pass0 (pa_cons (pv 0) (pa_cons (pe_op op_add (pe_op op_mulW (pe_ix ix_tup (pv 1) pe_int (fun _ _ => rfl)) (pe_ix ix_tup (pv 2) pe_int (fun _ _ => rfl))) (pe_ix ix_tup (pv 2) pe_int (fun _ _ => rfl))) pa_nil))) pa_nil)))), ?_⟩
    refine ⟨_, rfl, _, rfl, a, _, _, _, rfl, rfl, SqT.of ha, rfl, _, rfl, b, _, _, _, rfl, rfl, SqT.of hb, rfl, _, _, rfl, rfl, big_mul hc hp, M, _, rfl, hM, ?_⟩
    refine ⟨_, rfl, _, rfl, a, _, _, _, rfl, rfl, SqT.of ha, rfl, _, rfl, b, _, _, _, rfl, rfl, SqT.of hb, rfl, _, _, rfl, rfl, big_mul hd hp, _, rfl, b, _, _, _, rfl, rfl, SqT.of hb, rfl, _, _, rfl, rfl, M, _, rfl, hM, ?_⟩
    exact ⟨by show 2 ≤ sizeLine; decide, fun t ht => q t _ (same_new ht _) upd_same⟩
theorem scJoined : FnScope ["M", "last", "row"] ["M", "last", "row"] (defScope sJoined) := ⟨rfl, rfl, rfl, by decide +kernel, rfl, by decide +kernel, by decide +kernel⟩
theorem ok_joined (F : Fun K "joined" "joined" sJoined f fd) (O1 : Own P w K mg base 2 "turned" ["M", "turn", "x"] spTurned) (O2 : Own P w K mg base 2 "then" ["M", "one", "other"] spThen) :
    FnOk P w K mg base CX0 3 f fd ["M", "last", "row"] spJoined := by
  obtain ⟨f1, fd1, G1, m1, kp1, b1⟩ := O1
  obtain ⟨f2, fd2, G2, m2, kp2, b2⟩ := O2
  refine F.ok scJoined (fun vs H Q E h => ?_) (fun cdv A outer s H vs Q E hr h => ?_)
  · obtain ⟨M, v, u, l, t, rfl, _⟩ := h
    rfl
  · obtain ⟨M, v, u, l, t, rfl, hM, bM, hv, hu, hl, ht, lo, to, q⟩ := h
    cases t with
    | turn a b =>
      obtain ⟨y, rfl, hy⟩ := hu.turn
      have ba : big a := big_of to.1.1 to.1.2 bM
      have bb : big b := big_of to.2.1 to.2.2 bM
      refine ⟨_, pss_cons (ps_if (pt_cmpR op_eq (pe_ix ix_tup (pv 1) pe_int (fun _ _ => rfl)) pe_str (nomark _))
          (pss_one (ps_ret (pe_tup (pa_cons pe_str (pa_cons (pe_call G1 hr rfl m1 kp1 b1 .nil pass0 (pa_cons (pv 0) (pa_cons (pe_tup (pa_cons (pe_ix ix_tup (pv 2) pe_int (fun _ _ => rfl)) (pa_cons (pe_ix ix_tup (pv 2) pe_int (fun _ _ => rfl)) pa_nil))) (pa_cons (pe_ix ix_tup (pv 1) pe_int (fun _ _ => rfl)) pa_nil)))) pa_nil))))) pss_nil)
        (pss_one (ps_ret (pe_op op_catT (pe_tup (pa_cons pe_str pa_nil)) (pe_call G2 hr rfl m2 kp2 b2 .nil pass0 (pa_cons (pv 0)
          (pa_cons (pe_tup (pa_cons (pe_ix ix_tup (pv 1) pe_int (fun _ _ => rfl)) (pa_cons (pe_ix ix_tup (pv 1) pe_int (fun _ _ => rfl)) pa_nil)))
          (pa_cons (pe_tup (pa_cons (pe_ix ix_tup (pv 2) pe_int (fun _ _ => rfl)) (pa_cons (pe_ix ix_tup (pv 2) pe_int (fun _ _ => rfl)) pa_nil))) pa_nil))))))), ?_⟩
      cases l with
      | push n =>
        obtain ⟨x, rfl, hx⟩ := hv.push
        refine ⟨_, rfl, x, _, _, _, rfl, rfl, SqT.of hx, rfl, rfl, _, rfl, ?_⟩
        rw [word_eq]
        refine iteT ?_
        refine ⟨_, rfl, _, rfl, y, _, _, _, rfl, rfl, SqT.of hy, rfl, _, rfl, y, _, _, _, rfl, rfl, SqT.of hy, rfl, (by show 2 ≤ sizeLine; decide), fun p hp => ?_⟩
        have s1 := same_new hp (.tup [.int a, .int b])
        refine ⟨_, rfl, x, _, _, _, rfl, rfl, SqT.of (s1 _ _ hx), rfl, M, a, b, n, p, rfl, by omega, upd_same, ba, big_of lo.1 lo.2 bM, ?_⟩
        refine ⟨by show 2 ≤ sizeLine; decide, fun r hr' => ?_⟩
        exact q _ _ (s1.trans (same_new hr' _)) (RowAt.mk (r := .push ((a * n + b) % M)) upd_same (DtAll.of_ints [(a * n + b) % M]))
      | turn c d =>
        obtain ⟨x, rfl, hx⟩ := hv.turn
        refine ⟨_, rfl, x, _, _, _, rfl, rfl, SqT.of hx, rfl, rfl, _, rfl, ?_⟩
        rw [word_ne (show ("turn" : Str) ≠ "push" by decide +kernel)]
        refine iteF ?_
        refine ⟨by show 1 ≤ sizeLine; decide, fun p hp => ?_⟩
        have s1 := same_new hp (.tup [.str "turn"])
        have hx1 := s1 _ _ hx
        have hy1 := s1 _ _ hy
        refine ⟨_, rfl, _, rfl, x, _, _, _, rfl, rfl, SqT.of hx1, rfl, _, rfl, x, _, _, _, rfl, rfl, SqT.of hx1, rfl, (by show 2 ≤ sizeLine; decide), fun p2 hp2 => ?_⟩
        have s2 := same_new hp2 (.tup [.int c, .int d])
        have hy2 := s2 _ _ hy1
        refine ⟨_, rfl, y, _, _, _, rfl, rfl, SqT.of hy2, rfl, _, rfl, y, _, _, _, rfl, rfl, SqT.of hy2, rfl, (by show 2 ≤ sizeLine; decide), fun p3 hp3 => ?_⟩
        have s3 := same_new hp3 (.tup [.int a, .int b])
        refine ⟨M, c, d, a, b, p2, p3, rfl, by omega, s3 _ _ upd_same, upd_same, big_of lo.1.1 lo.1.2 bM, big_of lo.2.1 lo.2.2 bM, ba, fun r H' s4 hr4 => ?_⟩
        have hp4 := s4 _ _ (s3 _ _ (s2 _ _ (upd_same (H := H) (a := p) (o := .tup [.str "turn"]))))
        refine ⟨p, r, _, _, rfl, rfl, SqT.of hp4, SqT.of hr4, (by intro z; cases z), (by show 3 ≤ sizeLine; decide), (fun z => by cases z), fun _ t ht => ?_⟩
        refine q _ _ (((s1.trans s2).trans s3).trans (s4.trans (same_new ht _))) ?_
        rw [show joined M (.turn c d) (.turn a b) = .turn (c * a % M) ((d * a + b) % M) by show Row.turn (a * c % M) ((a * d + b) % M) = _; rw [Int.mul_comm a c, Int.mul_comm a d]]
        exact RowAt.mk (r := .turn (c * a % M) ((d * a + b) % M)) upd_same (DtAll.of_ints [c * a % M, (d * a + b) % M])
      | _ => cases hl
    | _ => cases ht
end
end K78

/-! K78: goals_of and sent. -/
namespace K78
open PySem L2

theorem putK_le {κ : Type} [DecidableEq κ] (c : List (κ × V)) (k : κ) (x : V) : (putK c k x).length ≤ c.length + 1 := by
  unfold putK
  split
  · rw [List.length_map]; omega
  · rw [List.length_append]; exact Nat.le_refl _
theorem put_some (kvs : List (Key × V)) (k j : Int) (y : V) : (valV (putK kvs (Sum.inl k) y) (Sum.inl j)).isSome = (decide (j = k) || (valV kvs (Sum.inl j)).isSome) := by
  rw [valV_put]
  by_cases e : j = k
  · subst e
    rw [if_pos rfl, decide_eq_true rfl]
    rfl
  · rw [if_neg (fun z => e (by injection z)), decide_eq_false e]
    rfl

def spGoalsOf (K : PySem.W.Frag) : Sp := fun vs H Q _ => ∃ (a : Addr) (xs : List V) (rs : List Row), vs = [.ref a] ∧ SqL K H a xs ∧ RowsAt H xs rs ∧ rs.length ≤ 100 ∧
  ∀ p kvs H', Same H H' → H' p = some (.dK kvs) → (∀ t : Int, (valV kvs (Sum.inl t)).isSome = decide (t ∈ goals rs)) → Q (.ref p) H'
def spSent (K : PySem.W.Frag) : Sp := fun vs H Q _ => ∃ (v : V) (b : Addr) (r : Row) (ps : List Nat), vs = [v, .ref b] ∧ RowAt H v r ∧ SqL K H b (ps.map fun n : Nat => V.int (n : Int)) ∧ (∀ t, r.goal? = some t → 0 ≤ t ∧ t < (ps.length : Int)) ∧
  ∀ x H', Same H H' → RowAt H' x (r.re fun t => ((ps.getD t.toNat 0 : Nat) : Int)) → Q x H'

theorem goals_take {rs : List Row} {i : Nat} {r : Row} (e : rs[i]? = some r) : goals (rs.take (i + 1)) = goals (rs.take i) ++ r.goal?.toList := by
  rw [List.take_add_one, e]
  show goals (rs.take i ++ [r]) = _
  rw [goals_append]
  cases h : r.goal? with
  | none => unfold goals; rw [List.filterMap_cons, h]; rfl
  | some t => unfold goals; rw [List.filterMap_cons, h]; rfl
theorem goals_take0 {rs : List Row} {i : Nat} {r : Row} (e : rs[i]? = some r) (h : r.goal? = none) : goals (rs.take (i + 1)) = goals (rs.take i) := by
  rw [goals_take e, h]
  exact List.append_nil _
theorem goals_take1 {rs : List Row} {i : Nat} {r : Row} {t : Int} (e : rs[i]? = some r) (h : r.goal? = some t) : goals (rs.take (i + 1)) = goals (rs.take i) ++ [t] := by
  rw [goals_take e, h]
  rfl
theorem at0 {x : V} {xs : List V} : atI (x :: xs) 0 = some x := atI_nat (j := 0) rfl
theorem dec_or {t u : Int} {l : List Int} : decide (t ∈ l ++ [u]) = (decide (t = u) || decide (t ∈ l)) := by
  rw [← Bool.decide_or]
  congr 1
  apply propext
  rw [List.mem_append, List.mem_singleton]
  exact Or.comm

section
variable {P : Program} {w : World} {K : PySem.W.Frag} {mg : Str → Option Value} {base : Heap} {f : Addr} {fd : FuncData}
theorem scGoalsOf : FnScope ["rows", "goals", "row"] ["rows"] (defScope sGoalsOf) := ⟨rfl, rfl, rfl, by decide +kernel, rfl, by decide +kernel, by decide +kernel⟩
theorem ok_goalsOf (F : Fun K "goals_of" "goals_of" sGoalsOf f fd) : FnOk P w K mg base CX0 1 f fd ["rows"] (spGoalsOf K) := by
  refine F.ok scGoalsOf (fun vs H Q E h => ?_) (fun cdv A outer s H vs Q E hr h => ?_)
  · obtain ⟨a, xs, rs, rfl, _⟩ := h
    rfl
  · obtain ⟨a, xs, rs, rfl, hS, hR, hl, q⟩ := h
    have hu := hu_of hr
    refine ⟨_, pss_cons (ps_set (i := 1) scGoalsOf.nd rfl (Or.inl rfl) pe_dnewK)
      (pss_cons (ps_for PassesOwn.never rfl (pi_list (pv 0)) (pg_name (i := 2) scGoalsOf.nd rfl (Or.inl rfl))
        (pss_cons (ps_if (PW.pt (pw_or (pt_cmpR op_eq (pe_ix ix_tup (pv 2) pe_int (fun _ _ => rfl)) pe_str (nomark _)) (pw_or1 (pt_cmpR op_eq (pe_ix ix_tup (pv 2) pe_int (fun _ _ => rfl)) pe_str (nomark _)))))
          (pss_one (ps_dput hu (pv 1) (pe_ix ix_tup (pv 2) pe_int (fun _ _ => rfl)) pe_bl rfl)) pss_nil)
        (pss_one (ps_if (pt_cmpR op_eq (pe_ix ix_tup (pv 2) pe_int (fun _ _ => rfl)) pe_str (nomark _)) (pss_one (ps_dput hu (pv 1) (pe_ix ix_tup (pv 2) pe_int (fun _ _ => rfl)) pe_bl rfl)) pss_nil))))
      (pss_one (ps_ret (pv 1)))), ?_⟩
    intro p hp
    have s0 := same_new hp (.dK [])
    refine ⟨_, rfl, a, rfl, ⟨_, s0.seq hS⟩, for_list (K := K) (a := a) (xs := xs) (fun i σ H' => ∃ (v : Option V) (kvs : List (Key × V)), σ = [some (.ref a), some (.ref p), v] ∧ Same H H' ∧ H' p = some (.dK kvs) ∧ kvs.length ≤ i ∧
        ∀ t : Int, (valV kvs (Sum.inl t)).isSome = decide (t ∈ goals (rs.take i)))
      ⟨none, [], rfl, s0, upd_same, Nat.le_refl _, fun t => by rw [List.take_zero]; rfl⟩ (fun i σ H' _ ⟨_, _, _, s, _⟩ => s.seq hS) ?_ ?_⟩
    · rintro i v σ H' hi ⟨v2, kvs, rfl, s, hd, hk, hg⟩
      obtain ⟨r, hr0, hv0⟩ := pd_get hR hi
      have hv : RowAt H' v r := hv0.mono (TS.of s)
      have hi1 : i < rs.length := (List.getElem?_eq_some_iff.mp hr0).1
      obtain ⟨b, ys, rfl, hb, hys⟩ := hv.inv
      have hl1 : kvs.length < sizeLine := small1000 (by omega)
      have fin : ∀ {t : Int}, r.goal? = some t → ∀ j : Int, (valV (putK kvs (Sum.inl t) (V.bl true)) (Sum.inl j)).isSome = decide (j ∈ goals (rs.take (i + 1))) := fun {t} e j => by
        rw [put_some, hg, goals_take1 hr0 e, dec_or]
      have fin0 : r.goal? = none → ∀ j : Int, (valV kvs (Sum.inl j)).isSome = decide (j ∈ goals (rs.take (i + 1))) := fun e j => by
        rw [hg, goals_take0 hr0 e]
      have sp : ∀ (k : Key), Same H (upd H' p (.dK (putK kvs k (V.bl true)))) := fun k => same_upd hp s _
      refine ⟨_, rfl, b, _, _, _, rfl, rfl, SqT.of hb, at0, rfl, _, rfl, ?_⟩
      rw [w_unless]
      cases r with
      | jump u t =>
        obtain ⟨b', e', hb'⟩ := hv.jump
        cases e'
        have put : ∀ (σ' : L2.St), σ' = [some (.ref a), some (.ref p), some (V.ref b)] → ∃ (v : Option V) (kvs2 : List (Key × V)), σ' = [some (.ref a), some (.ref p), v] ∧ Same H (upd H' p (.dK (putK kvs (Sum.inl t) (V.bl true)))) ∧ (upd H' p (.dK (putK kvs (Sum.inl t) (V.bl true)))) p = some (.dK kvs2) ∧ kvs2.length ≤ i + 1 ∧
            ∀ t : Int, (valV kvs2 (Sum.inl t)).isSome = decide (t ∈ goals (rs.take (i + 1))) := fun σ' e => ⟨_, _, e, sp _, upd_same, Nat.le_trans (putK_le _ _ _) (by omega), fin rfl⟩
        have hbp : (upd H' p (.dK (putK kvs (Sum.inl t) (V.bl true)))) b = some (.tup (.str (Row.jump u t).word :: ys)) := by
          rw [upd_ne (ne_of hb hd (by intro z; cases z))]; exact hb
        cases u with
        | true =>
          refine iteT ?_
          refine ⟨_, rfl, _, rfl, b, _, _, _, rfl, rfl, SqT.of hb', rfl, p, _, rfl, DPut.k (k := Sum.inl t) hd hl1, ?_⟩
          refine ⟨_, rfl, b, _, _, _, rfl, rfl, SqT.of hbp, at0, rfl, _, rfl, ?_⟩
          rw [w_round]
          exact iteF (put _ rfl)
        | false =>
          refine iteF ?_
          refine ⟨_, rfl, b, _, _, _, rfl, rfl, SqT.of hb, at0, rfl, _, rfl, ?_⟩
          rw [w_go]
          refine iteT ?_
          refine ⟨_, rfl, _, rfl, b, _, _, _, rfl, rfl, SqT.of hb', rfl, p, _, rfl, DPut.k (k := Sum.inl t) hd hl1, ?_⟩
          refine ⟨_, rfl, b, _, _, _, rfl, rfl, SqT.of hbp, at0, rfl, _, rfl, ?_⟩
          rw [w_round]
          exact iteF (put _ rfl)
      | round j t =>
        obtain ⟨b', e', hb'⟩ := hv.round
        cases e'
        refine iteF ?_
        refine ⟨_, rfl, b, _, _, _, rfl, rfl, SqT.of hb, at0, rfl, _, rfl, ?_⟩
        rw [w_go]
        refine iteF ?_
        refine ⟨_, rfl, b, _, _, _, rfl, rfl, SqT.of hb, at0, rfl, _, rfl, ?_⟩
        rw [w_round]
        refine iteT ?_
        refine ⟨_, rfl, _, rfl, b, _, _, _, rfl, rfl, SqT.of hb', rfl, p, _, rfl, DPut.k (k := Sum.inl t) hd hl1, ?_⟩
        exact ⟨_, _, rfl, sp _, upd_same, Nat.le_trans (putK_le _ _ _) (by omega), fin rfl⟩
      | _ =>
        refine iteF ?_
        refine ⟨_, rfl, b, _, _, _, rfl, rfl, SqT.of hb, at0, rfl, _, rfl, ?_⟩
        rw [w_go]
        refine iteF ?_
        refine ⟨_, rfl, b, _, _, _, rfl, rfl, SqT.of hb, at0, rfl, _, rfl, ?_⟩
        rw [w_round]
        refine iteF ?_
        exact ⟨_, kvs, rfl, s, hd, by omega, fin0 rfl⟩
    · rintro σ H' ⟨v2, kvs, rfl, s, hd, hk, hg⟩
      refine ⟨_, rfl, q p kvs H' s hd fun t => ?_⟩
      rw [hg, hR.len, List.take_length]
theorem scSent : FnScope ["row", "places"] ["row", "places"] (defScope sSent) := ⟨rfl, rfl, rfl, by decide +kernel, rfl, by decide +kernel, by decide +kernel⟩
theorem ok_sent (F : Fun K "sent" "sent" sSent f fd) : FnOk P w K mg base CX0 1 f fd ["row", "places"] (spSent K) := by
  refine F.ok scSent (fun vs H Q E h => ?_) (fun cdv A outer s H vs Q E hr h => ?_)
  · obtain ⟨v, b, r, ps, rfl, _⟩ := h
    rfl
  · obtain ⟨v, b, r, ps, rfl, hv, hP, hg, q⟩ := h
    refine ⟨_, pss_cons (ps_if (PW.pt (pw_or (pt_cmpR op_eq (pe_ix ix_tup (pv 0) pe_int (fun _ _ => rfl)) pe_str (nomark _)) (pw_or1 (pt_cmpR op_eq (pe_ix ix_tup (pv 0) pe_int (fun _ _ => rfl)) pe_str (nomark _)))))
        (pss_one (ps_ret (pe_tup (pa_cons (pe_ix ix_tup (pv 0) pe_int (fun _ _ => rfl)) (pa_cons (pe_ix ix_list (pv 1) (pe_ix ix_tup (pv 0) pe_int (fun _ _ => rfl)) (fun _ _ => rfl)) pa_nil))))) pss_nil)
      (pss_cons (ps_if (pt_cmpR op_eq (pe_ix ix_tup (pv 0) pe_int (fun _ _ => rfl)) pe_str (nomark _))
        (pss_one (ps_ret (pe_tup (pa_cons pe_str (pa_cons (pe_ix ix_tup (pv 0) pe_int (fun _ _ => rfl)) (pa_cons (pe_ix ix_list (pv 1) (pe_ix ix_tup (pv 0) pe_int (fun _ _ => rfl)) (fun _ _ => rfl)) pa_nil)))))) pss_nil)
      (pss_one (ps_ret (pv 0)))), ?_⟩
    obtain ⟨a, ys, rfl, ha, hys⟩ := hv.inv
    have at_ : ∀ t : Int, 0 ≤ t → t < (ps.length : Int) → atI (ps.map fun n : Nat => V.int (n : Int)) t = some (V.int ((ps.getD t.toNat 0 : Nat) : Int)) := fun t h0 h1 => by
      obtain ⟨n, rfl⟩ : ∃ n : Nat, t = (n : Int) := ⟨t.toNat, by omega⟩
      have hn : n < ps.length := by omega
      refine atI_nat ?_
      rw [List.getElem?_map, List.getElem?_eq_getElem hn]
      show some (V.int ((ps[n] : Nat) : Int)) = _
      rw [Int.toNat_natCast, List.getD_eq_getElem?_getD, List.getElem?_eq_getElem hn]
      rfl
    refine ⟨_, rfl, a, _, _, _, rfl, rfl, SqT.of ha, at0, rfl, _, rfl, ?_⟩
    rw [w_unless]
    cases r with
    | jump u t =>
      obtain ⟨a', e', ha'⟩ := hv.jump
      cases e'
      obtain ⟨h0, h1⟩ := hg t rfl
      cases u with
      | true =>
        refine iteT ?_
        refine ⟨_, rfl, a, _, _, _, rfl, rfl, SqT.of ha', rfl, _, rfl, _, rfl, a, _, _, _, rfl, rfl, SqT.of ha', rfl, b, _, _, _, rfl, rfl, hP, at_ t h0 h1, (by show 2 ≤ sizeLine; decide), fun p hp => ?_⟩
        exact q _ _ (same_new hp _) (RowAt.mk (r := .jump true _) upd_same (DtAll.of_ints [_]))
      | false =>
        refine iteF ?_
        refine ⟨_, rfl, a, _, _, _, rfl, rfl, SqT.of ha, at0, rfl, _, rfl, ?_⟩
        rw [w_go]
        refine iteT ?_
        refine ⟨_, rfl, a, _, _, _, rfl, rfl, SqT.of ha', rfl, _, rfl, _, rfl, a, _, _, _, rfl, rfl, SqT.of ha', rfl, b, _, _, _, rfl, rfl, hP, at_ t h0 h1, (by show 2 ≤ sizeLine; decide), fun p hp => ?_⟩
        exact q _ _ (same_new hp _) (RowAt.mk (r := .jump false _) upd_same (DtAll.of_ints [_]))
    | round j t =>
      obtain ⟨a', e', ha'⟩ := hv.round
      cases e'
      obtain ⟨h0, h1⟩ := hg t rfl
      refine iteF ?_
      refine ⟨_, rfl, a, _, _, _, rfl, rfl, SqT.of ha, at0, rfl, _, rfl, ?_⟩
      rw [w_go]
      refine iteF ?_
      refine ⟨_, rfl, a, _, _, _, rfl, rfl, SqT.of ha, at0, rfl, _, rfl, ?_⟩
      rw [w_round]
      refine iteT ?_
      refine ⟨_, rfl, a, _, _, _, rfl, rfl, SqT.of ha', rfl, _, rfl, _, rfl, a, _, _, _, rfl, rfl, SqT.of ha', rfl, b, _, _, _, rfl, rfl, hP, at_ t h0 h1, (by show 3 ≤ sizeLine; decide), fun p hp => ?_⟩
      exact q _ _ (same_new hp _) (RowAt.mk (r := .round j _) upd_same (DtAll.of_ints [j, _]))
    | _ =>
      refine iteF ?_
      refine ⟨_, rfl, a, _, _, _, rfl, rfl, SqT.of ha, at0, rfl, _, rfl, ?_⟩
      rw [w_go]
      refine iteF ?_
      refine ⟨_, rfl, a, _, _, _, rfl, rfl, SqT.of ha, at0, rfl, _, rfl, ?_⟩
      rw [w_round]
      refine iteF ?_
      exact ⟨_, rfl, q _ _ (Same.refl _) hv⟩
end
end K78

/-! K78: shorter. -/
namespace K78
open PySem L2

/-! ### which places are barred -/
def flagsOf (s : St) : List Bool := (s.stk.map Prod.fst).reverse ++ [s.bar]
theorem getD_false (l : List Bool) (n : Nat) : (l ++ [false]).getD n false = l.getD n false := by
  rw [List.getD_eq_getElem?_getD, List.getD_eq_getElem?_getD]
  by_cases h : n < l.length
  · rw [List.getElem?_append_left h]
  · rw [List.getElem?_append_right (by omega), List.getElem?_eq_none (l := l) (by omega)]
    cases e : n - l.length with
    | zero => rfl
    | succ k => rfl
theorem flags_cons (b : Bool) (r : Row) (l : List (Bool × Row)) (n : Nat) : (flagsOf ⟨(b, r) :: l, false⟩).getD n false = (flagsOf ⟨l, b⟩).getD n false := by
  have e : flagsOf ⟨(b, r) :: l, false⟩ = flagsOf ⟨l, b⟩ ++ [false] := by
    unfold flagsOf
    show (b :: l.map Prod.fst).reverse ++ [false] = _
    rw [List.reverse_cons]
  rw [e, getD_false]
theorem flags_put (b : Bool) (l : List (Bool × Row)) (r : Row) (n : Nat) : (flagsOf (put b l r)).getD n false = (flagsOf ⟨l, b⟩).getD n false := by
  unfold put
  split
  · rfl
  · exact flags_cons b r l n
theorem flags_stp (M : Int) (s : St) (f : Bool) (r : Row) (n : Nat) : (flagsOf (stp M s f r)).getD n false = (flagsOf ⟨s.stk, s.bar || f⟩).getD n false := by
  obtain ⟨stk, bar⟩ := s
  unfold stp
  split
  · cases stk with
    | nil => exact flags_put _ _ _ _
    | cons p more =>
      obtain ⟨g, l⟩ := p
      show (flagsOf (lay M (bar || f) r ((g, l) :: more))).getD n false = _
      rw [lay_cons]
      split
      · rename_i hc
        rw [flags_put]
        show _ = (flagsOf ⟨(g, l) :: more, bar || f⟩).getD n false
        rw [hc.1, flags_cons]
      · exact flags_put _ _ _ _
  · exact flags_cons _ _ _ _
theorem flags_true (l : List (Bool × Row)) (b : Bool) (n : Nat) : (flagsOf ⟨l, true⟩).getD n false = (decide (n = l.length) || (flagsOf ⟨l, b⟩).getD n false) := by
  unfold flagsOf
  have hl : (l.map Prod.fst).reverse.length = l.length := by rw [List.length_reverse, List.length_map]
  show ((l.map Prod.fst).reverse ++ [true]).getD n false = (_ || ((l.map Prod.fst).reverse ++ [b]).getD n false)
  rw [List.getD_eq_getElem?_getD, List.getD_eq_getElem?_getD]
  by_cases h : n < l.length
  · rw [List.getElem?_append_left (by omega), List.getElem?_append_left (by omega), decide_eq_false (by omega), Bool.false_or]
  · rw [List.getElem?_append_right (by omega), List.getElem?_append_right (by omega), hl]
    by_cases e : n = l.length
    · rw [decide_eq_true e, e, Nat.sub_self, Bool.true_or]
      rfl
    · rw [decide_eq_false e, Bool.false_or]
      obtain ⟨k, hk⟩ : ∃ k, n - l.length = k + 1 := ⟨n - l.length - 1, by omega⟩
      rw [hk]
      rfl
theorem flags_len (l : List (Bool × Row)) (b : Bool) : (flagsOf ⟨l, b⟩).getD l.length false = b := by
  unfold flagsOf
  have hl : (l.map Prod.fst).reverse.length = l.length := by rw [List.length_reverse, List.length_map]
  rw [List.getD_eq_getElem?_getD, List.getElem?_append_right (by rw [hl]; exact Nat.le_refl _), hl, Nat.sub_self]
  rfl
theorem outs_cons (b c : Bool) (z : Row) (m : List (Bool × Row)) : outs ⟨(c, z) :: m, b⟩ = outs ⟨m, false⟩ ++ [z] := by
  unfold outs
  show ((c, z) :: m).reverse.map Prod.snd = m.reverse.map Prod.snd ++ [z]
  rw [List.reverse_cons, List.map_append]
  rfl
theorem outs_len (s : St) : (outs s).length = s.stk.length := by unfold outs; rw [List.length_map, List.length_reverse]
theorem outs_bar (l : List (Bool × Row)) (b c : Bool) : outs ⟨l, b⟩ = outs ⟨l, c⟩ := rfl

theorem put_len (b : Bool) (l : List (Bool × Row)) (r : Row) : (put b l r).stk.length ≤ l.length + 1 := by
  unfold put
  split
  · exact Nat.le_succ _
  · exact Nat.le_refl _
theorem stp_len (M : Int) (s : St) (f : Bool) (r : Row) : (stp M s f r).stk.length ≤ s.stk.length + 1 := by
  obtain ⟨stk, bar⟩ := s
  unfold stp
  split
  · cases stk with
    | nil => exact put_len _ _ _
    | cons p more =>
      obtain ⟨g, l⟩ := p
      show (lay M (bar || f) r ((g, l) :: more)).stk.length ≤ _
      rw [lay_cons]
      split
      · exact Nat.le_trans (put_len _ _ _) (Nat.le_succ _)
      · exact put_len _ _ _
  · exact Nat.le_refl _
theorem run_len (M : Int) (g : Nat → Bool) : ∀ (a : List Row) (i : Nat) (s : St), (run M g i s a).stk.length ≤ s.stk.length + a.length
  | [], _, _ => Nat.le_refl _
  | r :: a, i, s => by
    have h1 := run_len M g a (i + 1) (stp M s (g i) r)
    have h2 := stp_len M s (g i) r
    show (run M g (i + 1) (stp M s (g i) r) a).stk.length ≤ s.stk.length + (a.length + 1)
    omega
/-! ### a row's data is no deeper than == goes -/
def Row.nice (r : Row) : Prop := PyData.canLayAll0 r.tail = true ∧ PyData.depthAll r.tail ≤ 50
theorem nice_turny {r : Row} (h : r.turny = true) : r.nice := by
  cases r with
  | push n => exact ⟨rfl, by show 0 ≤ 50; decide⟩
  | turn a b => exact ⟨rfl, by show 0 ≤ 50; decide⟩
  | _ => cases h
theorem nice_re (f : Int → Int) {r : Row} (h : r.nice) : (r.re f).nice := by
  cases r with
  | jump u t => exact ⟨rfl, by show 0 ≤ 50; decide⟩
  | round i t => exact ⟨rfl, by show 0 ≤ 50; decide⟩
  | _ => exact h
theorem rest_ok : ∀ w : Rest, PyData.strOk w.word = true := by intro w; cases w <;> decide +kernel
theorem word_ok (r : Row) : PyData.strOk r.word = true := by
  cases r with
  | push n => show PyData.strOk "push" = true; decide +kernel
  | turn a b => show PyData.strOk "turn" = true; decide +kernel
  | jump u t =>
    cases u with
    | true => show PyData.strOk "unless" = true; decide +kernel
    | false => show PyData.strOk "go" = true; decide +kernel
  | round i t => show PyData.strOk "round" = true; decide +kernel
  | rest w ds => exact rest_ok w
theorem shaped_row {r : Row} (h : r.nice) : SeqAt.shaped (.tuple r.dat) = true := by
  unfold SeqAt.shaped
  rw [Bool.and_eq_true]
  refine ⟨?_, decide_eq_true ?_⟩
  · show (PyData.strOk r.word && PyData.canLayAll0 r.tail) = true
    rw [word_ok, h.1]
    rfl
  · show max 0 (PyData.depthAll r.tail) + 1 ≤ 64
    have := h.2
    omega
theorem shaped_idle : SeqAt.shaped (.tuple [.str "turn", .int 1, .int 0]) = true := by decide +kernel
theorem beq_word {a b : Str} (h : a ≠ b) : (a == b) = false := beq_eq_false_iff_ne.mpr h
theorem w_ne {r : Row} (h : r.isTurn = false) : r.word ≠ "turn" := fun e => by
  have z := w_turn r
  rw [e, word_eq, h] at z
  cases z
theorem eqv_idle (r : Row) : PyData.eqv (.tuple r.dat) (.tuple [.str "turn", .int 1, .int 0]) = r.idle := by
  have other : r.isTurn = false → PyData.eqv (.tuple r.dat) (.tuple [.str "turn", .int 1, .int 0]) = false := fun h => by
    show ((r.word == "turn") && PyData.eqvAll r.tail [.int 1, .int 0]) = false
    rw [beq_word (w_ne h)]
    rfl
  cases r with
  | turn a b =>
    show ((("turn" : Str) == "turn") && ((a == 1) && ((b == 0) && true))) = (a == 1 && b == 0)
    rw [beq_self_eq_true, Bool.true_and, Bool.and_true]
  | _ => exact other rfl
theorem in_turny (r : Row) : inV (.str r.word) [.str "push", .str "turn"] = r.turny := by
  show (("push" == r.word) || (("turn" == r.word) || false)) = r.turny
  rw [Bool.or_false]
  by_cases h1 : r.isPush = true
  · cases r with
    | push n => show (("push" : Str) == "push" || _) = true; rw [beq_self_eq_true, Bool.true_or]
    | _ => cases h1
  · have e1 : (("push" : Str) == r.word) = false := beq_word fun e => by
      have z := w_push r
      rw [← e, word_eq] at z
      exact h1 z.symm
    rw [e1, Bool.false_or]
    by_cases h2 : r.isTurn = true
    · cases r with
      | turn a b => show (("turn" : Str) == "turn") = true; rw [beq_self_eq_true]
      | _ => cases h2
    · have e2 : (("turn" : Str) == r.word) = false := beq_word fun e => w_ne (Bool.eq_false_iff.mpr h2) e.symm
      rw [e2]
      cases r <;> first | rfl | exact absurd rfl h1 | exact absurd rfl h2

def spShorter (K : PySem.W.Frag) : Sp := fun vs H Q _ => ∃ (M : Int) (a : Addr) (xs : List V) (rs : List Row), vs = [.int M, .ref a] ∧ SqL K H a xs ∧ RowsAt H xs rs ∧ WF M rs ∧ (∀ r, r ∈ rs → r.nice) ∧ rs.length ≤ 100 ∧ 1 < M ∧ big M ∧
  ∀ p ys H', Same H H' → H' p = some (.lst ys) → RowsAt H' ys (sh M rs) → Q (.ref p) H'

/-- how things stand behind i turns of shorter's loop -/
structure At (Hb : Hp) (M : Int) (rs : List Row) (o pl bd : Addr) (i : Nat) (H : Hp) : Prop where
  same : Same Hb H
  out : ∃ xs, H o = some (.lst xs) ∧ RowsAt H xs (outs (run M (flag (goals rs)) 0 s0 (rs.take i)))
  pls : H pl = some (.lst ((List.range i).map fun t => V.int (place M rs t : Nat)))
  bar : ∃ kb, H bd = some (.dK kb) ∧ kb.length ≤ i ∧ ∀ n : Nat, (valV kb (Sum.inl (n : Int))).isSome = (flagsOf (run M (flag (goals rs)) 0 s0 (rs.take i))).getD n false

section
variable {P : Program} {w : World} {K : PySem.W.Frag} {mg : Str → Option Value} {base : Heap} {f : Addr} {fd : FuncData}
theorem scShorter : FnScope ["M", "rows", "goals", "out", "places", "barred", "at", "row"] ["M", "rows"] (defScope sShorter) := ⟨rfl, rfl, rfl, by decide +kernel, rfl, by decide +kernel, by decide +kernel⟩
theorem ok_shorter (F : Fun K "shorter" "shorter" sShorter f fd) (T : Txt mg) (OG : Own P w K mg base 1 "goals_of" ["rows"] (spGoalsOf K)) (OJ : Own P w K mg base 3 "joined" ["M", "last", "row"] spJoined)
    (OS : Own P w K mg base 1 "sent" ["row", "places"] (spSent K)) : FnOk P w K mg base CX0 4 f fd ["M", "rows"] (spShorter K) := by
  obtain ⟨f1, fd1, G1, m1, kp1, b1⟩ := OG
  obtain ⟨f2, fd2, G2, m2, kp2, b2⟩ := OJ
  obtain ⟨f3, fd3, G3, m3, kp3, b3⟩ := OS
  refine F.ok scShorter (fun vs H Q E h => ?_) (fun cdv A outer s H vs Q E hr h => ?_)
  · obtain ⟨M, a, xs, rs, rfl, _⟩ := h
    rfl
  · obtain ⟨M, a, xs, rs, rfl, hS, hR, wf, hnice, hlen, hM, bM, q⟩ := h
    have hu := hu_of hr
    have hr1 : Room 1 _ := hr.mono (by decide)
    refine ⟨_, pss_cons (ps_set (i := 2) scShorter.nd rfl (Or.inl rfl) (pe_call G1 hr1 rfl m1 kp1 b1 .nil pass0 (pa_cons (pv 1) pa_nil)))
      (pss_cons (ps_set (i := 3) scShorter.nd rfl (Or.inl rfl) (pe_lst pa_nil))
      (pss_cons (ps_set (i := 4) scShorter.nd rfl (Or.inr rfl) (pe_lst pa_nil))
      (pss_cons (ps_set (i := 5) scShorter.nd rfl (Or.inl rfl) pe_dnewK)
      (pss_cons (ps_for PassesOwn.never rfl (pi_enum (by rfl) T.enumerate (pa_cons (pv 1) pa_nil)) (pg_tup rfl (pgs_cons (pg_name (i := 6) scShorter.nd rfl (Or.inl rfl)) (pgs_cons (pg_name (i := 7) scShorter.nd rfl (Or.inl rfl)) pgs_nil)))
        (pss_cons (ps_expr (pe_bm PySem.F.plainAttrs_list PySem.F.slot_list_append PySem.F.type_list_append mt_append (pv 4) (pa_cons (pe_callB call_len_seq (by rfl) T.len PySem.boot_len (pa_cons (pv 3) pa_nil)) pa_nil)))
        (C8.pss_cut (ps_if (pt_cmp (pc_din hu (pv 6) (pv 2))) (pss_one (ps_dput hu (pv 5) (pe_callB call_len_seq (by rfl) T.len PySem.boot_len (pa_cons (pv 3) pa_nil)) pe_bl rfl)) pss_nil)
        (pss_cons (ps_if (pt_cmpR op_ne (pe_ix ix_tup (pv 7) pe_int (fun _ _ => rfl)) pe_str (nomark _))
            (pss_cons (ps_expr (pe_bm PySem.F.plainAttrs_list PySem.F.slot_list_append PySem.F.type_list_append mt_append (pv 3) (pa_cons (pv 7) pa_nil))) (pss_one ps_continue)) pss_nil)
        (C8.pss_cut (ps_if (PW.pt (pw_and (pt_truth (pv 3) (by intro _; rfl)) (pw_and (pt_cmp (pc_dnotin hu (pe_callB call_len_seq (by rfl) T.len PySem.boot_len (pa_cons (pv 3) pa_nil)) (pv 5)))
              (pw_and1 (pt_cmpR op_in_seq (pe_ix ix_tup (pe_ix ix_list (pv 3) (pe_un un_neg pe_int) (fun _ _ => rfl)) pe_int (fun _ _ => rfl)) (pe_tup (pa_cons pe_str (pa_cons pe_str pa_nil))) (by rfl))))))
            (pss_one (ps_asg (pe_call G2 hr rfl m2 kp2 b2 .nil pass0 (pa_cons (pv 0) (pa_cons (pe_ix ix_list (pv 3) (pe_un un_neg pe_int) (fun _ _ => rfl)) (pa_cons (pv 7) pa_nil)))) (pg_sub (pv 3) (pe_un un_neg pe_int) set_list)))
            (pss_one (ps_expr (pe_bm PySem.F.plainAttrs_list PySem.F.slot_list_append PySem.F.type_list_append mt_append (pv 3) (pa_cons (pv 7) pa_nil)))))
        (pss_one (ps_if (pt_cmpR (op_eqD hr.units) (pe_ix ix_list (pv 3) (pe_un un_neg pe_int) (fun _ _ => rfl)) (pe_tup (pa_cons pe_str (pa_cons pe_int (pa_cons pe_int pa_nil)))) (nomark _))
            (pss_one (ps_expr (pe_bm0 PySem.F.plainAttrs_list PySem.F.slot_list_pop PySem.F.type_list_pop mt_pop (pv 3)))) pss_nil)))))))
      (pss_cons (ps_expr (pe_bm PySem.F.plainAttrs_list PySem.F.slot_list_append PySem.F.type_list_append mt_append (pv 4) (pa_cons (pe_callB call_len_seq (by rfl) T.len PySem.boot_len (pa_cons (pv 3) pa_nil)) pa_nil)))
      (pss_one (ps_ret (pe_lc (own := [("row", 7)]) (g := gName 7) (tt := tYes) rfl scShorter.nd (pi_list (pv 3)) (blkOk_by (N := ["M", "rows", "goals", "out", "places", "barred", "at", "row"]) (sc := defScope sShorter) (by decide +kernel))
        (fun _ _ _ _ _ => pg_name (i := 7) scShorter.nd rfl (Or.inl rfl)) (fun _ _ _ _ _ => pts_nil) (fun _ _ _ _ _ => pe_call G3 hr1 rfl m3 kp3 b3 .nil pass0 (pa_cons (pv 7) (pa_cons (pv 4) pa_nil))))))))))), ?_⟩
    refine ⟨_, rfl, a, xs, rs, rfl, hS, hR, hlen, fun g kg H1 s1 hg1 hgg => ?_⟩
    refine ⟨Nat.zero_le _, fun o ho => ?_⟩
    refine ⟨Nat.zero_le _, fun pl hpl => ?_⟩
    intro bd hbd
    have s2 := same_new ho (.lst [])
    have s3 := same_new hpl (.lst [])
    have s4 := same_new hbd (.dK [])
    have hpl1 : H1 pl = none := s2.free hpl
    have hbd1 : H1 bd = none := s2.free (s3.free hbd)
    have nop : o ≠ pl := fun e => by rw [← e, upd_same] at hpl; cases hpl
    have A0 : At H1 M rs o pl bd 0 (upd (upd (upd H1 o (.lst [])) pl (.lst [])) bd (.dK [])) :=
      ⟨(s2.trans s3).trans s4, ⟨[], s4 _ _ (s3 _ _ upd_same), .nil⟩, s4 _ _ upd_same, [], upd_same, Nat.le_refl _, fun n => by cases n <;> rfl⟩
    refine ⟨_, rfl, a, xs, rfl, (s1.trans A0.same).seq hS, for_it walk_enum (fun i σ H' => ∃ v6 v7 : Option V, σ = [some (.int M), some (.ref a), some (.ref g), some (.ref o), some (.ref pl), some (.ref bd), v6, v7] ∧ At H1 M rs o pl bd i H')
      ⟨none, none, rfl, A0⟩ (fun i σ H' _ ⟨_, _, _, A⟩ => (s1.trans A.same).seq hS) ?_ ?_⟩
    · rintro i x σ H2 H3 hi ⟨v6, v7, rfl, Ai⟩ ⟨Tp, x1, y1, rfl, hT, rfl, e1, e2⟩
      cases e1
      obtain ⟨r, hr0, hv0⟩ := pd_get hR e2
      have hir : i < rs.length := (List.getElem?_eq_some_iff.mp hr0).1
      have est : run M (flag (goals rs)) 0 s0 (rs.take (i + 1)) = stp M (run M (flag (goals rs)) 0 s0 (rs.take i)) (flag (goals rs) i) r := by
        rw [List.take_add_one, hr0]
        show run M (flag (goals rs)) 0 s0 (rs.take i ++ [r]) = _
        rw [run_snoc, List.length_take_of_le (by omega)]
      have epl : place M rs i = (run M (flag (goals rs)) 0 s0 (rs.take i)).stk.length := rfl
      obtain ⟨sm, ⟨xo, ho2, hxo⟩, hp2, ⟨kb, hb2, hkb, hfl⟩⟩ := Ai
      have hgood : Good M (run M (flag (goals rs)) 0 s0 (rs.take i)).stk := good_run hM _ 0 s0 good_s0 fun y hy => wf.on y (List.mem_of_mem_take hy)
      have hlx : xo.length = (run M (flag (goals rs)) 0 s0 (rs.take i)).stk.length := hxo.len.trans (outs_len _)
      -- how a turn ends
      have fin : ∀ (H6 : Hp) (x6 : List V) (k6 : List (Key × V)), Same H1 H6 → H6 o = some (.lst x6) → RowsAt H6 x6 (outs (stp M (run M (flag (goals rs)) 0 s0 (rs.take i)) (flag (goals rs) i) r)) →
          H6 pl = some (.lst ((List.range i).map (fun t => V.int (place M rs t : Nat)) ++ [.int (xo.length : Nat)])) → H6 bd = some (.dK k6) → k6.length ≤ i + 1 →
          (∀ n : Nat, (valV k6 (Sum.inl (n : Int))).isSome = (flagsOf ⟨(run M (flag (goals rs)) 0 s0 (rs.take i)).stk, (run M (flag (goals rs)) 0 s0 (rs.take i)).bar || flag (goals rs) i⟩).getD n false) → At H1 M rs o pl bd (i + 1) H6 :=
        fun H6 x6 k6 q1 q2 q3 q4 q5 q6 q7 => ⟨q1, ⟨x6, q2, by rw [est]; exact q3⟩, by rw [q4, List.range_succ, List.map_append, hlx, ← epl]; rfl, k6, q5, q6, fun n => by rw [q7, est, flags_stp]⟩
      have hxi : xo.length ≤ i := by
        have z := run_len M (flag (goals rs)) (rs.take i) 0 s0
        rw [List.length_take_of_le (by omega)] at z
        have z0 : s0.stk.length = 0 := rfl
        omega
      clear est epl
      generalize run M (flag (goals rs)) 0 s0 (rs.take i) = st at hxo hfl hgood hlx fin
      have sx : xo.length < sizeLine := small1000 (by omega)
      have sT := same_new hT (.tup [.int (i : Nat), y1])
      have hv : RowAt (upd H2 Tp (.tup [.int (i : Nat), y1])) y1 r := hv0.mono (TS.of (s1.trans (sm.trans sT)))
      obtain ⟨b, ys, rfl, hb, hys⟩ := hv.inv
      have ho3 := sT _ _ ho2
      have hp3 := sT _ _ hp2
      have hb3 := sT _ _ hb2
      have hg3 := sT _ _ (sm _ _ hg1)
      have hx3 := hxo.mono (TS.of sT)
      have sm3 := sm.trans sT
      refine ⟨Tp, _, rfl, SqT.of upd_same, rfl, _, _, rfl, _, _, rfl, rfl, ?_⟩
      generalize upd H2 Tp (.tup [.int (i : Nat), .ref b]) = H3 at *
      -- places.append(len(out))
      refine ⟨_, rfl, .inl ⟨rfl, _, SqL.of hp3⟩, _, rfl, o, _, rfl, .inl (SqL.of ho3), pl, _, _, rfl, rfl, hp3, by rw [List.length_map, List.length_range]; exact small1000 (by omega), ?_⟩
      have t4 := TS.lst (o := .lst ((List.range i).map (fun t => V.int (place M rs t : Nat)) ++ [.int (xo.length : Nat)])) hp3
      have sm4 := same_upd hpl1 sm3 (.lst ((List.range i).map (fun t => V.int (place M rs t : Nat)) ++ [.int (xo.length : Nat)]))
      have hp4 : (upd H3 pl (.lst ((List.range i).map (fun t => V.int (place M rs t : Nat)) ++ [.int (xo.length : Nat)]))) pl = _ := upd_same
      have ho4 : (upd H3 pl (.lst ((List.range i).map (fun t => V.int (place M rs t : Nat)) ++ [.int (xo.length : Nat)]))) o = _ := (upd_ne nop).trans ho3
      have hb4 : (upd H3 pl (.lst ((List.range i).map (fun t => V.int (place M rs t : Nat)) ++ [.int (xo.length : Nat)]))) bd = _ := (upd_ne (ne_of hb3 hp3 (by intro z; cases z))).trans hb3
      have hg4 : (upd H3 pl (.lst ((List.range i).map (fun t => V.int (place M rs t : Nat)) ++ [.int (xo.length : Nat)]))) g = _ := (upd_ne (ne_of hg3 hp3 (by intro z; cases z))).trans hg3
      have hv4 := hv.mono t4
      have hx4 := hx3.mono t4
      generalize upd H3 pl (.lst ((List.range i).map (fun t => V.int (place M rs t : Nat)) ++ [.int (xo.length : Nat)])) = H4 at *
      -- if at in goals: barred[len(out)] = True
      refine ⟨fun σ' H' => σ' = [some (.int M), some (.ref a), some (.ref g), some (.ref o), some (.ref pl), some (.ref bd), some (.int (i : Nat)), some (.ref b)] ∧ Same H1 H' ∧ H' o = some (.lst xo) ∧ RowsAt H' xo (outs st) ∧
        H' pl = some (.lst ((List.range i).map (fun t => V.int (place M rs t : Nat)) ++ [.int (xo.length : Nat)])) ∧ RowAt H' (.ref b) r ∧ ∃ k6, H' bd = some (.dK k6) ∧ k6.length ≤ i + 1 ∧
          ∀ n : Nat, (valV k6 (Sum.inl (n : Int))).isSome = (flagsOf ⟨st.stk, st.bar || flag (goals rs) i⟩).getD n false, ?_, ?_⟩
      · refine ⟨_, rfl, _, rfl, g, _, rfl, DGet.k (k := Sum.inl (i : Int)) hg4, _, rfl, ?_⟩
        rw [hgg]
        refine ite2 (fun c => ?_) (fun c => ?_)
        · refine ⟨_, rfl, _, rfl, o, _, rfl, .inl (SqL.of ho4), bd, _, rfl, DPut.k (k := Sum.inl (xo.length : Int)) hb4 (small1000 (by omega)), ?_⟩
          have td := TS.dK (o := .dK (putK kb (Sum.inl (xo.length : Int)) (V.bl true))) hb4
          refine ⟨rfl, same_upd hbd1 sm4 _, (upd_ne (ne_of ho4 hb4 (by intro z; cases z))).trans ho4, hx4.mono td, (upd_ne (ne_of hp4 hb4 (by intro z; cases z))).trans hp4, hv4.mono td, _, upd_same, Nat.le_trans (putK_le _ _ _) (by omega), fun n => ?_⟩
          have ef : flag (goals rs) i = true := c
          rw [ef, Bool.or_true, flags_true st.stk st.bar, ← hfl n, put_some, hlx]
          congr 1
          refine decide_eq_decide.mpr ?_
          omega
        · have ef : flag (goals rs) i = false := Bool.eq_false_iff.mpr c
          exact ⟨rfl, sm4, ho4, hx4, hp4, hv4, kb, hb4, by omega, fun n => by rw [ef, Bool.or_false]; exact hfl n⟩
      rintro σ' H5 ⟨rfl, sm5, ho5, hx5, hp5, hv5, k6, hb5, hk6, hfl5⟩
      obtain ⟨b', ys5, e5, hb5', hys5⟩ := hv5.inv
      cases e5
      -- if row[0] != 'turn'
      refine ⟨_, rfl, b, _, _, _, rfl, rfl, SqT.of hb5', at0, rfl, _, rfl, ?_⟩
      rw [w_turn]
      -- out.append(row)
      have app : ∀ H', Same H5 H' → RowsAt (upd H' o (.lst (xo ++ [.ref b]))) (xo ++ [.ref b]) (outs st ++ [r]) ∧ Same H1 (upd H' o (.lst (xo ++ [.ref b]))) ∧ (upd H' o (.lst (xo ++ [.ref b]))) pl = some (.lst ((List.range i).map (fun t => V.int (place M rs t : Nat)) ++ [.int (xo.length : Nat)])) ∧
          (upd H' o (.lst (xo ++ [.ref b]))) bd = some (.dK k6) := fun H' s5 => by
        have t6 := TS.lst (o := .lst (xo ++ [.ref b])) (s5 _ _ ho5)
        exact ⟨Paired.snoc ((hx5.mono (TS.of s5)).mono t6) ((hv5.mono (TS.of s5)).mono t6), same_upd ho (sm5.trans s5) _, (upd_ne (Ne.symm nop)).trans (s5 _ _ hp5), (upd_ne (ne_of (s5 _ _ hb5) (s5 _ _ ho5) (by intro z; cases z))).trans (s5 _ _ hb5)⟩
      cases ht : r.isTurn with
      | false =>
        refine iteT ?_
        refine ⟨_, rfl, .inl ⟨rfl, _, SqL.of ho5⟩, _, rfl, o, _, _, rfl, rfl, ho5, sx, ?_⟩
        obtain ⟨q1, q2, q3, q4⟩ := app H5 (Same.refl _)
        refine ⟨_, _, rfl, fin _ _ _ q2 upd_same ?_ q3 q4 hk6 hfl5⟩
        have e : stp M st (flag (goals rs) i) r = ⟨(st.bar || flag (goals rs) i, r) :: st.stk, false⟩ := by unfold stp; rw [if_neg (by rw [ht]; exact Bool.false_ne_true)]
        rw [e, outs_cons]
        exact q1
      | true =>
        refine iteF ?_
        have e0 : stp M st (flag (goals rs) i) r = lay M (st.bar || flag (goals rs) i) r st.stk := by unfold stp; rw [if_pos ht]
        refine ⟨fun σ' H' => σ' = [some (.int M), some (.ref a), some (.ref g), some (.ref o), some (.ref pl), some (.ref bd), some (.int (i : Nat)), some (.ref b)] ∧ ∃ (c : Bool) (z : Row) (m : List (Bool × Row)) (ws : List V) (v : V), Same H1 H' ∧ H' o = some (.lst (ws ++ [v])) ∧
            RowsAt H' ws (outs ⟨m, false⟩) ∧ RowAt H' v z ∧ z.nice ∧ stp M st (flag (goals rs) i) r = put c m z ∧ H' pl = some (.lst ((List.range i).map (fun t => V.int (place M rs t : Nat)) ++ [.int (xo.length : Nat)])) ∧ H' bd = some (.dK k6), ?_, ?_⟩
        · have mid : ∀ H', Same H5 H' → stp M st (flag (goals rs) i) r = put (st.bar || flag (goals rs) i) st.stk r → ∃ (c : Bool) (z : Row) (m : List (Bool × Row)) (ws : List V) (v : V), Same H1 (upd H' o (.lst (xo ++ [.ref b]))) ∧ (upd H' o (.lst (xo ++ [.ref b]))) o = some (.lst (ws ++ [v])) ∧
              RowsAt (upd H' o (.lst (xo ++ [.ref b]))) ws (outs ⟨m, false⟩) ∧ RowAt (upd H' o (.lst (xo ++ [.ref b]))) v z ∧ z.nice ∧ stp M st (flag (goals rs) i) r = put c m z ∧ (upd H' o (.lst (xo ++ [.ref b]))) pl = some (.lst ((List.range i).map (fun t => V.int (place M rs t : Nat)) ++ [.int (xo.length : Nat)])) ∧ (upd H' o (.lst (xo ++ [.ref b]))) bd = some (.dK k6) := fun H' s5 e => by
            have t6 := TS.lst (o := .lst (xo ++ [.ref b])) (s5 _ _ ho5)
            obtain ⟨_, q2, q3, q4⟩ := app H' s5
            exact ⟨_, r, st.stk, xo, .ref b, q2, upd_same, (hx5.mono (TS.of s5)).mono t6, (hv5.mono (TS.of s5)).mono t6, nice_turny (Row.turny_of_turn ht), e, q3, q4⟩
          have hlen5 : (valV k6 (Sum.inl ((xo.length : Nat) : Int))).isSome = (st.bar || flag (goals rs) i) := by rw [hfl5, hlx, flags_len]
          -- if out and len(out) not in barred and out[-1][0] in ('push', 'turn')
          refine ⟨_, rfl, _, .inl ⟨_, SqL.of ho5, rfl⟩, ?_⟩
          obtain ⟨stk, bar⟩ := st
          cases stk with
          | nil =>
            have ex : xo = [] := List.eq_nil_of_length_eq_zero hlx
            rw [ex]
            refine iteF ?_
            rw [ex] at ho5
            refine ⟨_, rfl, .inl ⟨rfl, _, SqL.of ho5⟩, _, rfl, o, _, _, rfl, rfl, ho5, (by decide), ?_⟩
            have z := mid H5 (Same.refl _) e0
            rw [ex] at z
            exact ⟨rfl, z⟩
          | cons top more =>
            obtain ⟨gl, l⟩ := top
            have eo : outs ⟨(gl, l) :: more, bar⟩ = outs ⟨more, false⟩ ++ [l] := outs_cons _ _ _ _
            rw [eo] at hx5
            obtain ⟨ws, vs1, ex, hws, hvs⟩ := pd_split hx5
            obtain ⟨v, r1, e1, hvl, hnil⟩ := pd_cons hvs
            cases hnil
            subst e1
            have hne : (!xo.isEmpty) = true := by rw [ex]; cases ws <;> rfl
            rw [hne]
            refine iteT ?_
            refine ⟨_, rfl, o, _, rfl, .inl (SqL.of ho5), _, rfl, bd, _, rfl, DGet.k (k := Sum.inl ((xo.length : Nat) : Int)) hb5, _, rfl, ?_⟩
            rw [hlen5]
            cases hbar : (bar || flag (goals rs) i) with
            | true =>
              refine iteF ?_
              refine ⟨_, rfl, .inl ⟨rfl, _, SqL.of ho5⟩, _, rfl, o, _, _, rfl, rfl, ho5, sx, ?_⟩
              refine ⟨rfl, mid H5 (Same.refl _) ?_⟩
              rw [e0]
              show lay M (bar || flag (goals rs) i) r ((gl, l) :: more) = put (bar || flag (goals rs) i) ((gl, l) :: more) r
              rw [lay_cons, if_neg (by rw [hbar]; intro z; cases z.1)]
            | false =>
              refine iteT ?_
              obtain ⟨bl, yl, rfl, hbl, hyl⟩ := hvl.inv
              have hol : H5 o = some (.lst (ws ++ [.ref bl])) := by rw [← ex]; exact ho5
              refine ⟨_, rfl, _, rfl, o, _, _, _, rfl, rfl, SqL.of hol, atI_last _ _, bl, _, _, _, rfl, rfl, SqT.of hbl, at0, (by show 2 ≤ sizeLine; decide), fun p hp => ?_⟩
              refine ⟨p, _, rfl, .inr (SqT.of upd_same), rfl, rfl, _, rfl, ?_⟩
              have s6 := same_new hp (.tup [.str "push", .str "turn"])
              show if inV (.str l.word) [.str "push", .str "turn"] = true then _ else _
              rw [in_turny]
              cases hl : l.turny with
              | false =>
                refine iteF ?_
                refine ⟨_, rfl, .inl ⟨rfl, _, SqL.of (s6 _ _ ho5)⟩, _, rfl, o, _, _, rfl, rfl, s6 _ _ ho5, sx, ?_⟩
                refine ⟨rfl, mid _ s6 ?_⟩
                rw [e0]
                show lay M (bar || flag (goals rs) i) r ((gl, l) :: more) = put (bar || flag (goals rs) i) ((gl, l) :: more) r
                rw [lay_cons, if_neg (by rw [hl]; intro z; cases z.2)]
              | true =>
                refine iteT ?_
                refine ⟨_, rfl, _, rfl, _, rfl, o, _, _, _, rfl, rfl, SqL.of (s6 _ _ hol), atI_last _ _, _, rfl, M, _, _, l, r, rfl, hM, bM, hvl.mono (TS.of s6), hv5.mono (TS.of s6), hl, ht, hgood.1, wf.on r (List.mem_of_getElem? hr0), fun x H7 s7 hx7 => ?_⟩
                have hol7 := s7 _ _ (s6 _ _ hol)
                refine ⟨_, rfl, _, rfl, o, _, _, ws.length, rfl, rfl, hol7, ?_, ?_⟩
                · unfold ixN
                  rw [List.length_append, List.length_singleton, if_neg (by omega), if_pos (by omega)]
                  congr 1
                  omega
                · have es : (ws ++ [V.ref bl]).set ws.length x = ws ++ [x] := by
                    rw [List.set_append_right _ _ (Nat.le_refl _), Nat.sub_self]
                    rfl
                  rw [es]
                  have t8 := TS.lst (o := .lst (ws ++ [x])) hol7
                  have s57 := s6.trans s7
                  refine ⟨rfl, gl, joined M l r, more, ws, x, same_upd ho (sm5.trans s57) _, upd_same, (RowsAt.mono (TS.of s57) hws).mono t8, hx7.mono t8, nice_turny (joined_turny hl), ?_, (upd_ne (Ne.symm nop)).trans (s57 _ _ hp5), (upd_ne (ne_of (s57 _ _ hb5) hol7 (by intro z; cases z))).trans (s57 _ _ hb5)⟩
                  rw [e0]
                  show lay M (bar || flag (goals rs) i) r ((gl, l) :: more) = _
                  rw [lay_cons, if_pos ⟨hbar, hl⟩]
        · rintro σ' H6 ⟨rfl, c, z, m, ws, v, sm6, ho6, hws, hvz, hz, ez, hp6, hb6⟩
          -- if out[-1] == ('turn', 1, 0): out.pop()
          refine ⟨_, rfl, _, rfl, o, _, _, _, rfl, rfl, SqL.of ho6, atI_last _ _, (by show 3 ≤ sizeLine; decide), fun p hp => ?_⟩
          have s7 := same_new hp (.tup [.str "turn", .int 1, .int 0])
          have hw7 := hws.mono (TS.of s7)
          have ho7 := s7 _ _ ho6
          have d1 : Dt (upd H6 p (.tup [.str "turn", .int 1, .int 0])) (.ref p) (.tuple [.str "turn", .int 1, .int 0]) := .tup upd_same (.cons (.str _) (.cons (.int _) (.cons (.int _) .nil)))
          refine ⟨_, _, (hvz.mono (TS.of s7)).dp, d1.dp, shaped_row hz, shaped_idle, _, rfl, ?_⟩
          rw [eqv_idle]
          cases hi : z.idle with
          | true =>
            refine iteT ?_
            have e1 : put c m z = ⟨m, c⟩ := by unfold put; rw [if_pos hi]
            refine ⟨_, rfl, .inl ⟨rfl, _, SqL.of ho7⟩, o, _, v, rfl, rfl, ho7, ?_, ?_⟩
            · rw [List.length_append, List.length_singleton, Nat.add_sub_cancel, List.getElem?_append_right (Nat.le_refl _), Nat.sub_self]
              rfl
            · have t8 := TS.lst (o := .lst (ws ++ [v]).dropLast) ho7
              refine ⟨_, _, rfl, fin _ _ k6 (same_upd ho (sm6.trans s7) _) upd_same ?_ ((upd_ne (Ne.symm nop)).trans (s7 _ _ hp6)) ((upd_ne (ne_of (s7 _ _ hb6) ho7 (by intro z; cases z))).trans (s7 _ _ hb6)) hk6 hfl5⟩
              rw [ez, e1, outs_bar _ _ false, List.dropLast_concat]
              rw [List.dropLast_concat] at t8
              exact hw7.mono t8
          | false =>
            refine iteF ?_
            refine ⟨_, _, rfl, fin _ _ k6 (sm6.trans s7) ho7 ?_ (s7 _ _ hp6) (s7 _ _ hb6) hk6 hfl5⟩
            rw [ez, put_not hi, outs_cons]
            exact Paired.snoc hw7 (hvz.mono (TS.of s7))
    · rintro σ H2 ⟨v6, v7, rfl, Ai⟩
      rw [hR.len] at Ai
      obtain ⟨sm, ⟨xo, ho2, hxo⟩, hp2, _⟩ := Ai
      rw [List.take_length] at hxo
      have hlx : xo.length = (run M (flag (goals rs)) 0 s0 rs).stk.length := hxo.len.trans (outs_len _)
      have hxi : xo.length ≤ rs.length := by
        have z := run_len M (flag (goals rs)) rs 0 s0
        have z0 : s0.stk.length = 0 := rfl
        omega
      have epl : place M rs rs.length = xo.length := by
        rw [hlx]
        unfold place
        rw [List.take_length]
      -- places.append(len(out))
      refine ⟨_, rfl, .inl ⟨rfl, _, SqL.of hp2⟩, _, rfl, o, _, rfl, .inl (SqL.of ho2), pl, _, _, rfl, rfl, hp2, by rw [List.length_map, List.length_range]; exact small1000 (by omega), ?_⟩
      have eps : (List.range rs.length).map (fun t => V.int (place M rs t : Nat)) ++ [.int (xo.length : Nat)] = ((List.range (rs.length + 1)).map (place M rs)).map fun n : Nat => V.int (n : Int) := by
        rw [List.range_succ, List.map_append, List.map_append, List.map_map, ← epl]
        rfl
      rw [eps]
      have t3 := TS.lst (o := .lst (((List.range (rs.length + 1)).map (place M rs)).map fun n : Nat => V.int (n : Int))) hp2
      have sm3 := same_upd hpl1 sm (.lst (((List.range (rs.length + 1)).map (place M rs)).map fun n : Nat => V.int (n : Int)))
      have ho3 := (upd_ne (o := .lst (((List.range (rs.length + 1)).map (place M rs)).map fun n : Nat => V.int (n : Int))) nop).trans ho2
      have hp3 := upd_same (H := H2) (a := pl) (o := .lst (((List.range (rs.length + 1)).map (place M rs)).map fun n : Nat => V.int (n : Int)))
      have hx3 := hxo.mono t3
      generalize upd H2 pl (.lst (((List.range (rs.length + 1)).map (place M rs)).map fun n : Nat => V.int (n : Int))) = H3 at *
      -- return [sent(row, places) for row in out]
      refine ⟨_, rfl, o, rfl, ⟨_, SqL.of ho3⟩, fun D hD => lc_list (K := K) (a := o) (xs := xo)
        (fun i H' => Same H3 H' ∧ ∃ acc, H' D = some (.lst acc) ∧ RowsAt H' acc (((outs (run M (flag (goals rs)) 0 s0 rs)).take i).map (Row.re fun t => ((place M rs t.toNat : Nat) : Int))))
        ⟨same_new hD _, [], upd_same, .nil⟩ (fun i H' _ ⟨s, _⟩ => SqL.of (s _ _ ho3)) ?_ ?_⟩
      · rintro i x H' hi ⟨s, acc, hacc, hrows⟩
        obtain ⟨r, hr0, hv0⟩ := pd_get hx3 hi
        have hio : i < (outs (run M (flag (goals rs)) 0 s0 rs)).length := (List.getElem?_eq_some_iff.mp hr0).1
        have hin : ∀ t, r.goal? = some t → 0 ≤ t ∧ t ≤ (rs.length : Int) := fun t ht => by
          obtain ⟨p, hp, e⟩ := List.mem_map.mp (List.mem_of_getElem? hr0)
          rcases run_goal (t := t) (by rw [e]; exact ht) rs 0 s0 (List.mem_reverse.mp hp) with z | z
          · cases z
          · exact wf.gl t z
        refine ⟨rfl, ?_⟩
        refine ⟨_, rfl, _, rfl, x, pl, r, _, rfl, hv0.mono (TS.of s), SqL.of (s _ _ hp3), fun t ht => ?_, fun x' H4 s4 hx' => ?_⟩
        · have z := hin t ht
          rw [List.length_map, List.length_range]
          omega
        · have er : (r.re fun t => ((((List.range (rs.length + 1)).map (place M rs)).getD t.toNat 0 : Nat) : Int)) = r.re fun t => ((place M rs t.toNat : Nat) : Int) := Row.re_congr r fun t ht => by
            have z := hin t ht
            have hn : t.toNat < rs.length + 1 := by omega
            show ((((List.range (rs.length + 1)).map (place M rs)).getD t.toNat 0 : Nat) : Int) = _
            rw [List.getD_eq_getElem?_getD, List.getElem?_map, List.getElem?_range hn]
            rfl
          rw [er] at hx'
          have hacc4 := s4 _ _ hacc
          have t5 := TS.lst (o := .lst (acc ++ [x'])) hacc4
          have hal : acc.length ≤ xo.length := by
            rw [hrows.len, List.length_map, List.length_take, hx3.len]
            omega
          refine ⟨acc, hacc4, small1000 (by omega), same_upd hD (s.trans s4) _, _, upd_same, ?_⟩
          rw [List.take_add_one, hr0]
          show RowsAt _ (acc ++ [x']) (((outs (run M (flag (goals rs)) 0 s0 rs)).take i ++ [r]).map _)
          rw [List.map_append]
          exact Paired.snoc ((hrows.mono (TS.of s4)).mono t5) (hx'.mono t5)
      · rintro H' ⟨s, acc, hacc, hrows⟩
        refine q D acc H' ((s1.trans sm3).trans s) hacc ?_
        rw [hx3.len, List.take_length] at hrows
        exact hrows
end
end K78

/-! K78: the law's own makers: _law_at, _law_size, _law_form, _law_row. -/
namespace K78
open PySem L2

def spAt (K : PySem.W.Frag) : Sp := fun vs H Q _ => ∃ (a : Addr) (ns : List Int) (k : Int), vs = [.ref a, .int k] ∧ SqL K H a (ns.map V.int) ∧ ns.length ≤ 63 ∧ 0 ≤ k ∧ k ≤ 1000 ∧ ∀ i : Int, Q (.int i) H
def spSize (K : PySem.W.Frag) : Sp := fun vs H Q _ => ∃ (a : Addr) (ns : List Int), vs = [.ref a] ∧ SqL K H a (ns.map V.int) ∧ ns.length ≤ 63 ∧ ∀ M : Int, 3 ≤ M → big M → Q (.int M) H
abbrev Terms := List (List Int × Int)
def termD (t : List Int × Int) : PyData := .tuple [.tuple (t.1.map .int), .int t.2]
def formD (ts : Terms) : PyData := .tuple (ts.map termD)
def spForm : Sp := fun vs H Q _ => ∃ (M cell : Int), vs = [.int M, .int cell] ∧ 3 ≤ M ∧ ∀ v H' (ts : Terms), Same H H' → Dt H' v (formD ts) → Q v H'
def spRow : Sp := fun vs H Q _ => ∃ (M cell many : Int), vs = [.int M, .int cell, .int many, .int 5] ∧ 3 ≤ M ∧ 0 ≤ many ∧
  ∀ v H' (r : Row), Same H H' → RowAt H' v r → r.on M → r.nice → (∀ t, r.goal? = some t → 0 ≤ t ∧ t ≤ many) → Q v H'

theorem pick {α : Type} {ns : List α} {i : Int} (h0 : 0 ≤ i) (h1 : i < (ns.length : Int)) : ∃ n, ns[i.toNat]? = some n ∧ n ∈ ns := by
  have h : i.toNat < ns.length := by omega
  exact ⟨ns[i.toNat], List.getElem?_eq_getElem h, List.getElem_mem h⟩
theorem pick_at {α : Type} {ns : List α} {f : α → V} {i : Int} (h0 : 0 ≤ i) (h1 : i < (ns.length : Int)) : ∃ n, atI (ns.map f) i = some (f n) ∧ n ∈ ns := by
  obtain ⟨n, e, m⟩ := pick h0 h1
  obtain ⟨j, rfl⟩ : ∃ j : Nat, i = (j : Int) := ⟨i.toNat, by omega⟩
  refine ⟨n, atI_nat ?_, m⟩
  rw [Int.toNat_natCast] at e
  rw [List.getElem?_map, e]
  rfl
theorem DtAll.get {H : Hp} : ∀ {vs : List V} {ds : List PyData} {i : Nat} {d : PyData}, DtAll H vs ds → ds[i]? = some d → ∃ v, vs[i]? = some v ∧ Dt H v d
  | _, _, 0, _, .cons h _, e => ⟨_, rfl, by rw [← Option.some.inj e]; exact h⟩
  | _, _, i + 1, _, .cons _ t, e => DtAll.get (i := i) t e
  | _, _, _, _, .nil, e => by simp at e
section
variable {σ : L2.St} {H : Hp} {d d1 d2 : PyData} {u u1 u2 : TE}
theorem Mk.t0 : Mk (tTup tNil) σ H (.tuple []) := Mk.tup MkA.nil (by decide)
theorem Mk.t1 (h : Mk u σ H d) : Mk (tTup (tCons u tNil)) σ H (.tuple [d]) := Mk.tup (MkA.cons h MkA.nil) (by show 1 ≤ 1000; decide)
theorem Mk.t2 (h1 : Mk u1 σ H d1) (h2 : Mk u2 σ H d2) : Mk (tTup (tCons u1 (tCons u2 tNil))) σ H (.tuple [d1, d2]) := Mk.tup (MkA.cons h1 (MkA.cons h2 MkA.nil)) (by show 2 ≤ 1000; decide)
end
theorem form_lay : ∀ ts : Terms, PyData.canLayAll0 (ts.map termD) = true
  | [] => rfl
  | t :: ts => by
    have h1 : ∀ es : List Int, PyData.canLayAll0 (es.map .int) = true := fun es => by
      induction es with
      | nil => rfl
      | cons e r ih => exact ih
    show ((PyData.canLayAll0 (t.1.map .int) && (true && true)) && PyData.canLayAll0 (ts.map termD)) = true
    rw [h1, form_lay ts]
    rfl
theorem form_deep : ∀ ts : Terms, PyData.depthAll (ts.map termD) ≤ 2
  | [] => Nat.zero_le _
  | t :: ts => by
    have h1 : ∀ es : List Int, PyData.depthAll (es.map .int) = 0 := fun es => by
      induction es with
      | nil => rfl
      | cons e r ih => show max 0 (PyData.depthAll (r.map .int)) = 0; rw [ih]; rfl
    show max (max (PyData.depthAll (t.1.map .int) + 1) (max 0 0) + 1) (PyData.depthAll (ts.map termD)) ≤ 2
    have h2 := form_deep ts
    rw [h1]
    omega
theorem nice_reckon (n : Int) (ts : Terms) : (Row.rest .reckon [.int n, formD ts]).nice := by
  refine ⟨?_, ?_⟩
  · show (true && (PyData.canLayAll0 (ts.map termD) && true)) = true
    rw [form_lay]
    rfl
  · show max 0 (max (PyData.depthAll (ts.map termD) + 1) 0) ≤ 50
    have := form_deep ts
    omega
theorem nice_ints (w : Rest) (m n : Int) : (Row.rest w [.int m, .int n]).nice := ⟨rfl, by show 0 ≤ 50; decide⟩
theorem nice_int (w : Rest) (n : Int) : (Row.rest w [.int n]).nice := ⟨rfl, by show 0 ≤ 50; decide⟩

section
variable {P : Program} {w : World} {K : PySem.W.Frag} {mg : Str → Option Value} {base : Heap} {f : Addr} {fd : FuncData}
theorem scAt : FnScope ["script", "k", "cell"] ["script", "k"] (defScope sAt) := ⟨rfl, rfl, rfl, by decide +kernel, rfl, by decide +kernel, by decide +kernel⟩
theorem ok_at (F : Fun K "_law_at" "_law_at" sAt f fd) (T : Txt mg) : FnOk P w K mg base CX0 1 f fd ["script", "k"] (spAt K) := by
  refine F.ok scAt (fun vs H Q E h => ?_) (fun cdv A outer s H vs Q E hr h => ?_)
  · obtain ⟨a, ns, k, rfl, _⟩ := h
    rfl
  · obtain ⟨a, ns, k, rfl, hS, hl, h0, h1, q⟩ := h
    refine ⟨_, pss_cons (ps_if (pt_cmpR op_lt (pv 1) (pe_callB call_len_seq (by rfl) T.len PySem.boot_len (pa_cons (pv 0) pa_nil)) (nomark _)) (pss_one (ps_ret (pe_ix ix_list (pv 0) (pv 1) (fun _ _ => rfl)))) pss_nil)
      (pss_cons (ps_set (i := 2) scAt.nd rfl (Or.inl rfl) (pe_op op_add (pe_op op_mul pe_int (pv 1)) pe_int))
      (pss_cons (ps_if (pt_cmpR op_gt (pe_callB call_len_seq (by rfl) T.len PySem.boot_len (pa_cons (pv 0) pa_nil)) pe_int (nomark _))
        (pss_one (ps_set (i := 2) scAt.nd rfl (Or.inl rfl) (pe_op op_add (pv 2) (pe_op op_mod (pe_ix ix_list (pv 0) (pe_op op_mod (pe_op op_mul (pv 1) (pv 1)) (pe_callB call_len_seq (by rfl) T.len PySem.boot_len (pa_cons (pv 0) pa_nil))) (fun _ _ => rfl)) pe_int)))) pss_nil)
      (pss_cons (ps_set (i := 2) scAt.nd rfl (Or.inl rfl) (pe_op op_mod (pe_op op_mul (pv 2) pe_int) pe_int))
      (pss_one (ps_ret (pe_op op_mod (pe_op op_mul (pv 2) (pv 2)) pe_int)))))), ?_⟩
    have ln : ((ns.map V.int).length : Int) = (ns.length : Int) := by rw [List.length_map]
    have item : ∀ j : Int, 0 ≤ j → j < (ns.length : Int) → ∃ z : Int, atI (ns.map V.int) j = some (.int z) := fun j a b => by
      obtain ⟨z, e, _⟩ := pick_at (f := V.int) a b
      exact ⟨z, e⟩
    refine ⟨_, rfl, _, rfl, a, _, rfl, .inl hS, _, _, rfl, rfl, _, rfl, ?_⟩
    refine ite2 (fun c => ?_) (fun c => ?_)
    · have c' := of_decide_eq_true c
      rw [ln] at c'
      obtain ⟨z, e⟩ := item k h0 c'
      exact ⟨_, rfl, _, rfl, a, _, _, _, rfl, rfl, hS, e, q z⟩
    · refine ⟨_, rfl, _, _, rfl, rfl, .inl ⟨by decide, by decide⟩, _, _, rfl, rfl, ?_⟩
      refine ⟨_, rfl, a, _, rfl, .inl hS, _, _, rfl, rfl, _, rfl, ?_⟩
      -- the end, whatever cell is, within its bounds
      have fin : ∀ x : Int, 0 ≤ x % 2147483647 ∧ x % 2147483647 < 2147483647 := fun x => ⟨Int.emod_nonneg _ (by decide), Int.emod_lt_of_pos _ (by decide)⟩
      refine ite2 (fun c2 => ?_) (fun c2 => ?_)
      · have c' := of_decide_eq_true c2
        rw [ln] at c'
        have hm : 0 ≤ k * k % ((ns.map V.int).length : Int) ∧ k * k % ((ns.map V.int).length : Int) < (ns.length : Int) := by
          rw [ln]
          exact ⟨Int.emod_nonneg _ (by omega), Int.emod_lt_of_pos _ c'⟩
        obtain ⟨z, e⟩ := item _ hm.1 hm.2
        refine ⟨_, rfl, _, rfl, _, rfl, _, rfl, _, _, rfl, rfl, .inl ⟨by omega, by omega⟩, _, rfl, a, _, rfl, .inl hS, _, _, rfl, rfl, by omega, a, _, _, _, rfl, rfl, hS, e, _, _, rfl, rfl, (by show (0 : Int) < 2147483647; decide), _, _, rfl, rfl, ?_⟩
        refine ⟨_, rfl, _, _, rfl, rfl, .inr ⟨by decide, by decide⟩, _, _, rfl, rfl, (by show (0 : Int) < 2147483647; decide), ?_⟩
        refine ⟨_, rfl, _, rfl, _, _, rfl, rfl, .inl ⟨?_, ?_⟩, _, _, rfl, rfl, (by show (0 : Int) < 2147483629; decide), q _⟩
        · have := fin ((40692 * k + 1 + z % 2147483647) * 48271)
          omega
        · have := fin ((40692 * k + 1 + z % 2147483647) * 48271)
          omega
      · refine ⟨_, rfl, _, _, rfl, rfl, .inr ⟨by decide, by decide⟩, _, _, rfl, rfl, (by show (0 : Int) < 2147483647; decide), ?_⟩
        refine ⟨_, rfl, _, rfl, _, _, rfl, rfl, .inl ⟨?_, ?_⟩, _, _, rfl, rfl, (by show (0 : Int) < 2147483629; decide), q _⟩
        · have := fin ((40692 * k + 1) * 48271)
          omega
        · have := fin ((40692 * k + 1) * 48271)
          omega
theorem scSize : FnScope ["script"] ["script"] (defScope sSize) := ⟨rfl, rfl, rfl, by decide +kernel, rfl, by decide +kernel, by decide +kernel⟩
theorem ok_size (F : Fun K "_law_size" "_law_size" sSize f fd) (O : Own P w K mg base 1 "_law_at" ["script", "k"] (spAt K)) : FnOk P w K mg base CX0 2 f fd ["script"] (spSize K) := by
  obtain ⟨f1, fd1, G1, m1, kp1, b1⟩ := O
  refine F.ok scSize (fun vs H Q E h => ?_) (fun cdv A outer s H vs Q E hr h => ?_)
  · obtain ⟨a, ns, rfl, _⟩ := h
    rfl
  · obtain ⟨a, ns, rfl, hS, hl, q⟩ := h
    refine ⟨_, pss_cons (ps_if (pt_cmpR op_eq (pe_op op_mod (pe_call G1 hr rfl m1 kp1 b1 .nil pass0 (pa_cons (pv 0) (pa_cons pe_int pa_nil))) pe_int) pe_int (nomark _))
        (pss_one (ps_ret (pe_op op_add pe_int (pe_op op_mul pe_int (pe_op op_mod (pe_call G1 hr rfl m1 kp1 b1 .nil pass0 (pa_cons (pv 0) (pa_cons pe_int pa_nil))) pe_int))))) pss_nil)
      (pss_one (ps_ret (pe_op op_add pe_int (pe_op op_mul pe_int (pe_op op_mod (pe_call G1 hr rfl m1 kp1 b1 .nil pass0 (pa_cons (pv 0) (pa_cons pe_int pa_nil))) (pe_op op_pow pe_int pe_int)))))), ?_⟩
    refine ⟨_, rfl, a, ns, 0, rfl, hS, hl, by decide, by decide, fun i => ⟨_, _, rfl, rfl, (by show (0 : Int) < 4; decide), rfl, _, rfl, ?_⟩⟩
    refine ite2 (fun c => ?_) (fun c => ?_)
    · refine ⟨_, rfl, a, ns, 1, rfl, hS, hl, by decide, by decide, fun j => ⟨_, _, rfl, rfl, (by show (0 : Int) < 4; decide), _, _, rfl, rfl, .inl ⟨by decide, by decide⟩, _, _, rfl, rfl, ?_⟩⟩
      have h1 : 0 ≤ j % 4 := Int.emod_nonneg _ (by decide)
      have h2 : j % 4 < 4 := Int.emod_lt_of_pos _ (by decide)
      refine q _ (by omega) ?_
      unfold big
      omega
    · have hp : (0 : Int) < 10 ^ (59 : Int).toNat := by decide +kernel
      refine ⟨_, rfl, a, ns, 1, rfl, hS, hl, by decide, by decide, fun j => ⟨_, _, rfl, rfl, ⟨by decide, by decide, by decide⟩, _, _, rfl, rfl, hp, _, _, rfl, rfl, .inl ⟨by decide, by decide⟩, _, _, rfl, rfl, ?_⟩⟩
      have h1 : 0 ≤ j % 10 ^ (59 : Int).toNat := Int.emod_nonneg _ (by decide +kernel)
      have h2 : j % 10 ^ (59 : Int).toNat < 10 ^ (59 : Int).toNat := Int.emod_lt_of_pos _ hp
      have h3 : (10 : Int) ^ (59 : Int).toNat = 100000000000000000000000000000000000000000000000000000000000 := by decide +kernel
      rw [h3] at h1 h2 ⊢
      refine q _ (by omega) ?_
      unfold big
      omega
theorem scForm : FnScope ["M", "cell", "c", "d"] ["M", "cell"] (defScope sForm) := ⟨rfl, rfl, rfl, by decide +kernel, rfl, by decide +kernel, by decide +kernel⟩
theorem ok_form (F : Fun K "_law_form" "_law_form" sForm f fd) : FnOk P w K mg base CX0 1 f fd ["M", "cell"] spForm := by
  refine F.ok scForm (fun vs H Q E h => ?_) (fun cdv A outer s H vs Q E hr h => ?_)
  · obtain ⟨M, cell, rfl, _⟩ := h
    rfl
  · obtain ⟨M, cell, rfl, hM, q⟩ := h
    refine ⟨_, pss_cons (ps_set (i := 2) scForm.nd rfl (Or.inl rfl) (pe_op op_add pe_int (pe_op op_mod (pe_op op_fdiv (pv 1) pe_int) (pe_op op_sub (pv 0) pe_int))))
      (pss_cons (ps_set (i := 3) scForm.nd rfl (Or.inl rfl) (pe_op op_add pe_int (pe_op op_mod (pe_op op_fdiv (pv 1) pe_int) (pe_op op_sub (pv 0) pe_int))))
      (pss_one (ps_ret (pe_ix ix_list (pe_lst
        (pa_cons (pe_tup pa_nil)
        (pa_cons (pe_tup (pa_cons (pe_tup (pa_cons (pe_tup (pa_cons pe_int pa_nil)) (pa_cons (pv 2) pa_nil))) (pa_cons (pe_tup (pa_cons (pe_tup (pa_cons pe_int pa_nil)) (pa_cons (pv 3) pa_nil))) pa_nil)))
        (pa_cons (pe_tup (pa_cons (pe_tup (pa_cons (pe_tup (pa_cons pe_int (pa_cons pe_int pa_nil))) (pa_cons (pv 2) pa_nil))) (pa_cons (pe_tup (pa_cons (pe_tup (pa_cons pe_int (pa_cons pe_int pa_nil))) (pa_cons (pv 3) pa_nil))) pa_nil)))
        (pa_cons (pe_tup (pa_cons (pe_tup (pa_cons (pe_tup (pa_cons pe_int (pa_cons pe_int pa_nil))) (pa_cons (pv 2) pa_nil))) pa_nil))
        (pa_cons (pe_tup (pa_cons (pe_tup (pa_cons (pe_tup (pa_cons pe_int pa_nil)) (pa_cons (pv 3) pa_nil))) pa_nil))
        (pa_cons (pe_tup pa_nil) pa_nil)))))))
        (pe_op op_mod (pe_op op_fdiv (pv 1) pe_int) pe_int) (fun _ _ => rfl))))), ?_⟩
    refine ⟨_, rfl, _, _, rfl, rfl, ⟨by decide, by decide⟩, _, rfl, _, _, rfl, rfl, _, _, rfl, rfl, (by show (0 : Int) < M - 1; omega), _, _, rfl, rfl, ?_⟩
    refine ⟨_, rfl, _, _, rfl, rfl, ⟨by decide, by decide⟩, _, rfl, _, _, rfl, rfl, _, _, rfl, rfl, (by show (0 : Int) < M - 1; omega), _, _, rfl, rfl, ?_⟩
    dsimp only [gName, tRet, tOp]
    show tLst _ [some (V.int M), some (V.int cell), some (V.int (1 + cell / 12 % (M - 1))), some (V.int (1 + cell / 36 % (M - 1)))] H _
    generalize 1 + cell / 12 % (M - 1) = c
    generalize 1 + cell / 36 % (M - 1) = d
    have hc : ∀ H, Mk (tVar 2) [some (V.int M), some (V.int cell), some (V.int c), some (V.int d)] H (.int c) := fun H => Mk.var rfl (.int c)
    have hd : ∀ H, Mk (tVar 3) [some (V.int M), some (V.int cell), some (V.int c), some (V.int d)] H (.int d) := fun H => Mk.var rfl (.int d)
    have made := MkA.cons (σ := [some (V.int M), some (V.int cell), some (V.int c), some (V.int d)]) (H := H) Mk.t0
      (MkA.cons (Mk.t2 (Mk.t2 (Mk.t1 (Mk.int 0)) (hc H)) (Mk.t2 (Mk.t1 (Mk.int 1)) (hd H)))
      (MkA.cons (Mk.t2 (Mk.t2 (Mk.t2 (Mk.int 0) (Mk.int 1)) (hc H)) (Mk.t2 (Mk.t2 (Mk.int 1) (Mk.int 0)) (hd H)))
      (MkA.cons (Mk.t1 (Mk.t2 (Mk.t2 (Mk.int 1) (Mk.int 1)) (hc H)))
      (MkA.cons (Mk.t1 (Mk.t2 (Mk.t1 (Mk.int 2)) (hd H)))
      (MkA.cons Mk.t0 MkA.nil)))))
    refine made H (Same.refl _) _ fun xs H2 s2 dxs => ⟨?_, fun p hp => ?_⟩
    · rw [dxs.len]
      show 6 ≤ sizeLine
      decide
    · have s3 := same_new hp (.lst xs)
      have i0 : 0 ≤ cell / 2 % 6 := Int.emod_nonneg _ (by decide)
      have i1 : cell / 2 % 6 < 6 := Int.emod_lt_of_pos _ (by decide)
      obtain ⟨ts, e, _⟩ := pick (ns := ([[], [([0], c), ([1], d)], [([0, 1], c), ([1, 0], d)], [([1, 1], c)], [([2], d)], []] : List Terms)) i0 i1
      have e2 := congrArg (Option.map formD) e
      rw [← List.getElem?_map] at e2
      obtain ⟨v, hv, hd⟩ := DtAll.get dxs e2
      refine ⟨_, rfl, _, _, rfl, rfl, ⟨by decide, by decide⟩, _, _, rfl, rfl, (by show (0 : Int) < 6; decide), p, _, _, _, rfl, rfl, SqL.of upd_same, at_of (j := (cell / 2 % 6).toNat) (by omega) hv, ?_⟩
      exact q v _ ts (s2.trans s3) (hd.mono (TS.of s3))
end
end K78

/-! K78: _law_row and _law_rows. -/
namespace K78
open PySem L2

theorem is_word {a b : Str} (h : decide (V.str a = V.str b) = true) : a = b := by
  have z := of_decide_eq_true h
  injection z
theorem not_word {a b : Str} (h : ¬ decide (V.str a = V.str b) = true) : a ≠ b := fun e => h (by rw [e]; exact word_eq b)
theorem emod_in {a b : Int} (h : 0 < b) : 0 ≤ a % b ∧ a % b < b := ⟨Int.emod_nonneg _ (by omega), Int.emod_lt_of_pos _ h⟩
theorem pick_int {ns : List Int} {i M : Int} (h0 : 0 ≤ i) (h1 : i < (ns.length : Int)) (hb : ∀ n, n ∈ ns → 0 ≤ n ∧ n < M) : ∃ n : Int, atI (ns.map V.int) i = some (.int n) ∧ 0 ≤ n ∧ n < M := by
  obtain ⟨n, e, m⟩ := pick_at (f := V.int) h0 h1
  exact ⟨n, e, hb n m⟩
def nineWords : List Str := ["push", "take", "keep", "turn", "turn", "turn", "turn", "reckon", "unless", "go", "count", "round"]
theorem nine {wd : Str} (h : wd ∈ nineWords) (h1 : wd ≠ "push") (h2 : wd ≠ "take") (h3 : wd ≠ "keep") (h4 : wd ≠ "turn") (h5 : wd ≠ "reckon") (h6 : wd ≠ "count") (h7 : wd ≠ "round") : ∃ u : Bool, wd = (Row.jump u 0).word := by
  unfold nineWords at h
  simp only [List.mem_cons, List.not_mem_nil, or_false] at h
  rcases h with h | h | h | h | h | h | h | h | h | h | h | h
  · exact absurd h h1
  · exact absurd h h2
  · exact absurd h h3
  · exact absurd h h4
  · exact absurd h h4
  · exact absurd h h4
  · exact absurd h h4
  · exact absurd h h5
  · exact ⟨true, h⟩
  · exact ⟨false, h⟩
  · exact absurd h h6
  · exact absurd h h7
section
variable {P : Program} {w : World} {K : PySem.W.Frag} {mg : Str → Option Value} {base : Heap} {f : Addr} {fd : FuncData}
theorem scRow : FnScope ["M", "cell", "many", "places", "words", "word", "a", "form_told"] ["M", "cell", "many", "places"] (defScope sRow) := ⟨rfl, rfl, rfl, by decide +kernel, rfl, by decide +kernel, by decide +kernel⟩
theorem ok_row (F : Fun K "_law_row" "_law_row" sRow f fd) (T : Txt mg) (O : Own P w K mg base 1 "_law_form" ["M", "cell"] spForm) : FnOk P w K mg base CX0 2 f fd ["M", "cell", "many", "places"] spRow := by
  obtain ⟨f1, fd1, G1, m1, kp1, b1⟩ := O
  refine F.ok scRow (fun vs H Q E h => ?_) (fun cdv A outer s H vs Q E hr h => ?_)
  · obtain ⟨M, cell, many, rfl, _⟩ := h
    rfl
  · obtain ⟨M, cell, many, rfl, hM, hm, q⟩ := h
    refine ⟨_, (pss_cons (ps_set (i := 4) scRow.nd rfl (Or.inl rfl) (pe_lst (pa_cons pe_str (pa_cons pe_str (pa_cons pe_str (pa_cons pe_str (pa_cons pe_str (pa_cons pe_str (pa_cons pe_str (pa_cons pe_str (pa_cons pe_str (pa_cons pe_str (pa_cons pe_str (pa_cons pe_str pa_nil)))))))))))))) (pss_cons (ps_set (i := 5) scRow.nd rfl (Or.inl rfl) (pe_ix ix_list (pv 4) (pe_op op_mod (pv 1) pe_int) (fun _ _ => rfl))) (pss_cons (ps_set (i := 1) scRow.nd rfl (Or.inl rfl) (pe_op op_fdiv (pv 1) pe_int)) (pss_cons (ps_if (pt_cmpR op_eq (pv 5) pe_str (nomark _)) (pss_one (ps_ret (pe_tup (pa_cons (pv 5) (pa_cons (pe_op op_mod (pv 1) (pv 0)) pa_nil))))) pss_nil) (pss_cons (ps_if (PW.pt (pw_or (pt_cmpR op_eq (pv 5) pe_str (nomark _)) (pw_or1 (pt_cmpR op_eq (pv 5) pe_str (nomark _))))) (pss_one (ps_ret (pe_tup (pa_cons (pv 5) (pa_cons (pe_op op_mod (pv 1) (pv 3)) pa_nil))))) pss_nil) (pss_cons (ps_if (pt_cmpR op_eq (pv 5) pe_str (nomark _)) (pss_cons (ps_set (i := 6) scRow.nd rfl (Or.inl rfl) (pe_ix ix_list (pe_lst (pa_cons pe_int (pa_cons pe_int (pa_cons (pe_op op_sub (pv 0) pe_int) (pa_cons pe_int (pa_cons (pe_op op_fdiv (pe_op op_add (pv 0) pe_int) pe_int) (pa_cons (pe_op op_mod (pe_op op_fdiv (pv 1) pe_int) (pv 0)) pa_nil))))))) (pe_op op_mod (pv 1) pe_int) (fun _ _ => rfl))) (pss_one (ps_ret (pe_tup (pa_cons (pv 5) (pa_cons (pv 6) (pa_cons (pe_ix ix_list (pe_lst (pa_cons pe_int (pa_cons pe_int (pa_cons (pe_op op_mod (pe_op op_fdiv (pv 1) pe_int) (pv 0)) (pa_cons (pe_op op_sub (pv 0) pe_int) (pa_cons pe_int pa_nil)))))) (pe_op op_mod (pe_op op_fdiv (pv 1) pe_int) pe_int) (fun _ _ => rfl)) pa_nil))))))) pss_nil) (pss_cons (ps_if (pt_cmpR op_eq (pv 5) pe_str (nomark _)) (pss_cons (ps_set (i := 7) scRow.nd rfl (Or.inl rfl) (pe_call G1 hr rfl m1 kp1 b1 .nil pass0 (pa_cons (pv 0) (pa_cons (pv 1) pa_nil)))) (pss_cons (ps_if (pt_cmpR op_eq (pe_callB call_len_seq (by rfl) T.len PySem.boot_len (pa_cons (pv 7) pa_nil)) pe_int (nomark _)) (pss_one (ps_ret (pe_tup (pa_cons (pv 5) (pa_cons (pe_op op_add pe_int (pe_op op_mod (pv 1) pe_int)) (pa_cons (pv 7) pa_nil)))))) pss_nil) (pss_one (ps_ret (pe_tup (pa_cons (pv 5) (pa_cons (pe_callB call_len_seq (by rfl) T.len PySem.boot_len (pa_cons (pe_ix ix_tup (pe_ix ix_tup (pv 7) pe_int (fun _ _ => rfl)) pe_int (fun _ _ => rfl)) pa_nil)) (pa_cons (pv 7) pa_nil)))))))) pss_nil) (pss_cons (ps_if (pt_cmpR op_eq (pv 5) pe_str (nomark _)) (pss_one (ps_ret (pe_tup (pa_cons (pv 5) (pa_cons (pe_op op_mod (pv 1) (pv 3)) (pa_cons (pe_op op_mod (pe_op op_fdiv (pv 1) (pv 3)) pe_int) pa_nil)))))) pss_nil) (pss_cons (ps_if (pt_cmpR op_eq (pv 5) pe_str (nomark _)) (pss_one (ps_ret (pe_tup (pa_cons (pv 5) (pa_cons (pe_op op_mod (pv 1) (pv 3)) (pa_cons (pe_op op_mod (pe_op op_fdiv (pv 1) (pv 3)) (pe_op op_add (pv 2) pe_int)) pa_nil)))))) pss_nil) (pss_one (ps_ret (pe_tup (pa_cons (pv 5) (pa_cons (pe_op op_mod (pv 1) (pe_op op_add (pv 2) pe_int)) pa_nil)))))))))))))), ?_⟩
    refine ⟨(by show 12 ≤ sizeLine; decide), fun l hl => ?_⟩
    have s1 := same_new hl (.lst (nineWords.map V.str))
    have hl1 := upd_same (H := H) (a := l) (o := .lst (nineWords.map V.str))
    have i12 := emod_in (a := cell) (b := 12) (by decide)
    obtain ⟨wd, ewd, mem⟩ := pick_at (ns := nineWords) (f := V.str) i12.1 (by show _ < (12 : Int); exact i12.2)
    refine ⟨_, rfl, _, rfl, _, _, rfl, rfl, (by show (0 : Int) < 12; decide), l, _, _, _, rfl, rfl, SqL.of hl1, ewd, ?_⟩
    refine ⟨_, rfl, _, _, rfl, rfl, ⟨by decide, by decide⟩, ?_⟩
    show tSeq _ _ _ [some (V.int M), some (V.int (cell / 12)), some (V.int many), some (V.int 5), some (V.ref l), some (V.str wd), none, none] (upd H l (.lst (nineWords.map V.str)))
    clear i12 ewd
    generalize upd H l (.lst (nineWords.map V.str)) = H1 at *
    generalize cell / 12 = c
    have cM := emod_in (a := c) (b := M) (by omega)
    -- push
    refine ⟨_, rfl, rfl, _, rfl, ?_⟩
    refine ite2 (fun z => ?_) (fun z1 => ?_)
    · have e := is_word z
      refine ⟨_, rfl, _, rfl, _, rfl, _, _, rfl, rfl, (by show 0 < M; omega), (by show 2 ≤ sizeLine; decide), fun p hp => ?_⟩
      rw [e]
      exact q _ _ (.push (c % M)) (s1.trans (same_new hp _)) (RowAt.mk upd_same (DtAll.of_ints [c % M])) cM (nice_turny rfl) (fun t ht => by cases ht)
    -- take, keep
    refine ⟨_, rfl, rfl, _, rfl, ?_⟩
    refine ite2 (fun z => ?_) (fun z2 => ?_)
    · have e := is_word z
      refine iteT ?_
      refine ⟨_, rfl, _, rfl, _, rfl, _, _, rfl, rfl, (by show (0 : Int) < 5; decide), (by show 2 ≤ sizeLine; decide), fun p hp => ?_⟩
      rw [e]
      exact q _ _ (.rest .take [.int (c % 5)]) (s1.trans (same_new hp _)) (RowAt.mk upd_same (DtAll.of_ints [c % 5])) trivial (nice_int _ _) (fun t ht => by cases ht)
    refine ⟨_, rfl, rfl, _, rfl, ?_⟩
    refine ite2 (fun z => ?_) (fun z3 => ?_)
    · have e := is_word z
      refine ⟨_, rfl, _, rfl, _, rfl, _, _, rfl, rfl, (by show (0 : Int) < 5; decide), (by show 2 ≤ sizeLine; decide), fun p hp => ?_⟩
      rw [e]
      exact q _ _ (.rest .keep [.int (c % 5)]) (s1.trans (same_new hp _)) (RowAt.mk upd_same (DtAll.of_ints [c % 5])) trivial (nice_int _ _) (fun t ht => by cases ht)
    -- turn
    refine ⟨_, rfl, rfl, _, rfl, ?_⟩
    refine ite2 (fun z => ?_) (fun z4 => ?_)
    · have e := is_word z
      have c6 := emod_in (a := c) (b := 6) (by decide)
      have c5 := emod_in (a := c / 6) (b := 5) (by decide)
      have d1 := emod_in (a := c / 15) (b := M) (by omega)
      have d2 := emod_in (a := c / 90) (b := M) (by omega)
      obtain ⟨x, ex, x0, x1⟩ := pick_int (ns := [1, 1, M - 1, 2, (M + 1) / 2, c / 15 % M]) (M := M) c6.1 c6.2 (fun n hn => by
        simp only [List.mem_cons, List.not_mem_nil, or_false] at hn
        rcases hn with h | h | h | h | h | h <;> omega)
      obtain ⟨y, ey, y0, y1⟩ := pick_int (ns := [0, 0, c / 90 % M, M - 1, 1]) (M := M) c5.1 c5.2 (fun n hn => by
        simp only [List.mem_cons, List.not_mem_nil, or_false] at hn
        rcases hn with h | h | h | h | h <;> omega)
      refine ⟨_, rfl, _, _, rfl, rfl, _, rfl, _, _, rfl, rfl, _, _, rfl, rfl, ⟨by decide, by decide⟩, _, rfl, _, _, rfl, rfl, ⟨by decide, by decide⟩, _, rfl, _, _, rfl, rfl, (by show 0 < M; omega), (by show 6 ≤ sizeLine; decide), fun p hp => ?_⟩
      have s2 := same_new hp (.lst ([1, 1, M - 1, 2, (M + 1) / 2, c / 15 % M].map V.int))
      refine ⟨_, rfl, _, _, rfl, rfl, (by show (0 : Int) < 6; decide), p, _, _, _, rfl, rfl, SqL.of upd_same, ex, ?_⟩
      refine ⟨_, rfl, _, rfl, _, rfl, _, _, rfl, rfl, ⟨by decide, by decide⟩, _, rfl, _, _, rfl, rfl, (by show 0 < M; omega), _, rfl, _, _, rfl, rfl, (by show 5 ≤ sizeLine; decide), fun p2 hp2 => ?_⟩
      have s3 := same_new hp2 (.lst ([0, 0, c / 90 % M, M - 1, 1].map V.int))
      refine ⟨_, rfl, _, _, rfl, rfl, ⟨by decide, by decide⟩, _, _, rfl, rfl, (by show (0 : Int) < 5; decide), p2, _, _, _, rfl, rfl, SqL.of upd_same, ey, (by show 3 ≤ sizeLine; decide), fun p3 hp3 => ?_⟩
      rw [e]
      exact q _ _ (.turn x y) (((s1.trans s2).trans s3).trans (same_new hp3 _)) (RowAt.mk upd_same (DtAll.of_ints [x, y])) ⟨⟨x0, x1⟩, y0, y1⟩ (nice_turny rfl) (fun t ht => by cases ht)
    -- reckon
    refine ⟨_, rfl, rfl, _, rfl, ?_⟩
    refine ite2 (fun z => ?_) (fun z5 => ?_)
    · have e := is_word z
      refine ⟨_, rfl, _, rfl, M, c, rfl, hM, fun v H2 ts s2 hv => ?_⟩
      obtain ⟨fa, xs, rfl, hfa, hxs⟩ := Dt.tup_inv hv
      refine ⟨_, rfl, fa, _, rfl, .inr (SqT.of hfa), rfl, _, rfl, ?_⟩
      have fin : ∀ (n : Int) (p : Addr), H2 p = none → Q (.ref p) (upd H2 p (.tup [.str wd, .int n, .ref fa])) := fun n p hp => by
        have s3 := same_new hp (.tup [.str wd, .int n, .ref fa])
        refine q _ _ (.rest .reckon [.int n, formD ts]) ((s1.trans s2).trans s3) ?_ trivial (nice_reckon n ts) (fun t ht => by cases ht)
        refine RowAt.mk (ys := [.int n, .ref fa]) ?_ (.cons (.int n) (.cons (hv.mono (TS.of s3)) .nil))
        rw [upd_same, e]
        rfl
      refine ite2 (fun z => ?_) (fun z6 => ?_)
      · exact ⟨_, rfl, _, rfl, _, _, rfl, rfl, (by show (0 : Int) < 2; decide), _, _, rfl, rfl, _, rfl, (by show 3 ≤ sizeLine; decide), fun p hp => fin _ p hp⟩
      · cases ts with
        | nil =>
          cases (DtAll.nil_inv hxs)
          exact absurd (by decide) z6
        | cons t ts =>
          obtain ⟨v1, r1, rfl, h1, _⟩ := DtAll.cons_inv hxs
          obtain ⟨a1, x1, rfl, ha1, hx1⟩ := Dt.tup_inv h1
          obtain ⟨v2, r2, rfl, h2, _⟩ := DtAll.cons_inv hx1
          obtain ⟨a2, x2, rfl, ha2, hx2⟩ := Dt.tup_inv h2
          exact ⟨_, rfl, _, rfl, fa, _, _, _, rfl, rfl, SqT.of hfa, at0, a1, _, _, _, rfl, rfl, SqT.of ha1, at0, a2, _, rfl, .inr (SqT.of ha2), _, rfl, (by show 3 ≤ sizeLine; decide), fun p hp => fin _ p hp⟩
    -- count
    refine ⟨_, rfl, rfl, _, rfl, ?_⟩
    refine ite2 (fun z => ?_) (fun z6 => ?_)
    · have e := is_word z
      refine ⟨_, rfl, _, rfl, _, rfl, _, _, rfl, rfl, (by show (0 : Int) < 5; decide), _, rfl, _, rfl, _, _, rfl, rfl, ⟨by decide, by decide⟩, _, _, rfl, rfl, (by show (0 : Int) < 10; decide), (by show 3 ≤ sizeLine; decide), fun p hp => ?_⟩
      rw [e]
      exact q _ _ (.rest .count [.int (c % 5), .int (c / 5 % 10)]) (s1.trans (same_new hp _)) (RowAt.mk upd_same (DtAll.of_ints [c % 5, c / 5 % 10])) trivial (nice_ints _ _ _) (fun t ht => by cases ht)
    -- round
    refine ⟨_, rfl, rfl, _, rfl, ?_⟩
    refine ite2 (fun z => ?_) (fun z7 => ?_)
    · have e := is_word z
      have b := emod_in (a := c / 5) (b := many + 1) (by omega)
      refine ⟨_, rfl, _, rfl, _, rfl, _, _, rfl, rfl, (by show (0 : Int) < 5; decide), _, rfl, _, rfl, _, _, rfl, rfl, ⟨by decide, by decide⟩, _, rfl, _, _, rfl, rfl, _, _, rfl, rfl, (by show 0 < many + 1; omega), (by show 3 ≤ sizeLine; decide), fun p hp => ?_⟩
      rw [e]
      exact q _ _ (.round (c % 5) (c / 5 % (many + 1))) (s1.trans (same_new hp _)) (RowAt.mk upd_same (DtAll.of_ints [c % 5, c / 5 % (many + 1)])) trivial ⟨rfl, by show 0 ≤ 50; decide⟩ (fun t ht => by cases ht; omega)
    -- unless, go
    · obtain ⟨u, e⟩ := nine mem (not_word z1) (not_word z2) (not_word z3) (not_word z4) (not_word z5) (not_word z6) (not_word z7)
      have b := emod_in (a := c) (b := many + 1) (by omega)
      refine ⟨_, rfl, _, rfl, _, rfl, _, _, rfl, rfl, _, _, rfl, rfl, (by show 0 < many + 1; omega), (by show 2 ≤ sizeLine; decide), fun p hp => ?_⟩
      have ew : (Row.jump u 0).word = (Row.jump u (c % (many + 1))).word := by cases u <;> rfl
      rw [e, ew]
      exact q _ _ (.jump u (c % (many + 1))) (s1.trans (same_new hp _)) (RowAt.mk upd_same (DtAll.of_ints [c % (many + 1)])) trivial ⟨rfl, by show 0 ≤ 50; decide⟩ (fun t ht => by cases ht; omega)
end
end K78

/-! K78: _law_rows. -/
namespace K78
open PySem L2

def spRows (K : PySem.W.Frag) : Sp := fun vs H Q _ => ∃ (a : Addr) (ns : List Int) (M : Int), vs = [.ref a, .int M] ∧ SqL K H a (ns.map V.int) ∧ ns.length ≤ 63 ∧ 3 ≤ M ∧ big M ∧
  ∀ p xs rs H', Same H H' → H' p = some (.lst xs) → RowsAt H' xs rs → WF M rs → (∀ r, r ∈ rs → r.nice) → rs.length ≤ 60 → Q (.ref p) H'
theorem goals_push {rs : List Row} (h : ∀ r, r ∈ rs → r.isPush = true) : goals rs = [] := by
  induction rs with
  | nil => rfl
  | cons r rs ih =>
    have e : r.turny = true := by
      have z := h r List.mem_cons_self
      cases r with
      | push n => rfl
      | _ => cases z
    rw [goals_turny e]
    exact ih fun x hx => h x (List.mem_cons_of_mem _ hx)
section
variable {P : Program} {w : World} {K : PySem.W.Frag} {mg : Str → Option Value} {base : Heap} {f : Addr} {fd : FuncData}
theorem scRows : FnScope ["script", "M", "cells", "rows", "cell", "k"] ["script", "M"] (defScope sRows) := ⟨rfl, rfl, rfl, by decide +kernel, rfl, by decide +kernel, by decide +kernel⟩
theorem ok_rows (F : Fun K "_law_rows" "_law_rows" sRows f fd) (T : Txt mg) (O1 : Own P w K mg base 1 "_law_at" ["script", "k"] (spAt K)) (O2 : Own P w K mg base 2 "_law_row" ["M", "cell", "many", "places"] spRow) : FnOk P w K mg base CX0 3 f fd ["script", "M"] (spRows K) := by
  obtain ⟨f1, fd1, G1, m1, kp1, b1⟩ := O1
  obtain ⟨f2, fd2, G2, m2, kp2, b2⟩ := O2
  refine F.ok scRows (fun vs H Q E h => ?_) (fun cdv A outer s H vs Q E hr h => ?_)
  · obtain ⟨a, ns, M, rfl, _⟩ := h
    rfl
  · obtain ⟨a, ns, M, rfl, hS, hl, hM, bM, q⟩ := h
    have hr1 : Room 1 _ := hr.mono (by decide)
    refine ⟨_, (pss_cons (ps_setLc (i := 2) (own := [("k", 5)]) (g := gName 5) (tt := tYes) rfl scRows.nd rfl rfl (sw_true rfl rfl rfl (by decide +kernel)) (pi_range2 rfl T.range (pa_cons pe_int (pa_cons (pe_callB (call_max2 rfl) (by rfl) T.max (by decide +kernel) (pa_cons pe_int (pa_cons (pe_callB (call_min2 rfl) (by rfl) T.min (by decide +kernel) (pa_cons (pe_callB call_len_seq (by rfl) T.len PySem.boot_len (pa_cons (pv 0) pa_nil)) (pa_cons pe_int pa_nil))) pa_nil))) pa_nil))) (blkOk_by (N := ["script", "M", "cells", "rows", "cell", "k"]) (sc := defScope sRows) (by decide +kernel)) (fun _ _ _ _ _ => (pg_name (i := 5) scRows.nd rfl (Or.inl rfl))) (fun _ _ _ _ _ => pts_nil) (fun _ _ _ _ _ => (pe_call G1 hr1 rfl m1 kp1 b1 .nil pass0 (pa_cons (pv 0) (pa_cons (pv 5) pa_nil))))) (pss_cons (ps_setLc (i := 3) (own := [("k", 5)]) (g := gName 5) (tt := tYes) rfl scRows.nd rfl rfl (sw_true rfl rfl rfl (by decide +kernel)) (pi_range1 rfl T.range (pa_cons pe_int pa_nil)) (blkOk_by (N := ["script", "M", "cells", "rows", "cell", "k"]) (sc := defScope sRows) (by decide +kernel)) (fun _ _ _ _ _ => (pg_name (i := 5) scRows.nd rfl (Or.inl rfl))) (fun _ _ _ _ _ => pts_nil) (fun _ _ _ _ _ => (pe_tup (pa_cons pe_str (pa_cons (pe_op op_mod (pe_call G1 hr1 rfl m1 kp1 b1 .nil pass0 (pa_cons (pv 0) (pa_cons (pe_op op_add pe_int (pv 5)) pa_nil))) (pv 1)) pa_nil))))) (pss_cons (ps_for PassesOwn.never rfl (pi_list (pv 2)) (pg_name (i := 4) scRows.nd rfl (Or.inl rfl)) (pss_one (ps_expr (pe_bm PySem.F.plainAttrs_list PySem.F.slot_list_append PySem.F.type_list_append mt_append (pv 3) (pa_cons (pe_call G2 hr rfl m2 kp2 b2 .nil pass0 (pa_cons (pv 1) (pa_cons (pv 4) (pa_cons (pe_op op_add pe_int (pe_callB call_len_seq (by rfl) T.len PySem.boot_len (pa_cons (pv 2) pa_nil))) (pa_cons pe_int pa_nil))))) pa_nil))))) (pss_one (ps_ret (pv 3)))))), ?_⟩
    have hhi : ∀ L : Int, 0 ≤ L → L ≤ 63 → 22 ≤ (if (if (50 : Int) < L then 50 else L) > 22 then (if (50 : Int) < L then 50 else L) else 22) ∧ (if (if (50 : Int) < L then 50 else L) > 22 then (if (50 : Int) < L then 50 else L) else 22) ≤ 50 := fun L h0 h1 => by
      split <;> split <;> omega
    have hL : (((ns.map V.int).length : Nat) : Int) ≤ 63 := by rw [List.length_map]; omega
    have hB := hhi _ (Int.natCast_nonneg _) hL
    -- cells
    refine ⟨_, rfl, a, _, rfl, .inl hS, _, _, rfl, _, _, rfl, _, _, rfl, ?_, fun D hD => ?_⟩
    · generalize (if (if (50 : Int) < (((ns.map V.int).length : Nat) : Int) then 50 else (((ns.map V.int).length : Nat) : Int)) > 22 then (if (50 : Int) < (((ns.map V.int).length : Nat) : Int) then 50 else (((ns.map V.int).length : Nat) : Int)) else 22) = top at hB
      exact ⟨by decide, by decide, by omega, by omega⟩
    refine lc_range (lo := 19) (fun i H' => Same H H' ∧ ∃ cs : List Int, H' D = some (.lst (cs.map V.int)) ∧ cs.length = i) ⟨same_new hD _, [], upd_same, rfl⟩ ?_ ?_
    · rintro i H' hi ⟨s, cs, hcs, hlen⟩
      have hi31 : i < 31 := by omega
      refine ⟨rfl, ?_⟩
      refine ⟨_, rfl, _, rfl, a, ns, 19 + (i : Int), rfl, s.seq hS, hl, by omega, by omega, fun z => ⟨_, hcs, by rw [List.length_map]; exact small1000 (by omega), same_upd hD s _, cs ++ [z], ?_, by rw [List.length_append, hlen]; rfl⟩⟩
      rw [upd_same, List.map_append]
      rfl
    rintro Hc ⟨sc, cs, hcs, hlen⟩
    have hc31 : cs.length ≤ 31 := by omega
    -- rows
    refine ⟨6, rfl, by decide, by decide, fun D2 hD2 => ?_⟩
    refine lc_range (lo := 0) (n := 6) (fun i H' => Same Hc H' ∧ ∃ xs rs, H' D2 = some (.lst xs) ∧ RowsAt H' xs rs ∧ rs.length = i ∧ ∀ r, r ∈ rs → r.isPush = true ∧ r.on M) ⟨same_new hD2 _, [], [], upd_same, .nil, rfl, fun r h => by cases h⟩ ?_ ?_
    · rintro i H' hi ⟨s, xs, rs, hxs, hrs, hn, hg⟩
      refine ⟨rfl, ?_⟩
      refine ⟨_, rfl, _, rfl, _, _, rfl, rfl, a, ns, 13 + (0 + (i : Int)), rfl, (sc.trans s).seq hS, hl, by omega, by omega, fun z => ⟨_, rfl, _, _, rfl, rfl, (by show 0 < M; omega), (by show 2 ≤ sizeLine; decide), fun p hp => ?_⟩⟩
      have s2 := same_new hp (.tup [.str "push", .int (z % M)])
      have hx2 := s2 _ _ hxs
      have t3 := TS.lst (o := .lst (xs ++ [.ref p])) hx2
      refine ⟨xs, hx2, by rw [hrs.len]; exact small1000 (by omega), same_upd hD2 (s.trans s2) _, _, rs ++ [.push (z % M)], upd_same, ?_, by rw [List.length_append, hn]; rfl, fun r hr => ?_⟩
      · have hp2 : RowAt (upd H' p (.tup [.str "push", .int (z % M)])) (.ref p) (.push (z % M)) := RowAt.mk upd_same (DtAll.of_ints [z % M])
        exact Paired.snoc ((hrs.mono (TS.of s2)).mono t3) (hp2.mono t3)
      · rcases List.mem_append.mp hr with h | h
        · exact hg r h
        · rw [List.mem_singleton.mp h]
          exact ⟨rfl, emod_in (by omega)⟩
    rintro H2 ⟨s2, xs, rs, hxs, hrs, hn, hg⟩
    have g0 : goals rs = [] := goals_push fun r h => (hg r h).1
    -- for cell in cells
    refine ⟨_, rfl, D, rfl, ⟨_, SqL.of (s2 _ _ hcs)⟩, for_list (K := K) (a := D) (xs := cs.map V.int) (fun i σ H' => ∃ v4 : Option V, σ = [some (.ref a), some (.int M), some (.ref D), some (.ref D2), v4, none] ∧ Same Hc H' ∧ ∃ xs rs, H' D2 = some (.lst xs) ∧ RowsAt H' xs rs ∧ rs.length = 6 + i ∧
        ∀ r, r ∈ rs → r.on M ∧ r.nice ∧ ∀ t, r.goal? = some t → 0 ≤ t ∧ t ≤ 6 + (cs.length : Int))
      ⟨none, rfl, s2, xs, rs, hxs, hrs, by omega, fun r h => ⟨(hg r h).2, ?_, fun t ht => ?_⟩⟩ (fun i σ H' _ ⟨_, _, s, _⟩ => SqL.of (s _ _ hcs)) ?_ ?_⟩
    · have z := (hg r h).1
      cases r with
      | push n => exact nice_turny rfl
      | _ => cases z
    · have z : t ∈ goals rs := List.mem_filterMap.mpr ⟨r, h, ht⟩
      rw [g0] at z
      cases z
    · rintro i x σ H3 hi ⟨v4, rfl, s3, xs, rs, hxs, hrs, hn, hg⟩
      obtain ⟨c, rfl⟩ : ∃ c, x = V.int c := by
        rw [List.getElem?_map] at hi
        cases e : cs[i]? with
        | none => rw [e] at hi; cases hi
        | some c => rw [e] at hi; exact ⟨c, (Option.some.inj hi).symm⟩
      have hi1 : i < cs.length := by
        have z := (List.getElem?_eq_some_iff.mp hi).1
        rw [List.length_map] at z
        exact z
      refine ⟨_, rfl, .inl ⟨rfl, _, SqL.of hxs⟩, _, rfl, _, rfl, _, rfl, D, _, rfl, .inl (SqL.of (s3 _ _ hcs)), _, _, rfl, rfl, M, c, _, rfl, hM, ?_, fun v H4 r s4 hv on nice gl => ?_⟩
      · rw [List.length_map]; omega
      · rw [List.length_map] at gl
        have hx4 := s4 _ _ hxs
        have t5 := TS.lst (o := .lst (xs ++ [v])) hx4
        refine ⟨D2, xs, v, rfl, rfl, hx4, by rw [hrs.len]; exact small1000 (by omega), _, rfl, same_upd hD2 (s3.trans s4) _, _, rs ++ [r], upd_same, Paired.snoc ((hrs.mono (TS.of s4)).mono t5) (hv.mono t5), by rw [List.length_append, hn]; rfl, fun r' hr' => ?_⟩
        rcases List.mem_append.mp hr' with h | h
        · exact hg r' h
        · rw [List.mem_singleton.mp h]
          exact ⟨on, nice, gl⟩
    · rintro σ H3 ⟨v4, rfl, s3, xs, rs, hxs, hrs, hn, hg⟩
      rw [List.length_map] at hn
      refine ⟨_, rfl, q D2 xs rs H3 (sc.trans s3) hxs hrs ⟨fun r h => (hg r h).1, fun t ht => ?_⟩ (fun r h => (hg r h).2.1) (by omega)⟩
      obtain ⟨r, hr, e⟩ := List.mem_filterMap.mp ht
      have z := (hg r hr).2.2 t e
      rw [hn]
      omega
end
end K78

/-! K78: _law_goals, _law_led_on, _law_spots. -/
namespace K78
open PySem L2

def spGoals (K : PySem.W.Frag) : Sp := fun vs H Q _ => ∃ (a : Addr) (xs : List V) (rs : List Row), vs = [.ref a] ∧ SqL K H a xs ∧ RowsAt H xs rs ∧ rs.length ≤ 100 ∧
  ∀ p H', Same H H' → H' p = some (.lst ((goals rs).map V.int)) → Q (.ref p) H'
def spLedOn : Sp := fun vs H Q _ => ∃ (v : V) (k : Nat) (r : Row), vs = [v, .int (k : Int)] ∧ RowAt H v r ∧ ∀ x H', Same H H' → RowAt H' x (r.re (led k)) → Q x H'
def SpotAt (H : Hp) (v : V) (p : Nat × Bool) : Prop := ∃ b, v = .ref b ∧ H b = some (.tup [.int (p.1 : Int), .bl p.2])
theorem SpotAt.mono {H H' : Hp} (t : TS H H') {v : V} {p : Nat × Bool} (h : SpotAt H v p) : SpotAt H' v p := by
  obtain ⟨b, e, hb⟩ := h
  exact ⟨b, e, t _ _ hb⟩
def spSpots (K : PySem.W.Frag) : Sp := fun vs H Q _ => ∃ (a : Addr) (xs : List V) (rs : List Row), vs = [.ref a] ∧ SqL K H a xs ∧ RowsAt H xs rs ∧ (∀ r, r ∈ rs → r.nice) ∧ rs.length ≤ 100 ∧
  ∀ p ys H', Same H H' → H' p = some (.lst ys) → Paired (SpotAt H') ys (spots rs) → Q (.ref p) H'

theorem led_eq (k : Nat) (t : Int) : t - (if decide ((k : Int) < t) = true then (1 : Int) else 0) = led k t := by
  unfold led
  by_cases h : (k : Int) < t
  · rw [decide_eq_true h, if_pos rfl, if_pos h]
  · rw [decide_eq_false h, if_neg Bool.false_ne_true, if_neg h, Int.sub_zero]
theorem flat_ints (gs : List Int) : (gs.map V.int).all flatV = true := by
  rw [List.all_map]
  exact List.all_eq_true.mpr fun _ _ => rfl
theorem in_ints (k : Int) : ∀ gs : List Int, inV (.int k) (gs.map V.int) = decide (k ∈ gs)
  | [] => rfl
  | g :: gs => by
    show ((g == k) || inV (.int k) (gs.map V.int)) = decide (k ∈ g :: gs)
    rw [in_ints k gs]
    by_cases h : g = k
    · subst h
      rw [beq_self_eq_true, Bool.true_or, decide_eq_true List.mem_cons_self]
    · rw [beq_eq_false_iff_ne.mpr h, Bool.false_or]
      refine decide_eq_decide.mpr ⟨fun m => List.mem_cons_of_mem _ m, fun m => ?_⟩
      rcases List.mem_cons.mp m with e | e
      · exact absurd e.symm h
      · exact e
theorem goals_len : ∀ rs : List Row, (goals rs).length ≤ rs.length := fun rs => List.length_filterMap_le _ _

section
variable {P : Program} {w : World} {K : PySem.W.Frag} {mg : Str → Option Value} {base : Heap} {f : Addr} {fd : FuncData}
theorem scGoals : FnScope ["rows", "out", "row"] ["rows"] (defScope sGoals) := ⟨rfl, rfl, rfl, by decide +kernel, rfl, by decide +kernel, by decide +kernel⟩
theorem ok_goals (F : Fun K "_law_goals" "_law_goals" sGoals f fd) : FnOk P w K mg base CX0 1 f fd ["rows"] (spGoals K) := by
  refine F.ok scGoals (fun vs H Q E h => ?_) (fun cdv A outer s H vs Q E hr h => ?_)
  · obtain ⟨a, xs, rs, rfl, _⟩ := h
    rfl
  · obtain ⟨a, xs, rs, rfl, hS, hR, hl, q⟩ := h
    refine ⟨_, (pss_cons (ps_set (i := 1) scGoals.nd rfl (Or.inl rfl) (pe_lst pa_nil)) (pss_cons (ps_for PassesOwn.never rfl (pi_list (pv 0)) (pg_name (i := 2) scGoals.nd rfl (Or.inl rfl)) (pss_one (ps_if (PW.pt (pw_or (pt_cmpR op_eq (pe_ix ix_tup (pv 2) pe_int (fun _ _ => rfl)) pe_str (nomark _)) (pw_or (pt_cmpR op_eq (pe_ix ix_tup (pv 2) pe_int (fun _ _ => rfl)) pe_str (nomark _)) (pw_or1 (pt_cmpR op_eq (pe_ix ix_tup (pv 2) pe_int (fun _ _ => rfl)) pe_str (nomark _)))))) (pss_one (ps_expr (pe_bm PySem.F.plainAttrs_list PySem.F.slot_list_append PySem.F.type_list_append mt_append (pv 1) (pa_cons (pe_ix ix_tup (pv 2) (pe_un un_neg pe_int) (fun _ _ => rfl)) pa_nil)))) pss_nil))) (pss_one (ps_ret (pv 1))))), ?_⟩
    refine ⟨Nat.zero_le _, fun p hp => ?_⟩
    refine ⟨_, rfl, a, rfl, ⟨_, (same_new hp _).seq hS⟩, for_list (K := K) (a := a) (xs := xs) (fun i σ H' => ∃ v : Option V, σ = [some (.ref a), some (.ref p), v] ∧ Same H H' ∧ H' p = some (.lst ((goals (rs.take i)).map V.int)))
      ⟨none, rfl, same_new hp _, upd_same⟩ (fun i σ H' _ ⟨_, _, s, _⟩ => s.seq hS) ?_ ?_⟩
    · rintro i v σ H' hi ⟨v2, rfl, s, hd⟩
      obtain ⟨r, hr0, hv0⟩ := pd_get hR hi
      have hv : RowAt H' v r := hv0.mono (TS.of s)
      have hi1 : i < rs.length := (List.getElem?_eq_some_iff.mp hr0).1
      obtain ⟨b, ys, rfl, hb, hys⟩ := hv.inv
      have hsz : ((goals (rs.take i)).map V.int).length < sizeLine := by
        rw [List.length_map]
        have z := goals_len (rs.take i)
        rw [List.length_take] at z
        exact small1000 (by omega)
      have fin : ∀ {t : Int}, r.goal? = some t → (upd H' p (.lst ((goals (rs.take i)).map V.int ++ [.int t]))) p = some (.lst ((goals (rs.take (i + 1))).map V.int)) := fun {t} e => by
        rw [upd_same, goals_take1 hr0 e, List.map_append]
        rfl
      refine ⟨_, rfl, b, _, _, _, rfl, rfl, SqT.of hb, at0, rfl, _, rfl, ?_⟩
      rw [w_unless]
      cases r with
      | jump u t =>
        obtain ⟨b', e', hb'⟩ := hv.jump
        cases e'
        cases u with
        | true =>
          refine iteT ?_
          exact ⟨_, rfl, .inl ⟨rfl, _, SqL.of hd⟩, _, rfl, _, rfl, b, _, _, _, rfl, rfl, SqT.of hb', rfl, p, _, _, rfl, rfl, hd, hsz, _, rfl, same_upd hp s _, fin rfl⟩
        | false =>
          refine iteF ?_
          refine ⟨_, rfl, b, _, _, _, rfl, rfl, SqT.of hb, at0, rfl, _, rfl, ?_⟩
          rw [w_go]
          refine iteT ?_
          exact ⟨_, rfl, .inl ⟨rfl, _, SqL.of hd⟩, _, rfl, _, rfl, b, _, _, _, rfl, rfl, SqT.of hb', rfl, p, _, _, rfl, rfl, hd, hsz, _, rfl, same_upd hp s _, fin rfl⟩
      | round j t =>
        obtain ⟨b', e', hb'⟩ := hv.round
        cases e'
        refine iteF ?_
        refine ⟨_, rfl, b, _, _, _, rfl, rfl, SqT.of hb, at0, rfl, _, rfl, ?_⟩
        rw [w_go]
        refine iteF ?_
        refine ⟨_, rfl, b, _, _, _, rfl, rfl, SqT.of hb, at0, rfl, _, rfl, ?_⟩
        rw [w_round]
        refine iteT ?_
        exact ⟨_, rfl, .inl ⟨rfl, _, SqL.of hd⟩, _, rfl, _, rfl, b, _, _, _, rfl, rfl, SqT.of hb', rfl, p, _, _, rfl, rfl, hd, hsz, _, rfl, same_upd hp s _, fin rfl⟩
      | _ =>
        refine iteF ?_
        refine ⟨_, rfl, b, _, _, _, rfl, rfl, SqT.of hb, at0, rfl, _, rfl, ?_⟩
        rw [w_go]
        refine iteF ?_
        refine ⟨_, rfl, b, _, _, _, rfl, rfl, SqT.of hb, at0, rfl, _, rfl, ?_⟩
        rw [w_round]
        refine iteF ?_
        exact ⟨_, rfl, s, by rw [goals_take0 hr0 rfl]; exact hd⟩
    · rintro σ H' ⟨v2, rfl, s, hd⟩
      rw [hR.len, List.take_length] at hd
      exact ⟨_, rfl, q p H' s hd⟩
theorem scLedOn : FnScope ["row", "at"] ["row", "at"] (defScope sLedOn) := ⟨rfl, rfl, rfl, by decide +kernel, rfl, by decide +kernel, by decide +kernel⟩
theorem ok_ledOn (F : Fun K "_law_led_on" "_law_led_on" sLedOn f fd) (T : Txt mg) : FnOk P w K mg base CX0 1 f fd ["row", "at"] spLedOn := by
  refine F.ok scLedOn (fun vs H Q E h => ?_) (fun cdv A outer s H vs Q E hr h => ?_)
  · obtain ⟨v, k, r, rfl, _⟩ := h
    rfl
  · obtain ⟨v, k, r, rfl, hv, q⟩ := h
    refine ⟨_, (pss_cons (ps_if (PW.pt (pw_or (pt_cmpR op_eq (pe_ix ix_tup (pv 0) pe_int (fun _ _ => rfl)) pe_str (nomark _)) (pw_or (pt_cmpR op_eq (pe_ix ix_tup (pv 0) pe_int (fun _ _ => rfl)) pe_str (nomark _)) (pw_or1 (pt_cmpR op_eq (pe_ix ix_tup (pv 0) pe_int (fun _ _ => rfl)) pe_str (nomark _)))))) (pss_one (ps_ret (pe_op op_catT (pe_slice sl_tup (pv 0) po_none (po_some (pe_un un_neg pe_int))) (pe_tup (pa_cons (pe_op op_sub (pe_ix ix_tup (pv 0) (pe_un un_neg pe_int) (fun _ _ => rfl)) (pe_callTy call_int1 (by rfl) T.int (by decide +kernel) (pa_cons (pe_cmpR op_gt (pe_ix ix_tup (pv 0) (pe_un un_neg pe_int) (fun _ _ => rfl)) (pv 1) (nomark _)) pa_nil))) pa_nil))))) pss_nil) (pss_one (ps_ret (pv 0)))), ?_⟩
    obtain ⟨a, ys, rfl, ha, hys⟩ := hv.inv
    refine ⟨_, rfl, a, _, _, _, rfl, rfl, SqT.of ha, at0, rfl, _, rfl, ?_⟩
    rw [w_unless]
    cases r with
    | jump u t =>
      obtain ⟨a', e', ha'⟩ := hv.jump
      cases e'
      have fin : ∀ p1 p2 p3 : Addr, H p1 = none → (upd H p1 (.tup [.str (Row.jump u t).word])) p2 = none → (upd (upd H p1 (.tup [.str (Row.jump u t).word])) p2 (.tup [.int (t - (if decide ((k : Int) < t) = true then (1 : Int) else 0))])) p3 = none →
          Q (.ref p3) (upd (upd (upd H p1 (.tup [.str (Row.jump u t).word])) p2 (.tup [.int (t - (if decide ((k : Int) < t) = true then (1 : Int) else 0))])) p3 (.tup ([.str (Row.jump u t).word] ++ [.int (t - (if decide ((k : Int) < t) = true then (1 : Int) else 0))]))) := fun p1 p2 p3 h1 h2 h3 => by
        rw [led_eq] at h3 ⊢
        have ew : (Row.jump u (led k t)).word = (Row.jump u t).word := by cases u <;> rfl
        refine q _ _ (((same_new h1 _).trans (same_new h2 _)).trans (same_new h3 _)) (RowAt.mk (r := .jump u (led k t)) (ys := [.int (led k t)]) ?_ (DtAll.of_ints [led k t]))
        rw [ew]
        exact upd_same
      cases u with
      | true =>
        refine iteT ?_
        refine ⟨_, rfl, _, rfl, _, rfl, a, _, rfl, SqT.of ha', (fun z => absurd z.2 (by show ¬ ((1 : Nat) = 2); decide)), fun p1 h1 => ?_⟩
        have ha1 := same_new h1 (.tup [.str (Row.jump true t).word]) _ _ ha'
        refine ⟨_, rfl, _, rfl, a, _, _, _, rfl, rfl, SqT.of ha1, rfl, _, rfl, _, rfl, a, _, _, _, rfl, rfl, SqT.of ha1, rfl, _, rfl, _, _, rfl, rfl, .inr ⟨_, rfl, _, _, rfl, rfl, (by show 1 ≤ sizeLine; decide), fun p2 h2 => ?_⟩⟩
        exact ⟨p1, p2, _, _, rfl, rfl, SqT.of (same_new h2 _ _ _ upd_same), SqT.of upd_same, (by intro z; cases z), (by show 2 ≤ sizeLine; decide), (fun z => by cases z), fun _ p3 h3 => fin p1 p2 p3 h1 h2 h3⟩
      | false =>
        refine iteF ?_
        refine ⟨_, rfl, a, _, _, _, rfl, rfl, SqT.of ha, at0, rfl, _, rfl, ?_⟩
        rw [w_go]
        refine iteT ?_
        refine ⟨_, rfl, _, rfl, _, rfl, a, _, rfl, SqT.of ha', (fun z => absurd z.2 (by show ¬ ((1 : Nat) = 2); decide)), fun p1 h1 => ?_⟩
        have ha1 := same_new h1 (.tup [.str (Row.jump false t).word]) _ _ ha'
        refine ⟨_, rfl, _, rfl, a, _, _, _, rfl, rfl, SqT.of ha1, rfl, _, rfl, _, rfl, a, _, _, _, rfl, rfl, SqT.of ha1, rfl, _, rfl, _, _, rfl, rfl, .inr ⟨_, rfl, _, _, rfl, rfl, (by show 1 ≤ sizeLine; decide), fun p2 h2 => ?_⟩⟩
        exact ⟨p1, p2, _, _, rfl, rfl, SqT.of (same_new h2 _ _ _ upd_same), SqT.of upd_same, (by intro z; cases z), (by show 2 ≤ sizeLine; decide), (fun z => by cases z), fun _ p3 h3 => fin p1 p2 p3 h1 h2 h3⟩
    | round j t =>
      obtain ⟨a', e', ha'⟩ := hv.round
      cases e'
      refine iteF ?_
      refine ⟨_, rfl, a, _, _, _, rfl, rfl, SqT.of ha, at0, rfl, _, rfl, ?_⟩
      rw [w_go]
      refine iteF ?_
      refine ⟨_, rfl, a, _, _, _, rfl, rfl, SqT.of ha, at0, rfl, _, rfl, ?_⟩
      rw [w_round]
      refine iteT ?_
      refine ⟨_, rfl, _, rfl, _, rfl, a, _, rfl, SqT.of ha', (fun z => absurd z.2 (by show ¬ ((2 : Nat) = 3); decide)), fun p1 h1 => ?_⟩
      have ha1 := same_new h1 (.tup [.str "round", .int j]) _ _ ha'
      refine ⟨_, rfl, _, rfl, a, _, _, _, rfl, rfl, SqT.of ha1, rfl, _, rfl, _, rfl, a, _, _, _, rfl, rfl, SqT.of ha1, rfl, _, rfl, _, _, rfl, rfl, .inr ⟨_, rfl, _, _, rfl, rfl, (by show 1 ≤ sizeLine; decide), fun p2 h2 => ?_⟩⟩
      refine ⟨p1, p2, _, _, rfl, rfl, SqT.of (same_new h2 _ _ _ upd_same), SqT.of upd_same, (by intro z; cases z), (by show 3 ≤ sizeLine; decide), (fun z => by cases z), fun _ p3 h3 => ?_⟩
      have s3 := ((same_new h1 (.tup [.str "round", .int j])).trans (same_new h2 _)).trans (same_new h3 (.tup ([.str "round", .int j] ++ [.int (t - (if decide ((k : Int) < t) = true then (1 : Int) else 0))])))
      refine q _ _ s3 (RowAt.mk (r := .round j (led k t)) (ys := [.int j, .int (led k t)]) ?_ (DtAll.of_ints [j, led k t]))
      rw [← led_eq]
      exact upd_same
    | _ =>
      refine iteF ?_
      refine ⟨_, rfl, a, _, _, _, rfl, rfl, SqT.of ha, at0, rfl, _, rfl, ?_⟩
      rw [w_go]
      refine iteF ?_
      refine ⟨_, rfl, a, _, _, _, rfl, rfl, SqT.of ha, at0, rfl, _, rfl, ?_⟩
      rw [w_round]
      refine iteF ?_
      exact ⟨_, rfl, q _ _ (Same.refl _) hv⟩
end
end K78

/-! K78: _law_spots. -/
namespace K78
open PySem L2

section
variable {P : Program} {w : World} {K : PySem.W.Frag} {mg : Str → Option Value} {base : Heap} {f : Addr} {fd : FuncData}
theorem scSpots : FnScope ["rows", "goals", "out", "at"] ["rows"] (defScope sSpots) := ⟨rfl, rfl, rfl, by decide +kernel, rfl, by decide +kernel, by decide +kernel⟩
theorem ok_spots (F : Fun K "_law_spots" "_law_spots" sSpots f fd) (T : Txt mg) (O : Own P w K mg base 1 "_law_goals" ["rows"] (spGoals K)) : FnOk P w K mg base CX0 2 f fd ["rows"] (spSpots K) := by
  obtain ⟨f1, fd1, G1, m1, kp1, b1⟩ := O
  refine F.ok scSpots (fun vs H Q E h => ?_) (fun cdv A outer s H vs Q E hr h => ?_)
  · obtain ⟨a, xs, rs, rfl, _⟩ := h
    rfl
  · obtain ⟨a, xs, rs, rfl, hS, hR, hnice, hl, q⟩ := h
    refine ⟨_, (pss_cons (ps_set (i := 1) scSpots.nd rfl (Or.inl rfl) (pe_call G1 hr rfl m1 kp1 b1 .nil pass0 (pa_cons (pv 0) pa_nil))) (pss_cons (ps_set (i := 2) scSpots.nd rfl (Or.inl rfl) (pe_lst pa_nil)) (pss_cons (ps_for PassesOwn.never rfl (pi_range1 rfl T.range (pa_cons (pe_callB call_len_seq (by rfl) T.len PySem.boot_len (pa_cons (pv 0) pa_nil)) pa_nil)) (pg_name (i := 3) scSpots.nd rfl (Or.inl rfl)) (C8.pss_cut (ps_if (pt_cmpR (op_eqD hr.units) (pe_ix ix_list (pv 0) (pv 3) (fun _ _ => rfl)) (pe_tup (pa_cons pe_str (pa_cons pe_int (pa_cons pe_int pa_nil)))) (nomark _)) (pss_one (ps_expr (pe_bm PySem.F.plainAttrs_list PySem.F.slot_list_append PySem.F.type_list_append mt_append (pv 2) (pa_cons (pe_tup (pa_cons (pv 3) (pa_cons pe_bl pa_nil))) pa_nil)))) pss_nil) (pss_one (ps_if (PW.pt (pw_and (pt_cmpR op_eq (pe_ix ix_tup (pe_ix ix_list (pv 0) (pv 3) (fun _ _ => rfl)) pe_int (fun _ _ => rfl)) pe_str (nomark _)) (pw_and (pt_cmpR op_gt (pv 3) pe_int (nomark _)) (pw_and (pt_cmpR op_notIn_seq (pv 3) (pv 1) (by rfl)) (pw_and1 (pt_cmpR op_in_seq (pe_ix ix_tup (pe_ix ix_list (pv 0) (pe_op op_sub (pv 3) pe_int) (fun _ _ => rfl)) pe_int (fun _ _ => rfl)) (pe_tup (pa_cons pe_str (pa_cons pe_str pa_nil))) (by rfl))))))) (pss_one (ps_expr (pe_bm PySem.F.plainAttrs_list PySem.F.slot_list_append PySem.F.type_list_append mt_append (pv 2) (pa_cons (pe_tup (pa_cons (pv 3) (pa_cons pe_bl pa_nil))) pa_nil)))) pss_nil)))) (pss_one (ps_ret (pv 2)))))), ?_⟩
    refine ⟨_, rfl, a, xs, rs, rfl, hS, hR, hl, fun g H1 s1 hg => ?_⟩
    refine ⟨Nat.zero_le _, fun o ho => ?_⟩
    have hlx := hR.len
    refine ⟨_, rfl, a, _, rfl, .inl ((s1.trans (same_new ho _)).seq hS), _, rfl, by omega, by omega, for_range (lo := 0) (fun i σ H' => ∃ v : Option V, σ = [some (.ref a), some (.ref g), some (.ref o), v] ∧ Same H1 H' ∧ ∃ ys, H' o = some (.lst ys) ∧ Paired (SpotAt H') ys ((List.range i).flatMap (spotsAt (goals rs) rs)) ∧ ys.length ≤ 2 * i)
      ⟨none, rfl, same_new ho _, [], upd_same, .nil, Nat.le_refl _⟩ ?_ ?_⟩
    · rintro i σ H2 hi ⟨v, rfl, s2, ys, hys, hsp, hyl⟩
      have hi1 : i < rs.length := by omega
      have er : rs[i]? = some rs[i] := List.getElem?_eq_getElem hi1
      generalize rs[i] = r at er
      obtain ⟨x, ex, hx0⟩ := pd_get' hR er
      have hmem : r ∈ rs := List.mem_of_getElem? er
      have e0 : (0 : Int) + (i : Int) = (i : Int) := Int.zero_add _
      rw [e0]
      have hx : RowAt H2 x r := hx0.mono (TS.of (s1.trans s2))
      have hS2 := (s1.trans s2).seq hS
      have g2 := s2 _ _ hg
      have sz : ys.length < sizeLine := small1000 (by omega)
      have atx : atI xs (i : Int) = some x := atI_nat ex
      have esp : spotsAt (goals rs) rs i = (if r.idle = true then [(i, false)] else []) ++ (if r.isTurn = true ∧ 0 < i ∧ ((i : Int) ∉ goals rs) ∧ ((rs[i - 1]?.map Row.turny) = some true) then [(i, true)] else []) := by
        unfold spotsAt
        rw [er]
      -- a spot is put behind
      have more : ∀ (H3 : Hp) (zs : List V) (ps : List (Nat × Bool)) (p : Addr) (b : Bool), Same H1 H3 → H3 o = some (.lst zs) → Paired (SpotAt H3) zs ps → H3 p = none →
          Same H1 (upd (upd H3 p (.tup [.int (i : Int), .bl b])) o (.lst (zs ++ [.ref p]))) ∧ (upd (upd H3 p (.tup [.int (i : Int), .bl b])) o (.lst (zs ++ [.ref p]))) o = some (.lst (zs ++ [.ref p])) ∧
            Paired (SpotAt (upd (upd H3 p (.tup [.int (i : Int), .bl b])) o (.lst (zs ++ [.ref p])))) (zs ++ [.ref p]) (ps ++ [(i, b)]) := fun H3 zs ps p b q1 q2 q3 q4 => by
        have s4 := same_new q4 (.tup [.int (i : Int), .bl b])
        have t5 := TS.lst (o := .lst (zs ++ [.ref p])) (s4 _ _ q2)
        refine ⟨same_upd ho (q1.trans s4) _, upd_same, Paired.snoc (Paired.mapP q3 fun _ _ z => (z.mono (TS.of s4)).mono t5) (SpotAt.mono t5 ⟨p, rfl, upd_same⟩)⟩
      refine ⟨fun σ' H' => σ' = [some (.ref a), some (.ref g), some (.ref o), some (.int (i : Int))] ∧ Same H1 H' ∧ ∃ zs, H' o = some (.lst zs) ∧ Paired (SpotAt H') zs ((List.range i).flatMap (spotsAt (goals rs) rs) ++ (if r.idle = true then [(i, false)] else [])) ∧ zs.length ≤ 2 * i + 1, ?_, ?_⟩
      · -- if rows[at] == ('turn', 1, 0): out.append((at, False))
        refine ⟨_, rfl, _, rfl, a, _, _, _, rfl, rfl, hS2, atx, (by show 3 ≤ sizeLine; decide), fun p hp => ?_⟩
        have s3 := same_new hp (.tup [.str "turn", .int 1, .int 0])
        have d1 : Dt (upd H2 p (.tup [.str "turn", .int 1, .int 0])) (.ref p) (.tuple [.str "turn", .int 1, .int 0]) := .tup upd_same (.cons (.str _) (.cons (.int _) (.cons (.int _) .nil)))
        refine ⟨_, _, (hx.mono (TS.of s3)).dp, d1.dp, shaped_row (hnice r hmem), shaped_idle, _, rfl, ?_⟩
        rw [eqv_idle]
        have hy3 := s3 _ _ hys
        have hsp3 := Paired.mapP hsp fun _ _ z => z.mono (TS.of s3)
        cases hid : r.idle with
        | true =>
          refine iteT ?_
          refine ⟨_, rfl, .inl ⟨rfl, _, SqL.of hy3⟩, _, rfl, (by show 2 ≤ sizeLine; decide), fun p2 hp2 => ?_⟩
          obtain ⟨q1, q2, q3⟩ := more _ ys _ p2 false (s2.trans s3) hy3 hsp3 hp2
          refine ⟨o, ys, _, rfl, rfl, same_new hp2 _ _ _ hy3, sz, rfl, q1, _, q2, ?_, by rw [List.length_append]; show ys.length + 1 ≤ _; omega⟩
          rw [if_pos rfl]
          exact q3
        | false =>
          refine iteF ?_
          refine ⟨rfl, s2.trans s3, ys, hy3, ?_, by omega⟩
          rw [if_neg Bool.false_ne_true, List.append_nil]
          exact hsp3
      · rintro σ' H3 ⟨rfl, s3, zs, hzs, hsp3, hzl⟩
        have hS3 := (s1.trans s3).seq hS
        have hx3 : RowAt H3 x r := hx0.mono (TS.of (s1.trans s3))
        obtain ⟨b, ws, rfl, hb, hws⟩ := hx3.inv
        have g3 := s3 _ _ hg
        have sz3 : zs.length < sizeLine := small1000 (by omega)
        have fin : ∀ (H4 : Hp) (us : List V), Same H1 H4 → H4 o = some (.lst us) → us.length ≤ 2 * (i + 1) → Paired (SpotAt H4) us (((List.range i).flatMap (spotsAt (goals rs) rs) ++ (if r.idle = true then [(i, false)] else [])) ++ (if r.isTurn = true ∧ 0 < i ∧ ((i : Int) ∉ goals rs) ∧ ((rs[i - 1]?.map Row.turny) = some true) then [(i, true)] else [])) →
            ∃ v : Option V, [some (.ref a), some (.ref g), some (.ref o), some (.int (i : Int))] = [some (V.ref a), some (V.ref g), some (V.ref o), v] ∧ Same H1 H4 ∧ ∃ ys, H4 o = some (.lst ys) ∧ Paired (SpotAt H4) ys ((List.range (i + 1)).flatMap (spotsAt (goals rs) rs)) ∧ ys.length ≤ 2 * (i + 1) := fun H4 us q1 q2 q3 q4 => by
          refine ⟨_, rfl, q1, us, q2, ?_, q3⟩
          rw [List.range_succ, List.flatMap_append]
          have e1 : [i].flatMap (spotsAt (goals rs) rs) = spotsAt (goals rs) rs i := by
            rw [List.flatMap_cons, List.flatMap_nil, List.append_nil]
          rw [e1, esp, ← List.append_assoc]
          exact q4
        have no : ∀ H4, Same H3 H4 → ¬ (r.isTurn = true ∧ 0 < i ∧ ((i : Int) ∉ goals rs) ∧ ((rs[i - 1]?.map Row.turny) = some true)) →
            ∃ v : Option V, [some (.ref a), some (.ref g), some (.ref o), some (.int (i : Int))] = [some (V.ref a), some (V.ref g), some (V.ref o), v] ∧ Same H1 H4 ∧ ∃ ys, H4 o = some (.lst ys) ∧ Paired (SpotAt H4) ys ((List.range (i + 1)).flatMap (spotsAt (goals rs) rs)) ∧ ys.length ≤ 2 * (i + 1) := fun H4 s4 hn => by
          refine fin H4 zs (s3.trans s4) (s4 _ _ hzs) (by omega) ?_
          rw [if_neg hn, List.append_nil]
          exact Paired.mapP hsp3 fun _ _ z => z.mono (TS.of s4)
        -- rows[at][0] == 'turn'
        refine ⟨_, rfl, _, rfl, a, _, _, _, rfl, rfl, hS3, atx, b, _, _, _, rfl, rfl, SqT.of hb, at0, rfl, _, rfl, ?_⟩
        rw [w_turn]
        cases ht : r.isTurn with
        | false =>
          refine iteF ?_
          exact no H3 (Same.refl _) (by rw [ht]; intro z; cases z.1)
        | true =>
          refine iteT ?_
          -- at > 0
          refine ⟨_, rfl, _, _, rfl, rfl, _, rfl, ?_⟩
          refine ite2 (fun c => ?_) (fun c => ?_)
          · have hpos : 0 < i := by
              have z := of_decide_eq_true c
              omega
            -- at not in goals
            refine ⟨_, rfl, _, rfl, g, _, rfl, .inl (SqL.of g3), rfl, flat_ints _, _, rfl, ?_⟩
            show if (!inV (.int (i : Int)) ((goals rs).map V.int)) = true then _ else _
            rw [in_ints]
            by_cases hg' : (i : Int) ∈ goals rs
            · rw [decide_eq_true hg']
              refine iteF ?_
              exact no H3 (Same.refl _) fun z => z.2.2.1 hg'
            · rw [decide_eq_false hg']
              refine iteT ?_
              -- rows[at - 1][0] in ('push', 'turn')
              have er1 : rs[i - 1]? = some rs[i - 1] := List.getElem?_eq_getElem (by omega)
              generalize rs[i - 1] = l at er1
              obtain ⟨x1, ex1, hx10⟩ := pd_get' hR er1
              have hl3 : RowAt H3 x1 l := hx10.mono (TS.of (s1.trans s3))
              obtain ⟨b1', ws1, rfl, hb1, hws1⟩ := hl3.inv
              refine ⟨_, rfl, _, rfl, _, _, rfl, rfl, a, _, _, _, rfl, rfl, hS3, at_of (j := i - 1) (by omega) ex1, b1', _, _, _, rfl, rfl, SqT.of hb1, at0, (by show 2 ≤ sizeLine; decide), fun p hp => ?_⟩
              have s4 := same_new hp (.tup [.str "push", .str "turn"])
              refine ⟨p, _, rfl, .inr (SqT.of upd_same), rfl, rfl, _, rfl, ?_⟩
              show if inV (.str l.word) [.str "push", .str "turn"] = true then _ else _
              rw [in_turny]
              cases hlt : l.turny with
              | false =>
                refine iteF ?_
                refine no _ s4 fun z => ?_
                have z2 := z.2.2.2
                rw [er1] at z2
                have z3 : l.turny = true := Option.some.inj z2
                rw [hlt] at z3
                cases z3
              | true =>
                refine iteT ?_
                have hz4 := s4 _ _ hzs
                refine ⟨_, rfl, .inl ⟨rfl, _, SqL.of hz4⟩, _, rfl, (by show 2 ≤ sizeLine; decide), fun p2 hp2 => ?_⟩
                obtain ⟨q1, q2, q3⟩ := more _ zs _ p2 true (s3.trans s4) hz4 (Paired.mapP hsp3 fun _ _ z => z.mono (TS.of s4)) hp2
                refine ⟨o, zs, _, rfl, rfl, same_new hp2 _ _ _ hz4, sz3, fin _ _ q1 q2 (by rw [List.length_append]; show zs.length + 1 ≤ _; omega) ?_⟩
                have hc : r.isTurn = true ∧ 0 < i ∧ ((i : Int) ∉ goals rs) ∧ ((rs[i - 1]?.map Row.turny) = some true) := ⟨ht, hpos, hg', by rw [er1]; exact congrArg some hlt⟩
                rw [if_pos hc]
                exact q3
          · refine no H3 (Same.refl _) fun z => c (decide_eq_true ?_)
            have z1 := z.2.1
            omega
    · rintro σ H2 ⟨v, rfl, s2, ys, hys, hsp, _⟩
      refine ⟨_, rfl, q o ys H2 (s1.trans s2) hys ?_⟩
      have e : (((xs.length : Nat) : Int) - 0).toNat = rs.length := by omega
      have e' : (((xs.length : Nat) : Int)).toNat = rs.length := by omega
      first | rw [e'] at hsp | rw [e] at hsp
      exact hsp
end
end K78

/-! K78: _law_shortened. -/
namespace K78
open PySem L2

def spShortened (K : PySem.W.Frag) : Sp := fun vs H Q _ => ∃ (M : Int) (a sp : Addr) (xs : List V) (rs out : List Row) (k : Nat) (j : Bool), vs = [.int M, .ref a, .ref sp] ∧ SqL K H a xs ∧ RowsAt H xs rs ∧ H sp = some (.tup [.int (k : Int), .bl j]) ∧ CutTo M rs k j out ∧ WF M rs ∧ rs.length ≤ 100 ∧ 1 < M ∧ big M ∧
  ∀ p ys H', Same H H' → H' p = some (.lst ys) → RowsAt H' ys out → Q (.ref p) H'

theorem cut_to (xs : List V) (k : Nat) : cutV xs none (some (k : Int)) = xs.take k := by
  unfold cutV
  rw [HT.sIx_nat, HT.sIx_none, List.drop_zero, Nat.sub_zero]
  by_cases h : k ≤ xs.length
  · rw [Nat.min_eq_left h]
  · rw [Nat.min_eq_right (by omega), List.take_length, List.take_of_length_le (by omega)]
theorem cut_from (xs : List V) (k : Nat) : cutV xs (some (k : Int)) none = xs.drop k := by
  unfold cutV
  rw [HT.sIx_nat, HT.sIx_none]
  by_cases h : k ≤ xs.length
  · rw [Nat.min_eq_left h]
    exact List.take_of_length_le (by rw [List.length_drop]; exact Nat.le_refl _)
  · rw [Nat.min_eq_right (by omega), List.drop_length, List.drop_of_length_le (by omega), List.take_nil]
theorem cut_last (ws : List V) (v : V) : cutV (ws ++ [v]) none (some (-1)) = ws := by
  unfold cutV
  have e : HT.sIx (ws ++ [v]).length (ws ++ [v]).length (some (-1)) = ws.length := by
    show (if (-1 : Int) < 0 then ((-1 : Int) + ((ws ++ [v]).length : Int)).toNat else min (-1 : Int).toNat (ws ++ [v]).length) = ws.length
    rw [if_pos (by decide), List.length_append, List.length_singleton]
    omega
  rw [e, HT.sIx_none, List.drop_zero, Nat.sub_zero, List.take_left]

section
variable {P : Program} {w : World} {K : PySem.W.Frag} {mg : Str → Option Value} {base : Heap} {f : Addr} {fd : FuncData}
theorem scShortened : FnScope ["M", "rows", "spot", "at", "joins", "head", "last", "a", "b", "row"] ["M", "rows", "spot"] (defScope sShortened) := ⟨rfl, rfl, rfl, by decide +kernel, rfl, by decide +kernel, by decide +kernel⟩
theorem ok_shortened (F : Fun K "_law_shortened" "_law_shortened" sShortened f fd) (O : Own P w K mg base 1 "_law_led_on" ["row", "at"] spLedOn) : FnOk P w K mg base CX0 2 f fd ["M", "rows", "spot"] (spShortened K) := by
  obtain ⟨f1, fd1, G1, m1, kp1, b1⟩ := O
  refine F.ok scShortened (fun vs H Q E h => ?_) (fun cdv A outer s H vs Q E hr h => ?_)
  · obtain ⟨M, a, sp, xs, rs, out, k, j, rfl, _⟩ := h
    rfl
  · obtain ⟨M, a, sp, xs, rs, out, k, j, rfl, hS, hR, hsp, hc, wf, hl, hM, bM, q⟩ := h
    refine ⟨_, (pss_cons (ps_asg (pv 2) (pg_tup rfl (pgs_cons (pg_name (i := 3) scShortened.nd rfl (Or.inr rfl)) (pgs_cons (pg_name (i := 4) scShortened.nd rfl (Or.inl rfl)) pgs_nil)))) (pss_cons (ps_set (i := 5) scShortened.nd rfl (Or.inl rfl) (pe_slice sl_list (pv 1) po_none (po_some (pv 3)))) (C8.pss_cut (ps_if (pt_val (pv 4)) (pss_cons (ps_set (i := 6) scShortened.nd rfl (Or.inl rfl) (pe_ix ix_list (pv 5) (pe_un un_neg pe_int) (fun _ _ => rfl))) (pss_cons (ps_asg (pe_slice sl_tup (pe_ix ix_list (pv 1) (pv 3) (fun _ _ => rfl)) (po_some pe_int) po_none) (pg_tup rfl (pgs_cons (pg_name (i := 7) scShortened.nd rfl (Or.inl rfl)) (pgs_cons (pg_name (i := 8) scShortened.nd rfl (Or.inl rfl)) pgs_nil)))) (pss_one (ps_if (pt_cmpR op_eq (pe_ix ix_tup (pv 6) pe_int (fun _ _ => rfl)) pe_str (nomark _)) (pss_one (ps_set (i := 5) scShortened.nd rfl (Or.inl rfl) (pe_op op_cat (pe_slice sl_list (pv 5) po_none (po_some (pe_un un_neg pe_int))) (pe_lst (pa_cons (pe_tup (pa_cons pe_str (pa_cons (pe_op op_mod (pe_op op_add (pe_op op_mulW (pv 7) (pe_ix ix_tup (pv 6) pe_int (fun _ _ => rfl))) (pv 8)) (pv 0)) pa_nil))) pa_nil))))) (pss_one (ps_set (i := 5) scShortened.nd rfl (Or.inl rfl) (pe_op op_cat (pe_slice sl_list (pv 5) po_none (po_some (pe_un un_neg pe_int))) (pe_lst (pa_cons (pe_tup (pa_cons pe_str (pa_cons (pe_op op_mod (pe_op op_mulW (pv 7) (pe_ix ix_tup (pv 6) pe_int (fun _ _ => rfl))) (pv 0)) (pa_cons (pe_op op_mod (pe_op op_add (pe_op op_mulW (pv 7) (pe_ix ix_tup (pv 6) pe_int (fun _ _ => rfl))) (pv 8)) (pv 0)) pa_nil)))) pa_nil))))))))) pss_nil) (pss_one (ps_ret (pe_lc (own := [("row", 9)]) (g := gName 9) (tt := tYes) rfl scShortened.nd (pi_list (pe_op op_cat (pv 5) (pe_slice sl_list (pv 1) (po_some (pe_op op_add (pv 3) pe_int)) po_none))) (blkOk_by (N := ["M", "rows", "spot", "at", "joins", "head", "last", "a", "b", "row"]) (sc := defScope sShortened) (by decide +kernel)) (fun _ _ _ _ _ => (pg_name (i := 9) scShortened.nd rfl (Or.inl rfl))) (fun _ _ _ _ _ => pts_nil) (fun _ _ _ _ _ => (pe_call G1 hr rfl m1 kp1 b1 .nil pass0 (pa_cons (pv 9) (pa_cons (pv 3) pa_nil)))))))))), ?_⟩
    have hlx := hR.len
    -- at, joins = spot
    refine ⟨_, rfl, sp, _, rfl, SqT.of hsp, rfl, _, _, rfl, _, _, rfl, rfl, ?_⟩
    -- head = rows[:at]
    refine ⟨_, rfl, _, rfl, _, rfl, a, xs, rfl, hS, fun h hh => ?_⟩
    rw [cut_to] at *
    have s1 := same_new hh (.lst (xs.take k))
    have hh1 := upd_same (H := H) (a := h) (o := .lst (xs.take k))
    have hR1 := hR.mono (TS.of s1)
    have hS1 := s1.seq hS
    generalize upd H h (.lst (xs.take k)) = H1 at *
    -- if joins: ..
    refine ⟨fun σ' H' => ∃ (h' : Addr) (v6 v7 v8 : Option V) (zs : List V) (bs post : List Row), σ' = [some (.int M), some (.ref a), some (.ref sp), some (.int (k : Int)), some (.bl j), some (.ref h'), v6, v7, v8, none] ∧ Same H H' ∧ H' h' = some (.lst zs) ∧ RowsAt H' zs bs ∧
      out = (bs ++ post).map (Row.re (led k)) ∧ RowsAt H' (xs.drop (k + 1)) post ∧ bs.length ≤ 100, ?_, ?_⟩
    · refine ⟨_, rfl, _, rfl, ?_⟩
      rcases hc with ⟨rfl, pre, r, post, rfl, rfl, hi, rfl⟩ | ⟨rfl, pre, l, t, post, rfl, rfl, hty, htt, hn, rfl⟩
      · refine iteF ?_
        have z1 := pd_take pre.length hR1
        have z2 := pd_drop (pre.length + 1) hR1
        rw [List.take_left] at z1
        have e2 : (pre ++ r :: post).drop (pre.length + 1) = post := by
          rw [List.drop_append, List.drop_of_length_le (by omega), List.nil_append]
          have e : pre.length + 1 - pre.length = 1 := by omega
          rw [e]
          rfl
        rw [e2] at z2
        refine ⟨h, _, _, _, _, pre, post, rfl, s1, hh1, z1, rfl, z2, ?_⟩
        rw [List.length_append] at hl
        omega
      · refine iteT ?_
        have z1 := pd_take (pre.length + 1) hR1
        have z2 := pd_drop (pre.length + 1 + 1) hR1
        have e1 : (pre ++ l :: t :: post).take (pre.length + 1) = pre ++ [l] := by
          rw [List.take_length_add_append]
          rfl
        have e2 : (pre ++ l :: t :: post).drop (pre.length + 1 + 1) = post := by
          rw [List.drop_append, List.drop_of_length_le (by omega), List.nil_append]
          have e : pre.length + 1 + 1 - pre.length = 2 := by omega
          rw [e]
          rfl
        rw [e1] at z1
        rw [e2] at z2
        obtain ⟨ws, vs1, ex, hws, hvs⟩ := pd_split z1
        obtain ⟨v, r1, ev, hvl, hnil⟩ := pd_cons hvs
        cases hnil
        subst ev
        rw [ex] at hh1
        have et : (pre ++ l :: t :: post)[pre.length + 1]? = some t := by
          rw [List.getElem?_append_right (by omega)]
          have e : pre.length + 1 - pre.length = 1 := by omega
          rw [e]
          rfl
        obtain ⟨x, exx, hxt⟩ := pd_get' hR1 et
        have lo := wf.on l (List.mem_append_right _ List.mem_cons_self)
        have to := wf.on t (List.mem_append_right _ (List.mem_cons_of_mem _ List.mem_cons_self))
        have hpl : pre.length ≤ 98 := by
          rw [List.length_append, List.length_cons, List.length_cons] at hl
          omega
        cases t with
        | turn p1 q1 =>
          obtain ⟨bt, rfl, hbt⟩ := hxt.turn
          obtain ⟨bl, yl, rfl, hbl, hyl⟩ := hvl.inv
          have bp : big p1 := big_of to.1.1 to.1.2 bM
          -- last = head[-1]
          refine ⟨_, rfl, _, rfl, h, _, _, _, rfl, rfl, SqL.of hh1, atI_last _ _, ?_⟩
          -- a, b = rows[at][1:]
          refine ⟨_, rfl, _, rfl, a, _, _, _, rfl, rfl, hS1, atI_nat exx, _, rfl, bt, _, rfl, SqT.of hbt, (fun z => absurd z.1 (by show ¬ ((1 : Nat) = 0); decide)), fun p hp => ?_⟩
          have s2 := same_new hp (.tup [.int p1, .int q1])
          refine ⟨p, _, rfl, SqT.of upd_same, rfl, _, _, rfl, _, _, rfl, rfl, ?_⟩
          -- if last[0] == 'push'
          refine ⟨_, rfl, bl, _, _, _, rfl, rfl, SqT.of (s2 _ _ hbl), at0, rfl, _, rfl, ?_⟩
          rw [w_push]
          -- the end: head is the new list
          have fin : ∀ (H4 : Hp) (p4 p5 : Addr) (j : Row), Same H1 H4 → RowAt H4 (.ref p4) j → H4 p5 = none → j = joined M l (.turn p1 q1) → ∃ (h' : Addr) (v6 v7 v8 : Option V) (zs : List V) (bs post' : List Row),
              [some (V.int M), some (.ref a), some (.ref sp), some (.int ((pre.length + 1 : Nat) : Int)), some (.bl true), some (.ref p5), some (.ref bl), some (.int p1), some (.int q1), none] = [some (.int M), some (.ref a), some (.ref sp), some (.int ((pre.length + 1 : Nat) : Int)), some (.bl true), some (.ref h'), v6, v7, v8, none] ∧
              Same H (upd H4 p5 (.lst (ws ++ [.ref p4]))) ∧ (upd H4 p5 (.lst (ws ++ [.ref p4]))) h' = some (.lst zs) ∧ RowsAt (upd H4 p5 (.lst (ws ++ [.ref p4]))) zs bs ∧
              (pre ++ joined M l (.turn p1 q1) :: post).map (Row.re (led (pre.length + 1))) = (bs ++ post').map (Row.re (led (pre.length + 1))) ∧ RowsAt (upd H4 p5 (.lst (ws ++ [.ref p4]))) (xs.drop (pre.length + 1 + 1)) post' ∧ bs.length ≤ 100 := fun H4 p4 p5 j g1 g2 g3 g4 => by
            have s5 := same_new g3 (.lst (ws ++ [.ref p4]))
            have t5 := TS.of (g1.trans s5)
            refine ⟨p5, _, _, _, _, pre ++ [joined M l (.turn p1 q1)], post, rfl, s1.trans (g1.trans s5), upd_same, Paired.snoc (RowsAt.mono t5 hws) ?_, ?_, RowsAt.mono t5 z2, ?_⟩
            · rw [← g4]
              exact g2.mono (TS.of s5)
            · rw [List.append_assoc]
              rfl
            · rw [List.length_append, List.length_singleton]
              omega
          cases l with
          | push n =>
            obtain ⟨bl', e', hbl'⟩ := hvl.push
            cases e'
            refine iteT ?_
            refine ⟨_, rfl, _, rfl, _, rfl, h, _, rfl, SqL.of (s2 _ _ hh1), fun p2 hp2 => ?_⟩
            rw [cut_last]
            have s3 := same_new hp2 (.lst ws)
            have bn : big n := big_of lo.1 lo.2 bM
            refine ⟨_, rfl, _, rfl, bl, _, _, _, rfl, rfl, SqT.of (s3 _ _ (s2 _ _ hbl')), rfl, _, _, rfl, rfl, big_mul bp bn, _, rfl, _, _, rfl, rfl, _, rfl, _, _, rfl, rfl, (by show 0 < M; omega), (by show 2 ≤ sizeLine; decide), fun p3 hp3 => ⟨(by show 1 ≤ sizeLine; decide), fun p4 hp4 => ?_⟩⟩
            have s4 := same_new hp3 (.tup [.str "push", .int ((p1 * n + q1) % M)])
            have s5 := same_new hp4 (.lst [.ref p3])
            refine ⟨p2, p4, ws, [.ref p3], rfl, rfl, s5 _ _ (s4 _ _ upd_same), upd_same, ?_, fun p5 hp5 => ?_⟩
            · rw [RowsAt.len hws]
              exact Nat.le_of_lt (small1000 (by show pre.length + 1 ≤ 1000; omega))
            · refine fin _ p3 p5 (.push ((p1 * n + q1) % M)) (((s2.trans s3).trans s4).trans s5) ?_ hp5 rfl
              exact Dt.mono (TS.of s5) (RowAt.mk (r := .push ((p1 * n + q1) % M)) upd_same (DtAll.of_ints [_]))
          | turn c d =>
            obtain ⟨bl', e', hbl'⟩ := hvl.turn
            cases e'
            refine iteF ?_
            refine ⟨_, rfl, _, rfl, _, rfl, h, _, rfl, SqL.of (s2 _ _ hh1), fun p2 hp2 => ?_⟩
            rw [cut_last]
            have s3 := same_new hp2 (.lst ws)
            have bc : big c := big_of lo.1.1 lo.1.2 bM
            have bd : big d := big_of lo.2.1 lo.2.2 bM
            have hb3 := s3 _ _ (s2 _ _ hbl')
            refine ⟨_, rfl, _, rfl, bl, _, _, _, rfl, rfl, SqT.of hb3, rfl, _, _, rfl, rfl, big_mul bp bc, _, rfl, _, _, rfl, rfl, (by show 0 < M; omega), ?_⟩
            refine ⟨_, rfl, _, rfl, bl, _, _, _, rfl, rfl, SqT.of hb3, rfl, _, _, rfl, rfl, big_mul bp bd, _, rfl, _, _, rfl, rfl, _, rfl, _, _, rfl, rfl, (by show 0 < M; omega), (by show 3 ≤ sizeLine; decide), fun p3 hp3 => ⟨(by show 1 ≤ sizeLine; decide), fun p4 hp4 => ?_⟩⟩
            have s4 := same_new hp3 (.tup [.str "turn", .int (p1 * c % M), .int ((p1 * d + q1) % M)])
            have s5 := same_new hp4 (.lst [.ref p3])
            refine ⟨p2, p4, ws, [.ref p3], rfl, rfl, s5 _ _ (s4 _ _ upd_same), upd_same, ?_, fun p5 hp5 => ?_⟩
            · rw [RowsAt.len hws]
              exact Nat.le_of_lt (small1000 (by show pre.length + 1 ≤ 1000; omega))
            · refine fin _ p3 p5 (.turn (p1 * c % M) ((p1 * d + q1) % M)) (((s2.trans s3).trans s4).trans s5) ?_ hp5 rfl
              exact Dt.mono (TS.of s5) (RowAt.mk (r := .turn (p1 * c % M) ((p1 * d + q1) % M)) upd_same (DtAll.of_ints [_, _]))
          | _ => cases hty
        | _ => cases htt
    · rintro σ' H2 ⟨h', v6, v7, v8, zs, bs, post, rfl, s2, hz, hzs, rfl, hpost, hbl⟩
      -- return [_law_led_on(row, at) for row in head + rows[at + 1:]]
      refine ⟨_, rfl, _, rfl, _, rfl, _, _, rfl, rfl, _, rfl, a, xs, rfl, s2.seq hS, fun p hp => ?_⟩
      have ecut : cutV xs (some ((k : Int) + 1)) none = xs.drop (k + 1) := cut_from xs (k + 1)
      rw [ecut] at *
      have s3 := same_new hp (.lst (xs.drop (k + 1)))
      have hpl : post.length ≤ 100 := by
        have z := hpost.len
        rw [List.length_drop] at z
        omega
      refine ⟨h', p, zs, _, rfl, rfl, s3 _ _ hz, upd_same, ?_, fun p2 hp2 => ?_⟩
      · rw [hzs.len, hpost.len]
        exact Nat.le_of_lt (small1000 (by omega))
      have s4 := same_new hp2 (.lst (zs ++ xs.drop (k + 1)))
      have hall : RowsAt (upd (upd H2 p (.lst (xs.drop (k + 1)))) p2 (.lst (zs ++ xs.drop (k + 1)))) (zs ++ xs.drop (k + 1)) (bs ++ post) := RowsAt.mono (TS.of (s3.trans s4)) (pd_append hzs hpost)
      have hp2' := upd_same (H := upd H2 p (.lst (xs.drop (k + 1)))) (a := p2) (o := .lst (zs ++ xs.drop (k + 1)))
      have s24 := s2.trans (s3.trans s4)
      generalize upd (upd H2 p (.lst (xs.drop (k + 1)))) p2 (.lst (zs ++ xs.drop (k + 1))) = H4 at *
      refine ⟨p2, rfl, ⟨_, SqL.of hp2'⟩, fun D hD => lc_list (K := K) (a := p2) (xs := zs ++ xs.drop (k + 1))
        (fun i H' => Same H4 H' ∧ ∃ acc, H' D = some (.lst acc) ∧ RowsAt H' acc (((bs ++ post).take i).map (Row.re (led k))))
        ⟨same_new hD _, [], upd_same, .nil⟩ (fun i H' _ ⟨s, _⟩ => SqL.of (s _ _ hp2')) ?_ ?_⟩
      · rintro i x H' hi ⟨s, acc, hacc, hrows⟩
        obtain ⟨r, hr0, hv0⟩ := pd_get hall hi
        refine ⟨rfl, ?_⟩
        refine ⟨_, rfl, _, rfl, x, k, r, rfl, hv0.mono (TS.of s), fun x' H5 s5 hx' => ?_⟩
        have hacc5 := s5 _ _ hacc
        have t6 := TS.lst (o := .lst (acc ++ [x'])) hacc5
        have hal : acc.length ≤ 200 := by
          rw [hrows.len, List.length_map, List.length_take, List.length_append]
          omega
        refine ⟨acc, hacc5, small1000 (by omega), same_upd hD (s.trans s5) _, _, upd_same, ?_⟩
        rw [List.take_add_one, hr0]
        show RowsAt _ (acc ++ [x']) (((bs ++ post).take i ++ [r]).map _)
        rw [List.map_append]
        exact Paired.snoc ((hrows.mono (TS.of s5)).mono t6) (hx'.mono t6)
      · rintro H' ⟨s, acc, hacc, hrows⟩
        refine q D acc H' (s24.trans s) hacc ?_
        rw [hall.len, List.take_length] at hrows
        exact hrows
end
end K78

/-! K78: law. -/
namespace K78
open PySem L2

def spLaw (K : PySem.W.Frag) : Sp := fun vs H Q _ => ∃ (a : Addr) (ns : List Int), vs = [.ref a] ∧ SqL K H a (ns.map V.int) ∧ ns.length ≤ 63 ∧ ∀ H', Q (.bl true) H'

theorem CutTo.nice {M : Int} {rs out : List Row} {k : Nat} {j : Bool} (c : CutTo M rs k j out) (w : ∀ r, r ∈ rs → r.nice) : ∀ r, r ∈ out → r.nice := by
  rcases c with ⟨_, pre, r, post, rfl, rfl, hi, rfl⟩ | ⟨_, pre, l, t, post, rfl, rfl, hty, htt, hn, rfl⟩
  · intro x hx
    obtain ⟨y, hy, rfl⟩ := List.mem_map.mp hx
    refine nice_re _ (w y ?_)
    rcases List.mem_append.mp hy with z | z
    · exact List.mem_append_left _ z
    · exact List.mem_append_right _ (List.mem_cons_of_mem _ z)
  · intro x hx
    obtain ⟨y, hy, rfl⟩ := List.mem_map.mp hx
    refine nice_re _ ?_
    rcases List.mem_append.mp hy with z | z
    · exact w y (List.mem_append_left _ z)
    · rcases List.mem_cons.mp z with z | z
      · rw [z]
        exact nice_turny (joined_turny hty)
      · exact w y (List.mem_append_right _ (List.mem_cons_of_mem _ (List.mem_cons_of_mem _ z)))
theorem lay_rows : ∀ {rs : List Row}, (∀ r, r ∈ rs → r.nice) → PyData.canLayAll0 (rs.map fun r => .tuple r.dat) = true ∧ PyData.depthAll (rs.map fun r => .tuple r.dat) ≤ 51
  | [], _ => ⟨rfl, Nat.zero_le _⟩
  | r :: rs, h => by
    have h1 := h r List.mem_cons_self
    have h2 := lay_rows (rs := rs) fun x hx => h x (List.mem_cons_of_mem _ hx)
    refine ⟨?_, ?_⟩
    · show ((PyData.strOk r.word && PyData.canLayAll0 r.tail) && PyData.canLayAll0 (rs.map fun r => .tuple r.dat)) = true
      rw [word_ok, h1.1, h2.1]
      rfl
    · show max (max 0 (PyData.depthAll r.tail) + 1) (PyData.depthAll (rs.map fun r => .tuple r.dat)) ≤ 51
      have a := h1.2
      have b := h2.2
      omega
theorem shaped_rows {rs : List Row} (h : ∀ r, r ∈ rs → r.nice) : SeqAt.shaped (.list (rs.map fun r => .tuple r.dat)) = true := by
  unfold SeqAt.shaped
  rw [Bool.and_eq_true]
  refine ⟨(lay_rows h).1, decide_eq_true ?_⟩
  show PyData.depthAll (rs.map fun r => .tuple r.dat) + 1 ≤ 64
  have := (lay_rows h).2
  omega

/-- how things stand in law's loop, with m rows left -/
def Left (Hb : Hp) (M : Int) (a fa : Addr) (rs0 : List Row) (m : Nat) (σ : L2.St) (H : Hp) : Prop :=
  ∃ (ra sa : Addr) (xs sps : List V) (rs : List Row) (n : Int), σ = [some (.ref a), some (.int M), some (.ref ra), some (.ref fa), some (.ref sa), some (.int n)] ∧ Same Hb H ∧ H ra = some (.lst xs) ∧ RowsAt H xs rs ∧ WF M rs ∧ (∀ r, r ∈ rs → r.nice) ∧
    rs.length = m ∧ sh M rs = sh M rs0 ∧ H sa = some (.lst sps) ∧ Paired (SpotAt H) sps (spots rs) ∧ n + (m : Int) ≤ 200 ∧ 0 ≤ n ∧ m ≤ 60

section
variable {P : Program} {w : World} {K : PySem.W.Frag} {mg : Str → Option Value} {base : Heap} {f : Addr} {fd : FuncData}
theorem scLaw : FnScope ["script", "M", "rows", "found", "spots", "n"] ["script"] (defScope sLaw) := ⟨rfl, rfl, rfl, by decide +kernel, rfl, by decide +kernel, by decide +kernel⟩
theorem ok_law (F : Fun K "law" "law" sLaw f fd) (T : Txt mg) (O1 : Own P w K mg base 2 "_law_size" ["script"] (spSize K)) (O2 : Own P w K mg base 3 "_law_rows" ["script", "M"] (spRows K)) (O3 : Own P w K mg base 4 "shorter" ["M", "rows"] (spShorter K))
    (O4 : Own P w K mg base 2 "_law_spots" ["rows"] (spSpots K)) (O5 : Own P w K mg base 2 "_law_shortened" ["M", "rows", "spot"] (spShortened K)) (O6 : Own P w K mg base 1 "_law_at" ["script", "k"] (spAt K)) : FnOk P w K mg base CX0 5 f fd ["script"] (spLaw K) := by
  obtain ⟨f1, fd1, G1, m1, kp1, b1⟩ := O1
  obtain ⟨f2, fd2, G2, m2, kp2, b2⟩ := O2
  obtain ⟨f3, fd3, G3, m3, kp3, b3⟩ := O3
  obtain ⟨f4, fd4, G4, m4, kp4, b4⟩ := O4
  obtain ⟨f5, fd5, G5, m5, kp5, b5⟩ := O5
  obtain ⟨f6, fd6, G6, m6, kp6, b6⟩ := O6
  refine F.ok scLaw (fun vs H Q E h => ?_) (fun cdv A outer s H vs Q E hr4 h => ?_)
  · obtain ⟨a, ns, rfl, _⟩ := h
    rfl
  · obtain ⟨a, ns, rfl, hS, hl, q⟩ := h
    have hr := hr4
    have hr1 : Room 1 _ := hr.mono (by decide)
    have hr2 : Room 2 _ := hr.mono (by decide)
    have hr3 : Room 3 _ := hr.mono (by decide)
    refine ⟨_, (pss_cons (ps_set (i := 1) scLaw.nd rfl (Or.inl rfl) (pe_call G1 hr2 rfl m1 kp1 b1 .nil pass0 (pa_cons (pv 0) pa_nil))) (pss_cons (ps_set (i := 2) scLaw.nd rfl (Or.inl rfl) (pe_call G2 hr3 rfl m2 kp2 b2 .nil pass0 (pa_cons (pv 0) (pa_cons (pv 1) pa_nil)))) (pss_cons (ps_set (i := 3) scLaw.nd rfl (Or.inl rfl) (pe_call G3 hr4 rfl m3 kp3 b3 .nil pass0 (pa_cons (pv 1) (pa_cons (pe_callTy call_list_of (by rfl) T.list (by decide +kernel) (pa_cons (pv 2) pa_nil)) pa_nil)))) (pss_cons (ps_set (i := 4) scLaw.nd rfl (Or.inl rfl) (pe_call G4 hr2 rfl m4 kp4 b4 .nil pass0 (pa_cons (pv 2) pa_nil))) (pss_cons (ps_set (i := 5) scLaw.nd rfl (Or.inl rfl) pe_int) (pss_cons (ps_while PassesOwn.never (pt_cmpR op_gt (pe_callB call_len_seq (by rfl) T.len PySem.boot_len (pa_cons (pv 4) pa_nil)) pe_int (nomark _)) (pss_cons (ps_set (i := 2) scLaw.nd rfl (Or.inl rfl) (pe_call G5 hr2 rfl m5 kp5 b5 .nil pass0 (pa_cons (pv 1) (pa_cons (pv 2) (pa_cons (pe_ix ix_list (pv 4) (pe_op op_mod (pe_call G6 hr1 rfl m6 kp6 b6 .nil pass0 (pa_cons (pv 0) (pa_cons (pv 5) pa_nil))) (pe_callB call_len_seq (by rfl) T.len PySem.boot_len (pa_cons (pv 4) pa_nil))) (fun _ _ => rfl)) pa_nil))))) (pss_cons (ps_set (i := 4) scLaw.nd rfl (Or.inl rfl) (pe_call G4 hr2 rfl m4 kp4 b4 .nil pass0 (pa_cons (pv 2) pa_nil))) (pss_one (ps_set (i := 5) scLaw.nd rfl (Or.inl rfl) (pe_op op_add (pv 5) pe_int)))))) (pss_one (ps_ret (pe_and (pe_callB call_isi (by rfl) T.isinstance (by decide +kernel) (pa_cons (pv 3) (pa_cons (pe_bltn (v := .ty "list") (by rfl) T.list (by decide +kernel) rfl) pa_nil))) (pe_one (pe_cmpR (op_eqD hr.units) (pv 3) (pv 2) (nomark _)))))))))))), ?_⟩
    -- M = _law_size(script); rows = _law_rows(script, M)
    refine ⟨_, rfl, a, ns, rfl, hS, hl, fun M hM bM => ?_⟩
    refine ⟨_, rfl, _, rfl, a, ns, M, rfl, hS, hl, hM, bM, fun ra xs rs0 H1 s1 hra hrs wf nice hlen => ?_⟩
    -- found = shorter(M, list(rows))
    refine ⟨_, rfl, _, rfl, ra, xs, rfl, .inl (SqL.of hra), fun l hl2 => ?_⟩
    have s2 := same_new hl2 (.lst xs)
    refine ⟨M, l, xs, rs0, rfl, SqL.of upd_same, hrs.mono (TS.of s2), wf, nice, by omega, by omega, bM, fun fa fs H3 s3 hfa hfs => ?_⟩
    have s23 := s2.trans s3
    -- spots = _law_spots(rows)
    refine ⟨_, rfl, ra, xs, rs0, rfl, SqL.of (s23 _ _ hra), hrs.mono (TS.of s23), nice, by omega, fun sa sps H4 s4 hsa hsps => ?_⟩
    have s24 := s23.trans s4
    -- while len(spots) > 0
    refine ⟨Left H3 M a fa rs0, ⟨rs0.length, ra, sa, xs, sps, rs0, 4, rfl, s4, s24 _ _ hra, hrs.mono (TS.of s24), wf, nice, rfl, rfl, hsa, hsps, by omega, by omega, hlen⟩, ?_⟩
    rintro m σ H5 ⟨ra, sa, xs, sps, rs, n, rfl, s5, hra, hrs, wf, nice, rfl, hsh, hsa, hsps, hn, hn0, hm⟩
    have hS5 := (s1.trans (s23.trans s5)).seq hS
    refine ⟨_, rfl, sa, _, rfl, .inl (SqL.of hsa), _, _, rfl, rfl, _, rfl, ?_⟩
    refine ite2 (fun c => ?_) (fun c => ?_)
    · have hpos : (0 : Int) < (sps.length : Int) := of_decide_eq_true c
      have hrl : 0 < rs.length := by
        cases rs with
        | nil =>
          have z := Paired.length hsps
          have z2 : (spots ([] : List Row)).length = 0 := rfl
          omega
        | cons r rs => exact Nat.succ_pos _
      refine ⟨Left H3 M a fa rs0 (rs.length - 1), fun σ' H' z => ⟨_, by omega, z⟩, ?_⟩
      refine ⟨_, rfl, _, rfl, _, rfl, _, rfl, _, rfl, a, ns, n, rfl, hS5, hl, hn0, by omega, fun z => ?_⟩
      obtain ⟨v, ev, _⟩ := pick (ns := sps) (i := z % (sps.length : Int)) (emod_in hpos).1 (emod_in hpos).2
      obtain ⟨⟨k, j⟩, ekj, sp, rfl, hsp⟩ := pd_get hsps ev
      obtain ⟨out, hout⟩ := spot_cut (M := M) (List.mem_of_getElem? ekj)
      refine ⟨_, rfl, sa, _, rfl, .inl (SqL.of hsa), _, _, rfl, rfl, hpos, sa, sps, _, .ref sp, rfl, rfl, SqL.of hsa, at_of (j := (z % (sps.length : Int)).toNat) (by have := (emod_in (a := z) hpos).1; omega) ev, ?_⟩
      have hol := hout.len
      refine ⟨M, ra, sp, xs, rs, out, k, j, rfl, SqL.of hra, hrs, hsp, hout, wf, by omega, by omega, bM, fun p ys H6 s6 hp hys => ?_⟩
      refine ⟨_, rfl, p, ys, out, rfl, SqL.of hp, hys, hout.nice nice, by omega, fun p2 ys2 H7 s7 hp2 hsp2 => ?_⟩
      refine ⟨_, rfl, _, _, rfl, rfl, ?_⟩
      exact ⟨p, p2, ys, ys2, out, n + 1, rfl, s5.trans (s6.trans s7), s7 _ _ hp, hys.mono (TS.of s7), hout.wf (by omega) wf, hout.nice nice, by omega, (hout.sh (by omega) wf).trans hsh, hp2, hsp2, by omega, by omega, by omega⟩
    · have hz : sps.length = 0 := by
        have z := of_decide_eq_false (Bool.eq_false_iff.mpr c)
        have z' : ¬ (0 : Int) < (sps.length : Int) := z
        omega
      have hsp0 : spots rs = [] := List.eq_nil_of_length_eq_zero (by rw [← Paired.length hsps]; exact hz)
      have hfs5 := hfs.mono (TS.of s5)
      rw [← hsh, sh_still wf hsp0] at hfs5
      have hfa5 := s5 _ _ hfa
      -- return isinstance(found, list) and found == rows
      refine ⟨_, rfl, _, _, _, _, true, rfl, .ty "list", .base (.lst hfa5), kit_ty (by decide +kernel), true, rfl, iteT ?_⟩
      refine ⟨_, rfl, _, rfl, _, _, .lst (SqL.of hfa5) (DtAll.dp hfs5.all), .lst (SqL.of hra) (DtAll.dp hrs.all), shaped_rows nice, shaped_rows nice, ?_⟩
      rw [SeqAt.eqv_refl _ (by exact (lay_rows nice).1)]
      exact q H5
end
end K78

/-! K78: the end. -/
namespace K78
open PySem L2
/-! ### what the top has written (each a fact that k_is finds), and the law's own head -/
theorem all_mk {l : PySem.W.OpenLaw} {w : World} {K : PySem.W.Frag} {h : Heap} {mg : Str → Option Value} {fa f1 f2 f3 f4 f5 f6 f7 f8 f9 f10 f11 f12 f13 f14 f15 f16 f17 : Addr} (X : K.In h) (G : h.Ns mainGlobals mg) (hfa : mg "law" = some (.ref fa))
    {od1 an1 od2 an2 od3 an3 od4 an4 od5 an5 od6 an6 od7 an7 od8 an8 od9 an9 od10 an10 od11 an11 od12 an12 od13 an13 od14 an14 od15 an15 od16 an16 od17 an17 : Option Addr} {sl1 sl2 sl3 sl4 sl5 sl6 sl7 sl8 sl9 sl10 sl11 sl12 sl13 sl14 sl15 sl16 sl17 : Array (Option Value)} {oc1 kV1 dc1 pm1 cd1 ct1 oc2 kV2 dc2 pm2 cd2 ct2 oc3 kV3 dc3 pm3 cd3 ct3 oc4 kV4 dc4 pm4 cd4 ct4 oc5 kV5 dc5 pm5 cd5 ct5 oc6 kV6 dc6 pm6 cd6 ct6 oc7 kV7 dc7 pm7 cd7 ct7 oc8 kV8 dc8 pm8 cd8 ct8 oc9 kV9 dc9 pm9 cd9 ct9 oc10 kV10 dc10 pm10 cd10 ct10 oc11 kV11 dc11 pm11 cd11 ct11 oc12 kV12 dc12 pm12 cd12 ct12 oc13 kV13 dc13 pm13 cd13 ct13 oc14 kV14 dc14 pm14 cd14 ct14 oc15 kV15 dc15 pm15 cd15 ct15 oc16 kV16 dc16 pm16 cd16 ct16 oc17 kV17 dc17 pm17 cd17 ct17 : Value}
    (a1 : PySem.W.nsIn K mainGlobals "on" = some (some (.ref f1))) (l1 : K.lookup f1 = some ⟨oc1, od1, .func (PySem.W.fnOf "on" "on" (defArgs sOn) (defBody sOn) (defScope sOn) .none kV1 dc1 pm1 an1 cd1 ct1), sl1⟩) (c1 : PySem.W.codeIn K cd1 "on" = true) (k1 : PySem.W.keepIn K (.ref f1) = true)
    (a2 : PySem.W.nsIn K mainGlobals "turned" = some (some (.ref f2))) (l2 : K.lookup f2 = some ⟨oc2, od2, .func (PySem.W.fnOf "turned" "turned" (defArgs sTurned) (defBody sTurned) (defScope sTurned) .none kV2 dc2 pm2 an2 cd2 ct2), sl2⟩) (c2 : PySem.W.codeIn K cd2 "turned" = true) (k2 : PySem.W.keepIn K (.ref f2) = true)
    (a3 : PySem.W.nsIn K mainGlobals "then" = some (some (.ref f3))) (l3 : K.lookup f3 = some ⟨oc3, od3, .func (PySem.W.fnOf "then" "then" (defArgs sThen) (defBody sThen) (defScope sThen) .none kV3 dc3 pm3 an3 cd3 ct3), sl3⟩) (c3 : PySem.W.codeIn K cd3 "then" = true) (k3 : PySem.W.keepIn K (.ref f3) = true)
    (a4 : PySem.W.nsIn K mainGlobals "goals_of" = some (some (.ref f4))) (l4 : K.lookup f4 = some ⟨oc4, od4, .func (PySem.W.fnOf "goals_of" "goals_of" (defArgs sGoalsOf) (defBody sGoalsOf) (defScope sGoalsOf) .none kV4 dc4 pm4 an4 cd4 ct4), sl4⟩) (c4 : PySem.W.codeIn K cd4 "goals_of" = true) (k4 : PySem.W.keepIn K (.ref f4) = true)
    (a5 : PySem.W.nsIn K mainGlobals "joined" = some (some (.ref f5))) (l5 : K.lookup f5 = some ⟨oc5, od5, .func (PySem.W.fnOf "joined" "joined" (defArgs sJoined) (defBody sJoined) (defScope sJoined) .none kV5 dc5 pm5 an5 cd5 ct5), sl5⟩) (c5 : PySem.W.codeIn K cd5 "joined" = true) (k5 : PySem.W.keepIn K (.ref f5) = true)
    (a6 : PySem.W.nsIn K mainGlobals "sent" = some (some (.ref f6))) (l6 : K.lookup f6 = some ⟨oc6, od6, .func (PySem.W.fnOf "sent" "sent" (defArgs sSent) (defBody sSent) (defScope sSent) .none kV6 dc6 pm6 an6 cd6 ct6), sl6⟩) (c6 : PySem.W.codeIn K cd6 "sent" = true) (k6 : PySem.W.keepIn K (.ref f6) = true)
    (a7 : PySem.W.nsIn K mainGlobals "shorter" = some (some (.ref f7))) (l7 : K.lookup f7 = some ⟨oc7, od7, .func (PySem.W.fnOf "shorter" "shorter" (defArgs sShorter) (defBody sShorter) (defScope sShorter) .none kV7 dc7 pm7 an7 cd7 ct7), sl7⟩) (c7 : PySem.W.codeIn K cd7 "shorter" = true) (k7 : PySem.W.keepIn K (.ref f7) = true)
    (a8 : PySem.W.nsIn K mainGlobals "_law_at" = some (some (.ref f8))) (l8 : K.lookup f8 = some ⟨oc8, od8, .func (PySem.W.fnOf "_law_at" "_law_at" (defArgs sAt) (defBody sAt) (defScope sAt) .none kV8 dc8 pm8 an8 cd8 ct8), sl8⟩) (c8 : PySem.W.codeIn K cd8 "_law_at" = true) (k8 : PySem.W.keepIn K (.ref f8) = true)
    (a9 : PySem.W.nsIn K mainGlobals "_law_size" = some (some (.ref f9))) (l9 : K.lookup f9 = some ⟨oc9, od9, .func (PySem.W.fnOf "_law_size" "_law_size" (defArgs sSize) (defBody sSize) (defScope sSize) .none kV9 dc9 pm9 an9 cd9 ct9), sl9⟩) (c9 : PySem.W.codeIn K cd9 "_law_size" = true) (k9 : PySem.W.keepIn K (.ref f9) = true)
    (a10 : PySem.W.nsIn K mainGlobals "_law_form" = some (some (.ref f10))) (l10 : K.lookup f10 = some ⟨oc10, od10, .func (PySem.W.fnOf "_law_form" "_law_form" (defArgs sForm) (defBody sForm) (defScope sForm) .none kV10 dc10 pm10 an10 cd10 ct10), sl10⟩) (c10 : PySem.W.codeIn K cd10 "_law_form" = true) (k10 : PySem.W.keepIn K (.ref f10) = true)
    (a11 : PySem.W.nsIn K mainGlobals "_law_row" = some (some (.ref f11))) (l11 : K.lookup f11 = some ⟨oc11, od11, .func (PySem.W.fnOf "_law_row" "_law_row" (defArgs sRow) (defBody sRow) (defScope sRow) .none kV11 dc11 pm11 an11 cd11 ct11), sl11⟩) (c11 : PySem.W.codeIn K cd11 "_law_row" = true) (k11 : PySem.W.keepIn K (.ref f11) = true)
    (a12 : PySem.W.nsIn K mainGlobals "_law_rows" = some (some (.ref f12))) (l12 : K.lookup f12 = some ⟨oc12, od12, .func (PySem.W.fnOf "_law_rows" "_law_rows" (defArgs sRows) (defBody sRows) (defScope sRows) .none kV12 dc12 pm12 an12 cd12 ct12), sl12⟩) (c12 : PySem.W.codeIn K cd12 "_law_rows" = true) (k12 : PySem.W.keepIn K (.ref f12) = true)
    (a13 : PySem.W.nsIn K mainGlobals "_law_goals" = some (some (.ref f13))) (l13 : K.lookup f13 = some ⟨oc13, od13, .func (PySem.W.fnOf "_law_goals" "_law_goals" (defArgs sGoals) (defBody sGoals) (defScope sGoals) .none kV13 dc13 pm13 an13 cd13 ct13), sl13⟩) (c13 : PySem.W.codeIn K cd13 "_law_goals" = true) (k13 : PySem.W.keepIn K (.ref f13) = true)
    (a14 : PySem.W.nsIn K mainGlobals "_law_spots" = some (some (.ref f14))) (l14 : K.lookup f14 = some ⟨oc14, od14, .func (PySem.W.fnOf "_law_spots" "_law_spots" (defArgs sSpots) (defBody sSpots) (defScope sSpots) .none kV14 dc14 pm14 an14 cd14 ct14), sl14⟩) (c14 : PySem.W.codeIn K cd14 "_law_spots" = true) (k14 : PySem.W.keepIn K (.ref f14) = true)
    (a15 : PySem.W.nsIn K mainGlobals "_law_led_on" = some (some (.ref f15))) (l15 : K.lookup f15 = some ⟨oc15, od15, .func (PySem.W.fnOf "_law_led_on" "_law_led_on" (defArgs sLedOn) (defBody sLedOn) (defScope sLedOn) .none kV15 dc15 pm15 an15 cd15 ct15), sl15⟩) (c15 : PySem.W.codeIn K cd15 "_law_led_on" = true) (k15 : PySem.W.keepIn K (.ref f15) = true)
    (a16 : PySem.W.nsIn K mainGlobals "_law_shortened" = some (some (.ref f16))) (l16 : K.lookup f16 = some ⟨oc16, od16, .func (PySem.W.fnOf "_law_shortened" "_law_shortened" (defArgs sShortened) (defBody sShortened) (defScope sShortened) .none kV16 dc16 pm16 an16 cd16 ct16), sl16⟩) (c16 : PySem.W.codeIn K cd16 "_law_shortened" = true) (k16 : PySem.W.keepIn K (.ref f16) = true)
    (a17 : PySem.W.nsIn K mainGlobals "law" = some (some (.ref f17))) (l17 : K.lookup f17 = some ⟨oc17, od17, .func (PySem.W.fnOf "law" "law" (defArgs sLaw) (defBody sLaw) (defScope sLaw) .none kV17 dc17 pm17 an17 cd17 ct17), sl17⟩) (c17 : PySem.W.codeIn K cd17 "law" = true) (k17 : PySem.W.keepIn K (.ref f17) = true)
    (z1 : PySem.W.nsIn K mainGlobals "len" = some none)
    (z2 : PySem.W.nsIn K mainGlobals "range" = some none)
    (z3 : PySem.W.nsIn K mainGlobals "max" = some none)
    (z4 : PySem.W.nsIn K mainGlobals "min" = some none)
    (z5 : PySem.W.nsIn K mainGlobals "enumerate" = some none)
    (z6 : PySem.W.nsIn K mainGlobals "list" = some none)
    (z7 : PySem.W.nsIn K mainGlobals "int" = some none)
    (z8 : PySem.W.nsIn K mainGlobals "isinstance" = some none)
    : ∃ fd : FuncData, (∀ (s : Shared) (v : Value), BindsTo s fd ⟨[v], []⟩ [("script", v)]) ∧ ∀ base : Heap, K.In base → base.Ns mainGlobals mg → FnOk l.prog w K mg base CX0 5 fa fd ["script"] (spLaw K) := by
  have e := hfa.symm.trans (PySem.W.mg_of X G a17)
  cases e
  have T : Txt mg := ⟨PySem.W.mg_none_of X G z1, PySem.W.mg_none_of X G z2, PySem.W.mg_none_of X G z3, PySem.W.mg_none_of X G z4, PySem.W.mg_none_of X G z5, PySem.W.mg_none_of X G z6, PySem.W.mg_none_of X G z7, PySem.W.mg_none_of X G z8⟩
  have F1 := fun_mk (st := sOn) l1 c1 k1
  have b1 := F1.binds (ps := ["M", "n"]) fun _ _ _ _ _ _ us hl => match us, hl with | [_, _], _ => rfl
  have F2 := fun_mk (st := sTurned) l2 c2 k2
  have b2 := F2.binds (ps := ["M", "turn", "x"]) fun _ _ _ _ _ _ us hl => match us, hl with | [_, _, _], _ => rfl
  have F3 := fun_mk (st := sThen) l3 c3 k3
  have b3 := F3.binds (ps := ["M", "one", "other"]) fun _ _ _ _ _ _ us hl => match us, hl with | [_, _, _], _ => rfl
  have F4 := fun_mk (st := sGoalsOf) l4 c4 k4
  have b4 := F4.binds (ps := ["rows"]) fun _ _ _ _ _ _ us hl => match us, hl with | [_], _ => rfl
  have F5 := fun_mk (st := sJoined) l5 c5 k5
  have b5 := F5.binds (ps := ["M", "last", "row"]) fun _ _ _ _ _ _ us hl => match us, hl with | [_, _, _], _ => rfl
  have F6 := fun_mk (st := sSent) l6 c6 k6
  have b6 := F6.binds (ps := ["row", "places"]) fun _ _ _ _ _ _ us hl => match us, hl with | [_, _], _ => rfl
  have F7 := fun_mk (st := sShorter) l7 c7 k7
  have b7 := F7.binds (ps := ["M", "rows"]) fun _ _ _ _ _ _ us hl => match us, hl with | [_, _], _ => rfl
  have F8 := fun_mk (st := sAt) l8 c8 k8
  have b8 := F8.binds (ps := ["script", "k"]) fun _ _ _ _ _ _ us hl => match us, hl with | [_, _], _ => rfl
  have F9 := fun_mk (st := sSize) l9 c9 k9
  have b9 := F9.binds (ps := ["script"]) fun _ _ _ _ _ _ us hl => match us, hl with | [_], _ => rfl
  have F10 := fun_mk (st := sForm) l10 c10 k10
  have b10 := F10.binds (ps := ["M", "cell"]) fun _ _ _ _ _ _ us hl => match us, hl with | [_, _], _ => rfl
  have F11 := fun_mk (st := sRow) l11 c11 k11
  have b11 := F11.binds (ps := ["M", "cell", "many", "places"]) fun _ _ _ _ _ _ us hl => match us, hl with | [_, _, _, _], _ => rfl
  have F12 := fun_mk (st := sRows) l12 c12 k12
  have b12 := F12.binds (ps := ["script", "M"]) fun _ _ _ _ _ _ us hl => match us, hl with | [_, _], _ => rfl
  have F13 := fun_mk (st := sGoals) l13 c13 k13
  have b13 := F13.binds (ps := ["rows"]) fun _ _ _ _ _ _ us hl => match us, hl with | [_], _ => rfl
  have F14 := fun_mk (st := sSpots) l14 c14 k14
  have b14 := F14.binds (ps := ["rows"]) fun _ _ _ _ _ _ us hl => match us, hl with | [_], _ => rfl
  have F15 := fun_mk (st := sLedOn) l15 c15 k15
  have b15 := F15.binds (ps := ["row", "at"]) fun _ _ _ _ _ _ us hl => match us, hl with | [_, _], _ => rfl
  have F16 := fun_mk (st := sShortened) l16 c16 k16
  have b16 := F16.binds (ps := ["M", "rows", "spot"]) fun _ _ _ _ _ _ us hl => match us, hl with | [_, _, _], _ => rfl
  have F17 := fun_mk (st := sLaw) l17 c17 k17
  refine ⟨PySem.W.fnOf "law" "law" (defArgs sLaw) (defBody sLaw) (defScope sLaw) .none kV17 dc17 pm17 an17 cd17 ct17, fun s v => .of_eq rfl, fun base _ _ => ?_⟩
  have O_on : Own l.prog w K mg base 1 "on" ["M", "n"] spOn := ⟨_, _, ok_on F1, PySem.W.mg_of X G a1, k1, b1⟩
  have O_turned : Own l.prog w K mg base 2 "turned" ["M", "turn", "x"] spTurned := ⟨_, _, ok_turned F2 O_on, PySem.W.mg_of X G a2, k2, b2⟩
  have O_then : Own l.prog w K mg base 2 "then" ["M", "one", "other"] spThen := ⟨_, _, ok_then F3 O_on, PySem.W.mg_of X G a3, k3, b3⟩
  have O_goals_of : Own l.prog w K mg base 1 "goals_of" ["rows"] (spGoalsOf K) := ⟨_, _, ok_goalsOf F4, PySem.W.mg_of X G a4, k4, b4⟩
  have O_joined : Own l.prog w K mg base 3 "joined" ["M", "last", "row"] spJoined := ⟨_, _, ok_joined F5 O_turned O_then, PySem.W.mg_of X G a5, k5, b5⟩
  have O_sent : Own l.prog w K mg base 1 "sent" ["row", "places"] (spSent K) := ⟨_, _, ok_sent F6, PySem.W.mg_of X G a6, k6, b6⟩
  have O_shorter : Own l.prog w K mg base 4 "shorter" ["M", "rows"] (spShorter K) := ⟨_, _, ok_shorter F7 T O_goals_of O_joined O_sent, PySem.W.mg_of X G a7, k7, b7⟩
  have O__law_at : Own l.prog w K mg base 1 "_law_at" ["script", "k"] (spAt K) := ⟨_, _, ok_at F8 T, PySem.W.mg_of X G a8, k8, b8⟩
  have O__law_size : Own l.prog w K mg base 2 "_law_size" ["script"] (spSize K) := ⟨_, _, ok_size F9 O__law_at, PySem.W.mg_of X G a9, k9, b9⟩
  have O__law_form : Own l.prog w K mg base 1 "_law_form" ["M", "cell"] spForm := ⟨_, _, ok_form F10, PySem.W.mg_of X G a10, k10, b10⟩
  have O__law_row : Own l.prog w K mg base 2 "_law_row" ["M", "cell", "many", "places"] spRow := ⟨_, _, ok_row F11 T O__law_form, PySem.W.mg_of X G a11, k11, b11⟩
  have O__law_rows : Own l.prog w K mg base 3 "_law_rows" ["script", "M"] (spRows K) := ⟨_, _, ok_rows F12 T O__law_at O__law_row, PySem.W.mg_of X G a12, k12, b12⟩
  have O__law_goals : Own l.prog w K mg base 1 "_law_goals" ["rows"] (spGoals K) := ⟨_, _, ok_goals F13, PySem.W.mg_of X G a13, k13, b13⟩
  have O__law_spots : Own l.prog w K mg base 2 "_law_spots" ["rows"] (spSpots K) := ⟨_, _, ok_spots F14 T O__law_goals, PySem.W.mg_of X G a14, k14, b14⟩
  have O__law_led_on : Own l.prog w K mg base 1 "_law_led_on" ["row", "at"] spLedOn := ⟨_, _, ok_ledOn F15 T, PySem.W.mg_of X G a15, k15, b15⟩
  have O__law_shortened : Own l.prog w K mg base 2 "_law_shortened" ["M", "rows", "spot"] (spShortened K) := ⟨_, _, ok_shortened F16 O__law_led_on, PySem.W.mg_of X G a16, k16, b16⟩
  exact ok_law F17 T O__law_size O__law_rows O_shorter O__law_spots O__law_shortened O__law_at
theorem walk {l : PySem.W.OpenLaw} {q : Program} {loose : List Str} {XP : (Str → Option Value) → Heap → Prop} {YP : World → Heap → Prop} {d : DefRec} {K : Params → PySem.W.Frag} (hn : l.most = some 63) (hdf : d.params.defaults = [])
    (hY : ∀ (w : World) (h : Heap), YP w h → (K w.params).In h)
    (F : ∀ (w : World) (mg : Str → Option Value) (fa : Addr) (h : Heap), (K w.params).In h → h.Ns mainGlobals mg → mg d.name = some (.ref fa) →
      ∃ fd : FuncData, (∀ (s : Shared) (u : Value), BindsTo s fd ⟨[u], []⟩ [("script", u)]) ∧ ∀ base : Heap, (K w.params).In base → base.Ns mainGlobals mg → FnOk l.prog w (K w.params) mg base CX0 5 fa fd ["script"] (spLaw (K w.params))) :
    PySem.W.WalkO q loose XP YP l.row.toRowW d [] (fun f vs => PySem.call f vs) :=
  L2.walk_of (n := 63) (k := 5) (x := "script") (CX := fun _ => CX0) (sp := fun w => spLaw (K w.params)) hn (by decide) hdf ⟨rfl, by decide, by decide⟩ hY F (fun _ _ a ns hl _ hS => ⟨a, ns, rfl, hS, hl, fun _ => rfl⟩) fun _ _ _ _ _ z => z
end K78
open PySem PySem.W PyProof.Rows
set_option maxRecDepth 100000 in
set_option maxHeartbeats 0 in
theorem PySem.Challenge.cw_chiefway_k78_whole_shortened_in_any_orde_holds : PySem.Challenge.rw_chiefway_k78_whole_shortened_in_any_orde.Holds := by
  w_on; o_law; k_head; (case hw => w_witness2)
  k_fill
  refine K78.walk (l := PySem.Challenge.rw_chiefway_k78_whole_shortened_in_any_orde) rfl rfl (fun w h Y => PySem.W.kIn_of Y) ?F
  case F =>
    intro w mg fa h KX G hmg
    refine' K78.all_mk KX G hmg ?a1 ?l1 ?c1 ?k1 ?a2 ?l2 ?c2 ?k2 ?a3 ?l3 ?c3 ?k3 ?a4 ?l4 ?c4 ?k4 ?a5 ?l5 ?c5 ?k5 ?a6 ?l6 ?c6 ?k6 ?a7 ?l7 ?c7 ?k7 ?a8 ?l8 ?c8 ?k8 ?a9 ?l9 ?c9 ?k9 ?a10 ?l10 ?c10 ?k10 ?a11 ?l11 ?c11 ?k11 ?a12 ?l12 ?c12 ?k12 ?a13 ?l13 ?c13 ?k13 ?a14 ?l14 ?c14 ?k14 ?a15 ?l15 ?c15 ?k15 ?a16 ?l16 ?c16 ?k16 ?a17 ?l17 ?c17 ?k17 ?z1 ?z2 ?z3 ?z4 ?z5 ?z6 ?z7 ?z8
    (case a1 => k_is)
    (case l1 => k_is)
    (case c1 => k_is)
    (case k1 => k_is)
    (case a2 => k_is)
    (case l2 => k_is)
    (case c2 => k_is)
    (case k2 => k_is)
    (case a3 => k_is)
    (case l3 => k_is)
    (case c3 => k_is)
    (case k3 => k_is)
    (case a4 => k_is)
    (case l4 => k_is)
    (case c4 => k_is)
    (case k4 => k_is)
    (case a5 => k_is)
    (case l5 => k_is)
    (case c5 => k_is)
    (case k5 => k_is)
    (case a6 => k_is)
    (case l6 => k_is)
    (case c6 => k_is)
    (case k6 => k_is)
    (case a7 => k_is)
    (case l7 => k_is)
    (case c7 => k_is)
    (case k7 => k_is)
    (case a8 => k_is)
    (case l8 => k_is)
    (case c8 => k_is)
    (case k8 => k_is)
    (case a9 => k_is)
    (case l9 => k_is)
    (case c9 => k_is)
    (case k9 => k_is)
    (case a10 => k_is)
    (case l10 => k_is)
    (case c10 => k_is)
    (case k10 => k_is)
    (case a11 => k_is)
    (case l11 => k_is)
    (case c11 => k_is)
    (case k11 => k_is)
    (case a12 => k_is)
    (case l12 => k_is)
    (case c12 => k_is)
    (case k12 => k_is)
    (case a13 => k_is)
    (case l13 => k_is)
    (case c13 => k_is)
    (case k13 => k_is)
    (case a14 => k_is)
    (case l14 => k_is)
    (case c14 => k_is)
    (case k14 => k_is)
    (case a15 => k_is)
    (case l15 => k_is)
    (case c15 => k_is)
    (case k15 => k_is)
    (case a16 => k_is)
    (case l16 => k_is)
    (case c16 => k_is)
    (case k16 => k_is)
    (case a17 => k_is)
    (case l17 => k_is)
    (case c17 => k_is)
    (case k17 => k_is)
    (case z1 => k_is)
    (case z2 => k_is)
    (case z3 => k_is)
    (case z4 => k_is)
    (case z5 => k_is)
    (case z6 => k_is)
    (case z7 => k_is)
    (case z8 => k_is)

