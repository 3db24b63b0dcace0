import PyProof.Rows.All
import Wide.All
import OpenK.AllK
import Wide.FinOn
import HandS.ForMost
import HandS.IsInst
import HandS.TupAny
import HandS.Dict
import KE.KDictPairs
import HandS.Zip
import HandS.Defaults
import HandS.Deep
import HandS.Iter
import HandS.Head0
import HandS.Head1
import HandS.Head2
import HandS.HeadEnd
import HandS.HeadHook1
import HandS.HeadHook2
import HandS.HeadHook3
import HandS.HeadHook4
import PySem.Challenge.RW_fitdeeds_k83_whole_grown_deeds
set_option Elab.async false
namespace Fd
open PySem

/-! ### deeds by levels -/
inductive Dd where
  | spot (n : Nat)
  | book (s : Str)
  | turn (d : Dd)
  | dod (f e : Dd)
  | both (a b : Dd)
  | first (d : Dd)
  | second (d : Dd)
  deriving DecidableEq

namespace Dd
def moved (g m : Nat) : Dd → Dd
  | spot n => if n < g then spot n else spot (n + m)
  | book s => book s
  | turn d => turn (moved g m d)
  | dod f e => dod (moved g m f) (moved g m e)
  | both a b => both (moved g m a) (moved g m b)
  | first d => first (moved g m d)
  | second d => second (moved g m d)

def put (l : Nat) (e : Dd) : Nat → Dd → Dd
  | a, spot n => if n = l then moved l (a - l) e else if l < n then spot (n - 1) else spot n
  | _, book s => book s
  | a, turn d => turn (put l e (a + 1) d)
  | a, dod f x => dod (put l e a f) (put l e a x)
  | a, both x y => both (put l e a x) (put l e a y)
  | a, first d => first (put l e a d)
  | a, second d => second (put l e a d)

/-- a small step at its own place -/
def here (g : Nat) : Dd → Option Dd
  | dod (turn b) e => some (put g e g b)
  | first (both a _) => some a
  | second (both _ b) => some b
  | _ => none

def step : Nat → Dd → Option Dd
  | _, spot _ => none
  | _, book _ => none
  | g, turn d => (step (g + 1) d).map turn
  | g, dod f e => match here g (dod f e) with
    | some r => some r
    | none => match step g f with
      | some f' => some (dod f' e)
      | none => (step g e).map (dod f)
  | g, both a b => match step g a with
    | some a' => some (both a' b)
    | none => (step g b).map (both a)
  | g, first d => match here g (first d) with
    | some r => some r
    | none => (step g d).map first
  | g, second d => match here g (second d) with
    | some r => some r
    | none => (step g d).map second

def size : Dd → Nat
  | spot _ => 1
  | book _ => 1
  | turn d => size d + 1
  | dod f e => size f + size e + 1
  | both a b => size a + size b + 1
  | first d => size d + 1
  | second d => size d + 1

def depth : Dd → Nat
  | spot _ => 1
  | book _ => 1
  | turn d => depth d + 1
  | dod f e => max (depth f) (depth e) + 1
  | both a b => max (depth a) (depth b) + 1
  | first d => depth d + 1
  | second d => depth d + 1

theorem depth_pos (d : Dd) : 1 ≤ depth d := by cases d <;> simp [depth]
theorem size_pos (d : Dd) : 1 ≤ size d := by cases d <;> simp [size]
theorem depth_le_size : ∀ d : Dd, depth d ≤ size d
  | spot _ => Nat.le_refl _
  | book _ => Nat.le_refl _
  | turn d => Nat.succ_le_succ (depth_le_size d)
  | first d => Nat.succ_le_succ (depth_le_size d)
  | second d => Nat.succ_le_succ (depth_le_size d)
  | dod f e => by
    have := depth_le_size f
    have := depth_le_size e
    simp only [depth, size]; omega
  | both f e => by
    have := depth_le_size f
    have := depth_le_size e
    simp only [depth, size]; omega
theorem depth_moved (g m : Nat) : ∀ d : Dd, depth (moved g m d) = depth d := by
  intro d
  induction d with
  | spot n => simp only [moved]; split <;> rfl
  | book s => rfl
  | turn d ih => simp only [moved, depth, ih]
  | dod f e i1 i2 => simp only [moved, depth, i1, i2]
  | both f e i1 i2 => simp only [moved, depth, i1, i2]
  | first d ih => simp only [moved, depth, ih]
  | second d ih => simp only [moved, depth, ih]
theorem size_moved (g m : Nat) : ∀ d : Dd, size (moved g m d) = size d := by
  intro d
  induction d with
  | spot n => simp only [moved]; split <;> rfl
  | book s => rfl
  | turn d ih => simp only [moved, size, ih]
  | dod f e i1 i2 => simp only [moved, size, i1, i2]
  | both f e i1 i2 => simp only [moved, size, i1, i2]
  | first d ih => simp only [moved, size, ih]
  | second d ih => simp only [moved, size, ih]

/-! ### moved and put -/
theorem moved_zero (g : Nat) (d : Dd) : moved g 0 d = d := by
  induction d with
  | spot n => simp [moved]
  | book s => rfl
  | turn d ih => simp only [moved, ih]
  | dod f e i1 i2 => simp only [moved, i1, i2]
  | both f e i1 i2 => simp only [moved, i1, i2]
  | first d ih => simp only [moved, ih]
  | second d ih => simp only [moved, ih]

/-- L1 -/
theorem moved_moved {l k j m : Nat} (h1 : l ≤ k) (h2 : k ≤ l + j) (e : Dd) : moved k m (moved l j e) = moved l (j + m) e := by
  induction e with
  | spot n =>
    by_cases hn : n < l
    · rw [moved, if_pos hn, moved, if_pos (by omega), moved, if_pos hn]
    · rw [moved, if_neg hn, moved, if_neg (by omega), moved, if_neg hn, Nat.add_assoc]
  | book s => rfl
  | turn d ih => simp only [moved, ih]
  | dod f e i1 i2 => simp only [moved, i1, i2]
  | both f e i1 i2 => simp only [moved, i1, i2]
  | first d ih => simp only [moved, ih]
  | second d ih => simp only [moved, ih]

/-- L3 -/
theorem moved_comm {l a j m : Nat} (h : l ≤ a) (e : Dd) : moved l m (moved a j e) = moved (a + m) j (moved l m e) := by
  induction e with
  | spot n =>
    by_cases h1 : n < a
    · by_cases h2 : n < l
      · rw [moved, if_pos h1, moved, if_pos h2, moved, if_pos (by omega)]
      · rw [moved, if_pos h1, moved, if_neg h2, moved, if_pos (by omega)]
    · rw [moved, if_neg h1, moved, if_neg (by omega), moved, if_neg (by omega), moved, if_neg (by omega)]
      congr 1; omega
  | book s => rfl
  | turn d ih => simp only [moved, ih]
  | dod f e i1 i2 => simp only [moved, i1, i2]
  | both f e i1 i2 => simp only [moved, i1, i2]
  | first d ih => simp only [moved, ih]
  | second d ih => simp only [moved, ih]

/-- L2 -/
theorem moved_put {l a m : Nat} (h : l ≤ a) (e b : Dd) : ∀ k : Nat, a ≤ k → moved l m (put a e k b) = put (a + m) (moved l m e) (k + m) (moved l m b) := by
  induction b with
  | spot n =>
    intro k hk
    by_cases h1 : n = a
    · subst h1
      rw [put, if_pos rfl, moved, if_neg (by omega), put, if_pos rfl, moved_comm h, show k + m - (n + m) = k - n by omega]
    · by_cases h2 : a < n
      · rw [put, if_neg h1, if_pos h2, moved, if_neg (by omega), moved, if_neg (by omega), put, if_neg (by omega), if_pos (by omega)]
        congr 1; omega
      · rw [put, if_neg h1, if_neg h2]
        by_cases h3 : n < l
        · rw [moved, if_pos h3, put, if_neg (by omega), if_neg (by omega)]
        · rw [moved, if_neg h3, put, if_neg (by omega), if_neg (by omega)]
  | book s => intro k _; rfl
  | turn d ih =>
    intro k hk
    simp only [moved, put]
    rw [ih (k + 1) (by omega), show k + 1 + m = k + m + 1 by omega]
  | dod f e i1 i2 => intro k hk; simp only [moved, put, i1 k hk, i2 k hk]
  | both f e i1 i2 => intro k hk; simp only [moved, put, i1 k hk, i2 k hk]
  | first d ih => intro k hk; simp only [moved, put, ih k hk]
  | second d ih => intro k hk; simp only [moved, put, ih k hk]

/-- L4 -/
theorem put_moved {l a m : Nat} (h : l ≤ a) (e f : Dd) : ∀ k : Nat, a ≤ k → put l e (k + m) (moved (a + 1) m f) = moved a m (put l e k f) := by
  induction f with
  | spot n =>
    intro k hk
    by_cases h1 : n = l
    · subst h1
      rw [moved, if_pos (by omega), put, if_pos rfl, put, if_pos rfl, moved_moved h (by omega), show k + m - n = k - n + m by omega]
    · by_cases h2 : n < a + 1
      · rw [moved, if_pos h2]
        by_cases h3 : l < n
        · rw [put, if_neg h1, if_pos h3, put, if_neg h1, if_pos h3, moved, if_pos (by omega)]
        · rw [put, if_neg h1, if_neg h3, put, if_neg h1, if_neg h3, moved, if_pos (by omega)]
      · rw [moved, if_neg h2, put, if_neg (by omega), if_pos (by omega), put, if_neg h1, if_pos (by omega), moved, if_neg (by omega)]
        congr 1; omega
  | book s => intro k _; rfl
  | turn d ih =>
    intro k hk
    simp only [moved, put]
    rw [show k + m + 1 = k + 1 + m by omega, ih (k + 1) (by omega)]
  | dod f e i1 i2 => intro k hk; simp only [moved, put, i1 k hk, i2 k hk]
  | both f e i1 i2 => intro k hk; simp only [moved, put, i1 k hk, i2 k hk]
  | first d ih => intro k hk; simp only [moved, put, ih k hk]
  | second d ih => intro k hk; simp only [moved, put, ih k hk]

/-- L6 -/
theorem put_gone {l a j : Nat} (h1 : l ≤ a) (h2 : a ≤ l + j) (x e : Dd) : ∀ k : Nat, put a x k (moved l (j + 1) e) = moved l j e := by
  induction e with
  | spot n =>
    intro k
    by_cases h3 : n < l
    · rw [moved, if_pos h3, put, if_neg (by omega), if_neg (by omega), moved, if_pos h3]
    · rw [moved, if_neg h3, put, if_neg (by omega), if_pos (by omega), moved, if_neg h3]
      congr 1
  | book s => intro k; rfl
  | turn d ih => intro k; simp only [moved, put, ih]
  | dod f e i1 i2 => intro k; simp only [moved, put, i1, i2]
  | both f e i1 i2 => intro k; simp only [moved, put, i1, i2]
  | first d ih => intro k; simp only [moved, put, ih]
  | second d ih => intro k; simp only [moved, put, ih]

/-- L5 -/
theorem put_put {l a : Nat} (h : l ≤ a) (e f c : Dd) : ∀ k : Nat, a ≤ k → put l e k (put (a + 1) f (k + 1) c) = put a (put l e a f) k (put l e (k + 1) c) := by
  induction c with
  | spot n =>
    intro k hk
    by_cases h1 : n = a + 1
    · subst h1
      rw [put, if_pos rfl, put, if_neg (by omega), if_pos (by omega), show a + 1 - 1 = a by omega, put, if_pos rfl]
      have q := put_moved (m := k - a) h e f a (Nat.le_refl _)
      rw [show a + (k - a) = k by omega] at q
      rw [show k + 1 - (a + 1) = k - a by omega, q]
    · by_cases h2 : a + 1 < n
      · rw [put, if_neg h1, if_pos h2, put, if_neg (by omega), if_pos (by omega), put, if_neg (by omega), if_pos (by omega), put, if_neg (by omega), if_pos (by omega)]
      · rw [put, if_neg h1, if_neg h2]
        by_cases h3 : n = l
        · subst h3
          rw [put, if_pos rfl, put, if_pos rfl, show k + 1 - n = (k - n) + 1 by omega, put_gone h (by omega)]
        · by_cases h4 : l < n
          · rw [put, if_neg h3, if_pos h4, put, if_neg h3, if_pos h4, put, if_neg (by omega), if_neg (by omega)]
          · rw [put, if_neg h3, if_neg h4, put, if_neg h3, if_neg h4, put, if_neg (by omega), if_neg (by omega)]
  | book s => intro k _; rfl
  | turn d ih => intro k hk; simp only [put]; rw [ih (k + 1) (by omega)]
  | dod f e i1 i2 => intro k hk; simp only [put, i1 k hk, i2 k hk]
  | both f e i1 i2 => intro k hk; simp only [put, i1 k hk, i2 k hk]
  | first d ih => intro k hk; simp only [put, ih k hk]
  | second d ih => intro k hk; simp only [put, ih k hk]
end Dd
end Fd
set_option Elab.async false
namespace Fd
open PySem Dd

/-! ### steps side by side -/
inductive Par : Nat → Dd → Dd → Prop
  | spot {g n} : Par g (spot n) (spot n)
  | book {g s} : Par g (book s) (book s)
  | turn {g d d'} : Par (g + 1) d d' → Par g (turn d) (turn d')
  | dod {g f f' e e'} : Par g f f' → Par g e e' → Par g (dod f e) (dod f' e')
  | both {g f f' e e'} : Par g f f' → Par g e e' → Par g (both f e) (both f' e')
  | first {g d d'} : Par g d d' → Par g (first d) (first d')
  | second {g d d'} : Par g d d' → Par g (second d) (second d')
  | beta {g b b' e e'} : Par (g + 1) b b' → Par g e e' → Par g (dod (turn b) e) (put g e' g b')
  | fst {g a a' c} : Par g a a' → Par g (first (both a c)) a'
  | snd {g a c c'} : Par g c c' → Par g (second (both a c)) c'

theorem Par.refl : ∀ (g : Nat) (d : Dd), Par g d d
  | _, .spot _ => .spot
  | _, .book _ => .book
  | g, .turn d => .turn (Par.refl (g + 1) d)
  | g, .dod f e => .dod (Par.refl g f) (Par.refl g e)
  | g, .both f e => .both (Par.refl g f) (Par.refl g e)
  | g, .first d => .first (Par.refl g d)
  | g, .second d => .second (Par.refl g d)

theorem Par.moved {l m k : Nat} {d d' : Dd} (h : Par k d d') : l ≤ k → Par (k + m) (Dd.moved l m d) (Dd.moved l m d') := by
  induction h with
  | spot => intro _; exact Par.refl _ _
  | book => intro _; exact .book
  | @turn g d d' _ ih =>
    intro hk
    have q := ih (by omega)
    rw [show g + 1 + m = g + m + 1 by omega] at q
    exact .turn q
  | dod _ _ i1 i2 => intro hk; exact .dod (i1 hk) (i2 hk)
  | both _ _ i1 i2 => intro hk; exact .both (i1 hk) (i2 hk)
  | first _ ih => intro hk; exact .first (ih hk)
  | second _ ih => intro hk; exact .second (ih hk)
  | @beta g b b' e e' _ _ i1 i2 =>
    intro hk
    rw [moved_put hk e' b' g (Nat.le_refl _)]
    have q := i1 (by omega)
    rw [show g + 1 + m = g + m + 1 by omega] at q
    exact .beta q (i2 hk)
  | fst _ ih => intro hk; exact .fst (ih hk)
  | snd _ ih => intro hk; exact .snd (ih hk)

theorem Par.put {l : Nat} {e e' : Dd} (he : Par l e e') {k : Nat} {b b' : Dd} (h : Par k b b') : ∀ a, k = a + 1 → l ≤ a → Par a (Dd.put l e a b) (Dd.put l e' a b') := by
  induction h with
  | @spot g n =>
    intro a _ ha
    by_cases h1 : n = l
    · subst h1
      rw [Dd.put, if_pos rfl, Dd.put, if_pos rfl]
      have q := he.moved (l := n) (m := a - n) (Nat.le_refl _)
      rw [show n + (a - n) = a by omega] at q
      exact q
    · rw [Dd.put, if_neg h1, Dd.put, if_neg h1]
      exact Par.refl _ _
  | book => intro a _ _; exact .book
  | turn _ ih => intro a e1 ha; subst e1; exact .turn (ih (a + 1) rfl (by omega))
  | dod _ _ i1 i2 => intro a e1 ha; exact .dod (i1 a e1 ha) (i2 a e1 ha)
  | both _ _ i1 i2 => intro a e1 ha; exact .both (i1 a e1 ha) (i2 a e1 ha)
  | first _ ih => intro a e1 ha; exact .first (ih a e1 ha)
  | second _ ih => intro a e1 ha; exact .second (ih a e1 ha)
  | beta _ _ i1 i2 =>
    intro a e1 ha
    subst e1
    rw [put_put ha e' _ _ a (Nat.le_refl _)]
    exact .beta (i1 (a + 1) rfl (by omega)) (i2 a rfl ha)
  | fst _ ih => intro a e1 ha; exact .fst (ih a e1 ha)
  | snd _ ih => intro a e1 ha; exact .snd (ih a e1 ha)

/-- all at once -/
def full : Nat → Dd → Dd
  | _, .spot n => .spot n
  | _, .book s => .book s
  | g, .turn d => .turn (full (g + 1) d)
  | g, .dod (.turn b) e => Dd.put g (full g e) g (full (g + 1) b)
  | g, .dod f e => .dod (full g f) (full g e)
  | g, .both a b => .both (full g a) (full g b)
  | g, .first (.both a _) => full g a
  | g, .first d => .first (full g d)
  | g, .second (.both _ b) => full g b
  | g, .second d => .second (full g d)

theorem Par.full {g : Nat} {d d' : Dd} (h : Par g d d') : Par g d' (full g d) := by
  induction h with
  | spot => exact .spot
  | book => exact .book
  | turn _ ih => exact .turn ih
  | @dod g f f' e e' hf he i1 i2 =>
    cases hf with
    | turn hb =>
      cases i1 with
      | turn j => exact .beta j i2
    | spot => exact .dod i1 i2
    | book => exact .dod i1 i2
    | dod _ _ => exact .dod i1 i2
    | both _ _ => exact .dod i1 i2
    | first _ => exact .dod i1 i2
    | second _ => exact .dod i1 i2
    | beta _ _ => exact .dod i1 i2
    | fst _ => exact .dod i1 i2
    | snd _ => exact .dod i1 i2
  | both _ _ i1 i2 => exact .both i1 i2
  | first hd ih =>
    cases hd with
    | both _ _ =>
      cases ih with
      | both j _ => exact .fst j
    | spot => exact .first ih
    | book => exact .first ih
    | turn _ => exact .first ih
    | dod _ _ => exact .first ih
    | first _ => exact .first ih
    | second _ => exact .first ih
    | beta _ _ => exact .first ih
    | fst _ => exact .first ih
    | snd _ => exact .first ih
  | second hd ih =>
    cases hd with
    | both _ _ =>
      cases ih with
      | both _ j => exact .snd j
    | spot => exact .second ih
    | book => exact .second ih
    | turn _ => exact .second ih
    | dod _ _ => exact .second ih
    | first _ => exact .second ih
    | second _ => exact .second ih
    | beta _ _ => exact .second ih
    | fst _ => exact .second ih
    | snd _ => exact .second ih
  | beta _ _ i1 i2 => exact Par.put i2 i1 _ rfl (Nat.le_refl _)
  | fst _ ih => exact ih
  | snd _ ih => exact ih

/-- many -/
inductive Pars (g : Nat) : Dd → Dd → Prop
  | refl {d} : Pars g d d
  | tail {d e f} : Par g d e → Pars g e f → Pars g d f
theorem Pars.one {g : Nat} {d e : Dd} (h : Par g d e) : Pars g d e := .tail h .refl
theorem Pars.trans {g : Nat} {d e f : Dd} (h : Pars g d e) : Pars g e f → Pars g d f := by
  induction h with
  | refl => exact id
  | tail p _ ih => exact fun q => .tail p (ih q)
theorem Pars.strip {g : Nat} {a c : Dd} (h : Pars g a c) : ∀ {b : Dd}, Par g a b → ∃ d, Pars g b d ∧ Par g c d := by
  induction h with
  | refl => intro b p; exact ⟨b, .refl, p⟩
  | @tail a e c p _ ih =>
    intro b q
    obtain ⟨d, h1, h2⟩ := ih p.full
    exact ⟨d, .tail q.full h1, h2⟩
theorem Pars.church {g : Nat} {a b : Dd} (h : Pars g a b) : ∀ {c : Dd}, Pars g a c → ∃ d, Pars g b d ∧ Pars g c d := by
  induction h with
  | refl => intro c q; exact ⟨c, q, .refl⟩
  | @tail a e b p _ ih =>
    intro c q
    obtain ⟨d, h1, h2⟩ := q.strip p
    obtain ⟨x, h3, h4⟩ := ih h1
    exact ⟨x, h3, .tail h2 h4⟩

/-- nothing to step -/
def Still (g : Nat) (d : Dd) : Prop := Dd.step g d = none

theorem map_none {α β : Type} {f : α → β} {o : Option α} (h : o.map f = none) : o = none := by
  cases o with
  | none => rfl
  | some _ => cases h
theorem Still.turn {g : Nat} {d : Dd} (h : Still g (.turn d)) : Still (g + 1) d := map_none (show (Dd.step (g + 1) d).map Dd.turn = none from h)
theorem Still.dod {g : Nat} {f e : Dd} (h : Still g (.dod f e)) : Dd.here g (.dod f e) = none ∧ Still g f ∧ Still g e := by
  have h' : (match Dd.here g (.dod f e) with
    | some r => some r
    | none => match Dd.step g f with
      | some f' => some (.dod f' e)
      | none => (Dd.step g e).map (.dod f)) = none := by
    have q := h; unfold Still at q; rw [Dd.step] at q; exact q
  cases q1 : Dd.here g (.dod f e) with
  | some r => rw [q1] at h'; cases h'
  | none =>
    rw [q1] at h'
    cases q2 : Dd.step g f with
    | some r => simp only [q2] at h'; cases h'
    | none =>
      simp only [q2] at h'
      exact ⟨rfl, q2, map_none h'⟩
theorem Still.both {g : Nat} {f e : Dd} (h : Still g (.both f e)) : Still g f ∧ Still g e := by
  have h' : (match Dd.step g f with
      | some f' => some (Dd.both f' e)
      | none => (Dd.step g e).map (Dd.both f)) = none := by
    have q := h; unfold Still at q; rw [Dd.step] at q; exact q
  cases q2 : Dd.step g f with
  | some r => rw [q2] at h'; cases h'
  | none => rw [q2] at h'; exact ⟨q2, map_none h'⟩
theorem Still.first {g : Nat} {d : Dd} (h : Still g (.first d)) : Dd.here g (.first d) = none ∧ Still g d := by
  have h' : (match Dd.here g (.first d) with
      | some r => some r
      | none => (Dd.step g d).map Dd.first) = none := by
    have q := h; unfold Still at q; rw [Dd.step] at q; exact q
  cases q2 : Dd.here g (.first d) with
  | some r => rw [q2] at h'; cases h'
  | none => rw [q2] at h'; exact ⟨rfl, map_none h'⟩
theorem Still.second {g : Nat} {d : Dd} (h : Still g (.second d)) : Dd.here g (.second d) = none ∧ Still g d := by
  have h' : (match Dd.here g (.second d) with
      | some r => some r
      | none => (Dd.step g d).map Dd.second) = none := by
    have q := h; unfold Still at q; rw [Dd.step] at q; exact q
  cases q2 : Dd.here g (.second d) with
  | some r => rw [q2] at h'; cases h'
  | none => rw [q2] at h'; exact ⟨rfl, map_none h'⟩

theorem Par.still {g : Nat} {d d' : Dd} (h : Par g d d') : Still g d → d' = d := by
  induction h with
  | spot => intro _; rfl
  | book => intro _; rfl
  | turn _ ih => intro s; rw [ih s.turn]
  | dod _ _ i1 i2 => intro s; obtain ⟨_, s1, s2⟩ := s.dod; rw [i1 s1, i2 s2]
  | both _ _ i1 i2 => intro s; obtain ⟨s1, s2⟩ := s.both; rw [i1 s1, i2 s2]
  | first _ ih => intro s; rw [ih s.first.2]
  | second _ ih => intro s; rw [ih s.second.2]
  | beta _ _ _ _ => intro s; cases s.dod.1
  | fst _ _ => intro s; cases s.first.1
  | snd _ _ => intro s; cases s.second.1
theorem Pars.still {g : Nat} {d d' : Dd} (h : Pars g d d') : Still g d → d' = d := by
  induction h with
  | refl => intro _; rfl
  | tail p _ ih =>
    intro s
    have e := p.still s
    subst e
    exact ih s

theorem here_par {g : Nat} {d r : Dd} (h : Dd.here g d = some r) : Par g d r := by
  unfold Dd.here at h
  split at h
  · cases h; exact .beta (Par.refl _ _) (Par.refl _ _)
  · cases h; exact .fst (Par.refl _ _)
  · cases h; exact .snd (Par.refl _ _)
  · cases h
theorem map_some {α β : Type} {f : α → β} {o : Option α} {r : β} (h : o.map f = some r) : ∃ x, o = some x ∧ f x = r := by
  cases o with
  | none => cases h
  | some x => cases h; exact ⟨x, rfl, rfl⟩

/-- what a step is -/
theorem step_dod {g : Nat} {f e r : Dd} (h : Dd.step g (.dod f e) = some r) : Dd.here g (.dod f e) = some r ∨ (∃ f', Dd.step g f = some f' ∧ r = .dod f' e) ∨ ∃ e', Dd.step g e = some e' ∧ r = .dod f e' := by
  rw [Dd.step] at h
  cases q1 : Dd.here g (.dod f e) with
  | some r' => rw [q1] at h; exact .inl h
  | none =>
    rw [q1] at h
    cases q2 : Dd.step g f with
    | some f' => simp only [q2] at h; cases h; exact .inr (.inl ⟨f', rfl, rfl⟩)
    | none =>
      simp only [q2] at h
      obtain ⟨x, e1, e2⟩ := map_some h
      exact .inr (.inr ⟨x, e1, e2.symm⟩)
theorem step_both {g : Nat} {f e r : Dd} (h : Dd.step g (.both f e) = some r) : (∃ f', Dd.step g f = some f' ∧ r = .both f' e) ∨ ∃ e', Dd.step g e = some e' ∧ r = .both f e' := by
  rw [Dd.step] at h
  cases q2 : Dd.step g f with
  | some f' => rw [q2] at h; cases h; exact .inl ⟨f', rfl, rfl⟩
  | none =>
    rw [q2] at h
    obtain ⟨x, e1, e2⟩ := map_some h
    exact .inr ⟨x, e1, e2.symm⟩
theorem step_first {g : Nat} {d r : Dd} (h : Dd.step g (.first d) = some r) : Dd.here g (.first d) = some r ∨ ∃ d', Dd.step g d = some d' ∧ r = .first d' := by
  rw [Dd.step] at h
  cases q1 : Dd.here g (.first d) with
  | some r' => rw [q1] at h; exact .inl h
  | none =>
    rw [q1] at h
    obtain ⟨x, e1, e2⟩ := map_some h
    exact .inr ⟨x, e1, e2.symm⟩
theorem step_second {g : Nat} {d r : Dd} (h : Dd.step g (.second d) = some r) : Dd.here g (.second d) = some r ∨ ∃ d', Dd.step g d = some d' ∧ r = .second d' := by
  rw [Dd.step] at h
  cases q1 : Dd.here g (.second d) with
  | some r' => rw [q1] at h; exact .inl h
  | none =>
    rw [q1] at h
    obtain ⟨x, e1, e2⟩ := map_some h
    exact .inr ⟨x, e1, e2.symm⟩

theorem step_par : ∀ (d : Dd) {g : Nat} {r : Dd}, Dd.step g d = some r → Par g d r
  | .spot _, _, _, h => by cases h
  | .book _, _, _, h => by cases h
  | .turn d, g, r, h => by
    rw [Dd.step] at h
    obtain ⟨x, e1, e2⟩ := map_some h
    subst e2
    exact .turn (step_par d e1)
  | .dod f e, g, r, h => by
    rcases step_dod h with q | ⟨x, q, rfl⟩ | ⟨x, q, rfl⟩
    · exact here_par q
    · exact .dod (step_par f q) (Par.refl _ _)
    · exact .dod (Par.refl _ _) (step_par e q)
  | .both f e, g, r, h => by
    rcases step_both h with ⟨x, q, rfl⟩ | ⟨x, q, rfl⟩
    · exact .both (step_par f q) (Par.refl _ _)
    · exact .both (Par.refl _ _) (step_par e q)
  | .first d, g, r, h => by
    rcases step_first h with q | ⟨x, q, rfl⟩
    · exact here_par q
    · exact .first (step_par d q)
  | .second d, g, r, h => by
    rcases step_second h with q | ⟨x, q, rfl⟩
    · exact here_par q
    · exact .second (step_par d q)

/-- n steps from the first place -/
inductive Steps : Nat → Dd → Dd → Prop
  | zero {d} : Steps 0 d d
  | succ {n d e f} : Dd.step 0 d = some e → Steps n e f → Steps (n + 1) d f
theorem Steps.pars {n : Nat} {d e : Dd} (h : Steps n d e) : Pars 0 d e := by
  induction h with
  | zero => exact .refl
  | succ p _ ih => exact .tail (step_par _ p) ih
/-- the still end is the one -/
theorem only_end {n : Nat} {d e s : Dd} (h : Pars 0 d e) (he : Still 0 e) (hs : Steps n d s) (ss : Still 0 s) : s = e := by
  obtain ⟨x, h1, h2⟩ := h.church hs.pars
  exact (h2.still ss).symm.trans (h1.still he)
end Fd
set_option Elab.async false
namespace Fd
open PySem Dd

/-! ### a deed grown -/
/-- what stands beside -/
def spareOf (g : Nat) (A : Dd) : Prop := (∃ i, i < g ∧ A = .spot i) ∨ A = .turn (.spot g)
/-- grown: true where something may stand about the whole -/
inductive Gro : Bool → Nat → Dd → Dd → Prop
  | spot {g n} : Gro false g (spot n) (spot n)
  | book {g s} : Gro false g (book s) (book s)
  | turn {g d d'} : Gro true (g + 1) d d' → Gro false g (turn d) (turn d')
  | dod {g f f' e e'} : Gro true g f f' → Gro true g e e' → Gro false g (dod f e) (dod f' e')
  | both {g f f' e e'} : Gro true g f f' → Gro true g e e' → Gro false g (both f e) (both f' e')
  | first {g d d'} : Gro true g d d' → Gro false g (first d) (first d')
  | second {g d d'} : Gro true g d d' → Gro false g (second d) (second d')
  | same {g d d'} : Gro false g d d' → Gro true g d d'
  | kill {g d d' A} : Gro false g d d' → spareOf g A → Gro true g d (dod (turn (moved g 1 d')) A)
  | fst {g d d' A} : Gro false g d d' → spareOf g A → Gro true g d (first (both d' A))
  | snd {g d d' A} : Gro false g d d' → spareOf g A → Gro true g d (second (both A d'))
  | idd {g d d'} : Gro false g d d' → Gro true g d (dod (turn (spot g)) d')
theorem Gro.reflF : ∀ (d : Dd) (g : Nat), Gro false g d d
  | .spot _, _ => .spot
  | .book _, _ => .book
  | .turn d, g => .turn (.same (Gro.reflF d (g + 1)))
  | .dod f e, g => .dod (.same (Gro.reflF f g)) (.same (Gro.reflF e g))
  | .both f e, g => .both (.same (Gro.reflF f g)) (.same (Gro.reflF e g))
  | .first d, g => .first (.same (Gro.reflF d g))
  | .second d, g => .second (.same (Gro.reflF d g))

theorem Pars.map {g k : Nat} (f : Dd → Dd) (hf : ∀ {d e}, Par g d e → Par k (f d) (f e)) {d e : Dd} (h : Pars g d e) : Pars k (f d) (f e) := by
  induction h with
  | refl => exact .refl
  | tail p _ ih => exact .tail (hf p) ih
theorem Pars.dod {g : Nat} {f f' e e' : Dd} (h1 : Pars g f f') (h2 : Pars g e e') : Pars g (.dod f e) (.dod f' e') :=
  (h1.map (fun x => .dod x e) fun p => .dod p (Par.refl _ _)).trans (h2.map (fun x => .dod f' x) fun p => .dod (Par.refl _ _) p)
theorem Pars.both {g : Nat} {f f' e e' : Dd} (h1 : Pars g f f') (h2 : Pars g e e') : Pars g (.both f e) (.both f' e') :=
  (h1.map (fun x => .both x e) fun p => .both p (Par.refl _ _)).trans (h2.map (fun x => .both f' x) fun p => .both (Par.refl _ _) p)
theorem put_new {g : Nat} (A d : Dd) : put g A g (moved g 1 d) = d := by
  rw [put_gone (j := 0) (Nat.le_refl _) (by omega), moved_zero]
theorem put_own (g : Nat) (e : Dd) : put g e g (spot g) = e := by
  rw [put, if_pos rfl, Nat.sub_self, moved_zero]
theorem Gro.pars {w : Bool} {g : Nat} {d G : Dd} (h : Gro w g d G) : Pars g G d := by
  induction h with
  | spot => exact .refl
  | book => exact .refl
  | turn _ ih => exact ih.map Dd.turn fun p => .turn p
  | dod _ _ i1 i2 => exact i1.dod i2
  | both _ _ i1 i2 => exact i1.both i2
  | first _ ih => exact ih.map Dd.first fun p => .first p
  | second _ ih => exact ih.map Dd.second fun p => .second p
  | same _ ih => exact ih
  | @kill g d d' A _ _ ih =>
    have q : Par g (.dod (.turn (moved g 1 d')) A) (put g A g (moved g 1 d')) := .beta (Par.refl _ _) (Par.refl _ _)
    rw [put_new] at q
    exact .tail q ih
  | fst _ _ ih => exact .tail (.fst (Par.refl _ _)) ih
  | snd _ _ ih => exact .tail (.snd (Par.refl _ _)) ih
  | @idd g d d' _ ih =>
    have q : Par g (.dod (.turn (.spot g)) d') (put g d' g (.spot g)) := .beta (Par.refl _ _) (Par.refl _ _)
    rw [put_own] at q
    exact .tail q ih

/-! ### spots below what is given -/
def held : Nat → Dd → Prop
  | g, .spot n => n < g
  | _, .book _ => True
  | g, .turn d => held (g + 1) d
  | g, .dod f e => held g f ∧ held g e
  | g, .both f e => held g f ∧ held g e
  | g, .first d => held g d
  | g, .second d => held g d
theorem held_moved {l m : Nat} (d : Dd) : ∀ {g : Nat}, held g d → held (g + m) (moved l m d) := by
  induction d with
  | spot n => intro g h; simp only [moved]; split <;> simp only [held] at * <;> omega
  | book s => intro g h; trivial
  | turn d ih =>
    intro g h
    have q := ih (g := g + 1) h
    rw [show g + 1 + m = g + m + 1 by omega] at q
    exact q
  | dod f e i1 i2 => intro g h; exact ⟨i1 h.1, i2 h.2⟩
  | both f e i1 i2 => intro g h; exact ⟨i1 h.1, i2 h.2⟩
  | first d ih => intro g h; exact ih (g := g) h
  | second d ih => intro g h; exact ih (g := g) h
theorem held_put {l : Nat} {e : Dd} (he : held l e) (b : Dd) : ∀ a, l ≤ a → held (a + 1) b → held a (put l e a b) := by
  induction b with
  | spot n =>
    intro a ha h
    have h' : n < a + 1 := h
    rw [put]
    by_cases h1 : n = l
    · rw [if_pos h1]
      have q := held_moved (l := l) (m := a - l) e he
      rw [show l + (a - l) = a by omega] at q
      exact q
    · rw [if_neg h1]
      split
      · show n - 1 < a; omega
      · show n < a; omega
  | book s => intro a _ _; trivial
  | turn d ih => intro a ha h; exact ih (a + 1) (by omega) h
  | dod f e i1 i2 => intro a ha h; exact ⟨i1 a ha h.1, i2 a ha h.2⟩
  | both f e i1 i2 => intro a ha h; exact ⟨i1 a ha h.1, i2 a ha h.2⟩
  | first d ih => intro a ha h; exact ih a ha h
  | second d ih => intro a ha h; exact ih a ha h
theorem spare_held {g : Nat} {A : Dd} (h : spareOf g A) : held g A := by
  rcases h with ⟨i, hi, rfl⟩ | rfl
  · exact hi
  · exact Nat.lt_succ_self g
theorem Gro.held {w : Bool} {g : Nat} {d G : Dd} (h : Gro w g d G) : Fd.held g d → Fd.held g G := by
  induction h with
  | spot => exact id
  | book => exact id
  | turn _ ih => exact ih
  | dod _ _ i1 i2 => exact fun h => ⟨i1 h.1, i2 h.2⟩
  | both _ _ i1 i2 => exact fun h => ⟨i1 h.1, i2 h.2⟩
  | first _ ih => exact ih
  | second _ ih => exact ih
  | same _ ih => exact ih
  | kill _ hs ih => exact fun h => ⟨held_moved _ (ih h), spare_held hs⟩
  | fst _ hs ih => exact fun h => ⟨ih h, spare_held hs⟩
  | snd _ hs ih => exact fun h => ⟨spare_held hs, ih h⟩
  | idd _ ih => exact fun h => ⟨Nat.lt_succ_self _, ih h⟩
theorem depth_spare {g : Nat} {A : Dd} (h : spareOf g A) : depth A ≤ 2 := by
  rcases h with ⟨i, hi, rfl⟩ | rfl <;> simp [depth]
end Fd
set_option Elab.async false
namespace Fd
open PySem Dd

/-! ### forms of twice grown deeds -/
/-- n, v: what the plain deed has; kf: a turn whose spot is used nowhere but beside; p1, p2: a pair of which one is used; idf: a turn that tells what it is given -/
inductive Sh where
  | n | v | idf
  | kf (t : Sh) | p1 (t : Sh) | p2 (t : Sh)
def exB (Γ : Nat → Bool) (g : Nat) (b : Bool) : Nat → Bool := fun i => if i = g then b else Γ i
/-- the inner of a turn that tells what it is given -/
inductive Zed (ok : Dd → Prop) (g : Nat) : Dd → Prop
  | own : Zed ok g (spot g)
  | kill {S} : (S = spot g ∨ ∃ S', S = moved g 1 S' ∧ ok S') → Zed ok g (dod (turn (spot g)) S)
  | fst {S} : (S = spot g ∨ ∃ S', S = moved g 1 S' ∧ ok S') → Zed ok g (first (both (spot g) S))
  | snd {S} : (S = spot g ∨ ∃ S', S = moved g 1 S' ∧ ok S') → Zed ok g (second (both S (spot g)))
  | idd : Zed ok g (dod (turn (spot (g + 1))) (spot g))
inductive Q : Nat → Nat → (Nat → Bool) → Dd → Sh → Prop
  | spot {z g Γ i} : i < g → Γ i = true → Q z g Γ (spot i) .n
  | book {z g Γ s} : Q z g Γ (book s) .n
  | sub {z g Γ d} : Q z g Γ d .n → Q z g Γ d .v
  | turn {z g Γ b} : Q z (g + 1) (exB Γ g true) b .v → Q z g Γ (turn b) .v
  | don {z g Γ f e} : Q z g Γ f .n → Q z g Γ e .v → Q z g Γ (dod f e) .n
  | both {z g Γ f e} : Q z g Γ f .v → Q z g Γ e .v → Q z g Γ (both f e) .v
  | first {z g Γ d} : Q z g Γ d .n → Q z g Γ (first d) .n
  | second {z g Γ d} : Q z g Γ d .n → Q z g Γ (second d) .n
  | kfun {z g Γ b t} : Q z (g + 1) (exB Γ g false) b t → Q z g Γ (turn b) (.kf t)
  | kapp {z g Γ f A t} : Q z g Γ f (.kf t) → held g A → Q z g Γ (dod f A) t
  | pr1 {z g Γ X S t} : Q z g Γ X t → held g S → Q z g Γ (both X S) (.p1 t)
  | pr2 {z g Γ X S t} : Q z g Γ X t → held g S → Q z g Γ (both S X) (.p2 t)
  | fst {z g Γ X t} : Q z g Γ X (.p1 t) → Q z g Γ (first X) t
  | snd {z g Γ X t} : Q z g Γ X (.p2 t) → Q z g Γ (second X) t
  | ifun {z g Γ Z} : 1 ≤ z → (z = 1 → Z = spot g) → Zed (held g) g Z → Q z g Γ (turn Z) .idf
  | iapp {z g Γ f X t} : Q z g Γ f .idf → Q z g Γ X t → Q z g Γ (dod f X) t

theorem Q.moved {z l m g : Nat} {Γ : Nat → Bool} {d : Dd} {t : Sh} (h : Q z g Γ d t) : l ≤ g → ∀ Δ : Nat → Bool, (∀ i, i < l → Δ i = Γ i) → (∀ i, l ≤ i → i < g → Δ (i + m) = Γ i) → Q z (g + m) Δ (Dd.moved l m d) t := by
  have exk : ∀ {g : Nat} {Γ Δ : Nat → Bool} {b : Bool}, l ≤ g → (∀ i, i < l → Δ i = Γ i) → (∀ i, l ≤ i → i < g → Δ (i + m) = Γ i) →
      (∀ i, i < l → exB Δ (g + m) b i = exB Γ g b i) ∧ (∀ i, l ≤ i → i < g + 1 → exB Δ (g + m) b (i + m) = exB Γ g b i) := fun {g Γ Δ b} hl h1 h2 =>
    ⟨fun i hi => by unfold exB; rw [if_neg (by omega), if_neg (by omega)]; exact h1 i hi, fun i h3 h4 => by
      unfold exB
      by_cases e : i = g
      · rw [if_pos (by omega), if_pos e]
      · rw [if_neg (by omega), if_neg e]; exact h2 i h3 (by omega)⟩
  induction h with
  | @spot g Γ i hi hg =>
    intro hl Δ h1 h2
    rw [Dd.moved]
    split
    · rename_i q
      exact .spot (by omega) ((h1 i q).trans hg)
    · rename_i q
      exact .spot (by omega) ((h2 i (by omega) hi).trans hg)
  | book => intro _ _ _ _; exact .book
  | sub _ ih => intro hl Δ h1 h2; exact .sub (ih hl Δ h1 h2)
  | @turn g Γ b _ ih =>
    intro hl Δ h1 h2
    obtain ⟨a1, a2⟩ := exk (b := true) hl h1 h2
    have q := ih (by omega) _ a1 a2
    rw [show g + 1 + m = g + m + 1 by omega] at q
    exact .turn q
  | don _ _ i1 i2 => intro hl Δ h1 h2; exact .don (i1 hl Δ h1 h2) (i2 hl Δ h1 h2)
  | both _ _ i1 i2 => intro hl Δ h1 h2; exact .both (i1 hl Δ h1 h2) (i2 hl Δ h1 h2)
  | first _ ih => intro hl Δ h1 h2; exact .first (ih hl Δ h1 h2)
  | second _ ih => intro hl Δ h1 h2; exact .second (ih hl Δ h1 h2)
  | @kfun g Γ b t _ ih =>
    intro hl Δ h1 h2
    obtain ⟨a1, a2⟩ := exk (b := false) hl h1 h2
    have q := ih (by omega) _ a1 a2
    rw [show g + 1 + m = g + m + 1 by omega] at q
    exact .kfun q
  | kapp _ hA ih => intro hl Δ h1 h2; exact .kapp (ih hl Δ h1 h2) (held_moved _ hA)
  | pr1 _ hA ih => intro hl Δ h1 h2; exact .pr1 (ih hl Δ h1 h2) (held_moved _ hA)
  | pr2 _ hA ih => intro hl Δ h1 h2; exact .pr2 (ih hl Δ h1 h2) (held_moved _ hA)
  | fst _ ih => intro hl Δ h1 h2; exact .fst (ih hl Δ h1 h2)
  | snd _ ih => intro hl Δ h1 h2; exact .snd (ih hl Δ h1 h2)
  | @ifun g Γ Z hz hz1 hZ =>
    intro hl Δ h1 h2
    have own : Dd.moved l m (Dd.spot g) = .spot (g + m) := by rw [Dd.moved, if_neg (by omega)]
    have sp : ∀ {S}, (S = Dd.spot g ∨ ∃ S', S = Dd.moved g 1 S' ∧ held g S') → (Dd.moved l m S = Dd.spot (g + m) ∨ ∃ S', Dd.moved l m S = Dd.moved (g + m) 1 S' ∧ held (g + m) S') := by
      rintro S (rfl | ⟨S', rfl, hS⟩)
      · exact .inl own
      · exact .inr ⟨_, moved_comm hl S', held_moved _ hS⟩
    refine .ifun hz (fun e => ?_) ?_
    · rw [hz1 e]; exact own
    · cases hZ with
      | own => rw [own]; exact .own
      | kill h => simp only [Dd.moved]; rw [if_neg (show ¬ g < l by omega)]; exact .kill (sp h)
      | fst h => simp only [Dd.moved]; rw [if_neg (show ¬ g < l by omega)]; exact .fst (sp h)
      | snd h => simp only [Dd.moved]; rw [if_neg (show ¬ g < l by omega)]; exact .snd (sp h)
      | idd =>
        simp only [Dd.moved]
        rw [if_neg (show ¬ g < l by omega), if_neg (show ¬ g + 1 < l by omega), show g + 1 + m = g + m + 1 by omega]
        exact .idd
  | iapp _ _ i1 i2 => intro hl Δ h1 h2; exact .iapp (i1 hl Δ h1 h2) (i2 hl Δ h1 h2)

theorem Q.new {z g : Nat} {Γ : Nat → Bool} {b : Bool} {d : Dd} {t : Sh} (h : Q z g Γ d t) : Q z (g + 1) (exB Γ g b) (Dd.moved g 1 d) t :=
  h.moved (Nat.le_refl _) _ (fun i hi => by unfold exB; rw [if_neg (by omega)]) (fun i h1 h2 => by omega)
theorem Q.up {z z' g : Nat} {Γ : Nat → Bool} {d : Dd} {t : Sh} (h : Q z g Γ d t) : z ≤ z' → Q z' g Γ d t := by
  induction h with
  | spot h1 h2 => exact fun _ => .spot h1 h2
  | book => exact fun _ => .book
  | sub _ ih => exact fun q => .sub (ih q)
  | turn _ ih => exact fun q => .turn (ih q)
  | don _ _ i1 i2 => exact fun q => .don (i1 q) (i2 q)
  | both _ _ i1 i2 => exact fun q => .both (i1 q) (i2 q)
  | first _ ih => exact fun q => .first (ih q)
  | second _ ih => exact fun q => .second (ih q)
  | kfun _ ih => exact fun q => .kfun (ih q)
  | kapp _ h ih => exact fun q => .kapp (ih q) h
  | pr1 _ h ih => exact fun q => .pr1 (ih q) h
  | pr2 _ h ih => exact fun q => .pr2 (ih q) h
  | fst _ ih => exact fun q => .fst (ih q)
  | snd _ ih => exact fun q => .snd (ih q)
  | ifun h1 h2 h3 => exact fun q => .ifun (by omega) (fun e => h2 (by omega)) h3
  | iapp _ _ i1 i2 => exact fun q => .iapp (i1 q) (i2 q)
theorem Q.held {z g : Nat} {Γ : Nat → Bool} {d : Dd} {t : Sh} (h : Q z g Γ d t) : Fd.held g d := by
  induction h with
  | spot h1 _ => exact h1
  | book => trivial
  | sub _ ih => exact ih
  | turn _ ih => exact ih
  | don _ _ i1 i2 => exact ⟨i1, i2⟩
  | both _ _ i1 i2 => exact ⟨i1, i2⟩
  | first _ ih => exact ih
  | second _ ih => exact ih
  | kfun _ ih => exact ih
  | kapp _ h ih => exact ⟨ih, h⟩
  | pr1 _ h ih => exact ⟨ih, h⟩
  | pr2 _ h ih => exact ⟨h, ih⟩
  | fst _ ih => exact ih
  | snd _ ih => exact ih
  | @ifun g Γ Z _ _ hZ =>
    have sp : ∀ {S}, (S = Dd.spot g ∨ ∃ S', S = Dd.moved g 1 S' ∧ Fd.held g S') → Fd.held (g + 1) S := by
      rintro S (rfl | ⟨S', rfl, hS⟩)
      · exact Nat.lt_succ_self g
      · exact held_moved _ hS
    have o : Fd.held (g + 1) (Dd.spot g) := Nat.lt_succ_self g
    cases hZ with
    | own => exact o
    | kill h => exact ⟨show g < g + 1 + 1 by omega, sp h⟩
    | fst h => exact ⟨o, sp h⟩
    | snd h => exact ⟨sp h, o⟩
    | idd => exact ⟨show g + 1 < g + 1 + 1 by omega, o⟩
  | iapp _ _ i1 i2 => exact ⟨i1, i2⟩

/-- something about the whole -/
inductive Wr (g : Nat) (X : Dd) : Dd → Prop
  | same : Wr g X X
  | kill {A} : spareOf g A → Wr g X (dod (turn (moved g 1 X)) A)
  | fst {A} : spareOf g A → Wr g X (first (both X A))
  | snd {A} : spareOf g A → Wr g X (second (both A X))
  | idd : Wr g X (dod (turn (spot g)) X)
theorem Gro.wr {g : Nat} {d G : Dd} (h : Gro true g d G) : ∃ X, Gro false g d X ∧ Wr g X G := by
  cases h with
  | same h => exact ⟨_, h, .same⟩
  | kill h s => exact ⟨_, h, .kill s⟩
  | fst h s => exact ⟨_, h, .fst s⟩
  | snd h s => exact ⟨_, h, .snd s⟩
  | idd h => exact ⟨_, h, .idd⟩
theorem Q.wr {z g : Nat} {Γ : Nat → Bool} {X G : Dd} {t : Sh} (h : Q z g Γ X t) (hz : 1 ≤ z) (w : Wr g X G) : Q z g Γ G t := by
  cases w with
  | same => exact h
  | kill s => exact .kapp (.kfun h.new) (spare_held s)
  | fst s => exact .fst (.pr1 h (spare_held s))
  | snd s => exact .snd (.pr2 h (spare_held s))
  | idd => exact .iapp (.ifun hz (fun _ => rfl) .own) h
theorem zed_of {g : Nat} {Z : Dd} (h : Gro true (g + 1) (spot g) Z) : Zed (Fd.held g) g Z := by
  obtain ⟨X, h1, h2⟩ := h.wr
  cases h1
  have mv : Dd.moved (g + 1) 1 (Dd.spot g) = Dd.spot g := by rw [Dd.moved, if_pos (by omega)]
  have sp : ∀ {A}, spareOf (g + 1) A → (A = Dd.spot g ∨ ∃ S', A = Dd.moved g 1 S' ∧ Fd.held g S') := by
    rintro A (⟨i, hi, rfl⟩ | rfl)
    · by_cases e : i = g
      · exact .inl (by rw [e])
      · exact .inr ⟨.spot i, by rw [Dd.moved, if_pos (by omega)], show i < g by omega⟩
    · exact .inr ⟨.turn (.spot g), by simp [Dd.moved], Nat.lt_succ_self g⟩
  cases h2 with
  | same => exact .own
  | kill s => rw [mv]; exact .kill (sp s)
  | fst s => exact .fst (sp s)
  | snd s => exact .snd (sp s)
  | idd => exact .idd
/-- grown once more -/
theorem Q.gro {z g : Nat} {Γ : Nat → Bool} {d : Dd} {t : Sh} (h : Q z g Γ d t) : z ≤ 1 → ∀ G, Gro true g d G → Q (z + 1) g Γ G t := by
  induction h with
  | spot h1 h2 =>
    intro hz G hG
    obtain ⟨X, a, w⟩ := hG.wr
    cases a
    exact (Q.spot h1 h2).wr (by omega) w
  | book =>
    intro hz G hG
    obtain ⟨X, a, w⟩ := hG.wr
    cases a
    exact Q.book.wr (by omega) w
  | sub _ ih => intro hz G hG; exact .sub (ih hz G hG)
  | turn _ ih =>
    intro hz G hG
    obtain ⟨X, a, w⟩ := hG.wr
    cases a with
    | turn a => exact (Q.turn (ih hz _ a)).wr (by omega) w
  | don _ _ i1 i2 =>
    intro hz G hG
    obtain ⟨X, a, w⟩ := hG.wr
    cases a with
    | dod a b => exact (Q.don (i1 hz _ a) (i2 hz _ b)).wr (by omega) w
  | both _ _ i1 i2 =>
    intro hz G hG
    obtain ⟨X, a, w⟩ := hG.wr
    cases a with
    | both a b => exact (Q.both (i1 hz _ a) (i2 hz _ b)).wr (by omega) w
  | first _ ih =>
    intro hz G hG
    obtain ⟨X, a, w⟩ := hG.wr
    cases a with
    | first a => exact (Q.first (ih hz _ a)).wr (by omega) w
  | second _ ih =>
    intro hz G hG
    obtain ⟨X, a, w⟩ := hG.wr
    cases a with
    | second a => exact (Q.second (ih hz _ a)).wr (by omega) w
  | kfun _ ih =>
    intro hz G hG
    obtain ⟨X, a, w⟩ := hG.wr
    cases a with
    | turn a => exact (Q.kfun (ih hz _ a)).wr (by omega) w
  | kapp _ hA ih =>
    intro hz G hG
    obtain ⟨X, a, w⟩ := hG.wr
    cases a with
    | dod a b => exact (Q.kapp (ih hz _ a) (b.held hA)).wr (by omega) w
  | pr1 _ hA ih =>
    intro hz G hG
    obtain ⟨X, a, w⟩ := hG.wr
    cases a with
    | both a b => exact (Q.pr1 (ih hz _ a) (b.held hA)).wr (by omega) w
  | pr2 _ hA ih =>
    intro hz G hG
    obtain ⟨X, a, w⟩ := hG.wr
    cases a with
    | both a b => exact (Q.pr2 (ih hz _ b) (a.held hA)).wr (by omega) w
  | fst _ ih =>
    intro hz G hG
    obtain ⟨X, a, w⟩ := hG.wr
    cases a with
    | first a => exact (Q.fst (ih hz _ a)).wr (by omega) w
  | snd _ ih =>
    intro hz G hG
    obtain ⟨X, a, w⟩ := hG.wr
    cases a with
    | second a => exact (Q.snd (ih hz _ a)).wr (by omega) w
  | @ifun g Γ Z h1 h2 h3 =>
    intro hz G hG
    have e := h2 (by omega)
    subst e
    obtain ⟨X, a, w⟩ := hG.wr
    cases a with
    | turn a => exact (Q.ifun (by omega) (fun e => by omega) (zed_of a)).wr (by omega) w
  | iapp _ _ i1 i2 =>
    intro hz G hG
    obtain ⟨X, a, w⟩ := hG.wr
    cases a with
    | dod a b => exact (Q.iapp (i1 hz _ a) (i2 hz _ b)).wr (by omega) w
end Fd
set_option Elab.async false
namespace Fd
open PySem Dd

/-! ### how deep a deed is, where its dead spots weigh something -/
abbrev En := Nat → Option Nat
def wt : Option Nat → Nat
  | none => 1
  | some q => q
def exN (Γ : En) (g : Nat) (b : Option Nat) : En := fun i => if i = g then b else Γ i
def pd : En → Nat → Dd → Nat
  | Γ, _, .spot n => wt (Γ n)
  | _, _, .book _ => 1
  | Γ, g, .turn d => pd (exN Γ g none) (g + 1) d + 1
  | Γ, g, .dod f e => max (pd Γ g f) (pd Γ g e) + 1
  | Γ, g, .both f e => max (pd Γ g f) (pd Γ g e) + 1
  | Γ, g, .first d => pd Γ g d + 1
  | Γ, g, .second d => pd Γ g d + 1
abbrev E1 : En := fun _ => none
theorem exN_E1 (g : Nat) : exN E1 g none = E1 := by
  funext i; unfold exN; split <;> rfl
theorem pd_E1 (d : Dd) : ∀ g, pd E1 g d = depth d := by
  induction d with
  | spot n => intro g; rfl
  | book s => intro g; rfl
  | turn d ih => intro g; simp only [pd, depth]; rw [exN_E1, ih]
  | dod f e i1 i2 => intro g; simp only [pd, depth, i1, i2]
  | both f e i1 i2 => intro g; simp only [pd, depth, i1, i2]
  | first d ih => intro g; simp only [pd, depth, ih]
  | second d ih => intro g; simp only [pd, depth, ih]
theorem pd_mono {d : Dd} : ∀ {Γ Δ : En} {g : Nat}, (∀ i, wt (Γ i) ≤ wt (Δ i)) → pd Γ g d ≤ pd Δ g d := by
  induction d with
  | spot n => intro Γ Δ g h; exact h n
  | book s => intro Γ Δ g h; exact Nat.le_refl _
  | turn d ih =>
    intro Γ Δ g h
    refine Nat.succ_le_succ (ih fun i => ?_)
    unfold exN
    split
    · exact Nat.le_refl _
    · exact h i
  | dod f e i1 i2 => intro Γ Δ g h; have := i1 (g := g) h; have := i2 (g := g) h; simp only [pd]; omega
  | both f e i1 i2 => intro Γ Δ g h; have := i1 (g := g) h; have := i2 (g := g) h; simp only [pd]; omega
  | first d ih => intro Γ Δ g h; exact Nat.succ_le_succ (ih h)
  | second d ih => intro Γ Δ g h; exact Nat.succ_le_succ (ih h)
theorem pd_size {W : Nat} {d : Dd} (hW : 1 ≤ W) : ∀ {Γ : En} {g : Nat}, (∀ i, wt (Γ i) ≤ W) → pd Γ g d ≤ W + size d := by
  induction d with
  | spot n => intro Γ g h; have := h n; simp only [pd, size]; omega
  | book s => intro Γ g h; simp only [pd, size]; omega
  | turn d ih =>
    intro Γ g h
    have := ih (Γ := exN Γ g none) (g := g + 1) (fun i => by
      unfold exN
      split
      · exact hW
      · exact h i)
    simp only [pd, size]; omega
  | dod f e i1 i2 => intro Γ g h; have := i1 (g := g) h; have := i2 (g := g) h; simp only [pd, size]; omega
  | both f e i1 i2 => intro Γ g h; have := i1 (g := g) h; have := i2 (g := g) h; simp only [pd, size]; omega
  | first d ih => intro Γ g h; have := ih (g := g) h; simp only [pd, size]; omega
  | second d ih => intro Γ g h; have := ih (g := g) h; simp only [pd, size]; omega
theorem pd_moved {l m : Nat} (d : Dd) : ∀ {g : Nat} {Γ Δ : En}, l ≤ g → held g d → (∀ i, i < l → Δ i = Γ i) → (∀ i, l ≤ i → i < g → Δ (i + m) = Γ i) → pd Δ (g + m) (moved l m d) = pd Γ g d := by
  induction d with
  | spot n =>
    intro g Γ Δ hl hh h1 h2
    have hn : n < g := hh
    rw [moved]
    split
    · rename_i q; simp only [pd]; rw [h1 n q]
    · rename_i q; simp only [pd]; rw [h2 n (by omega) hn]
  | book s => intro g Γ Δ _ _ _ _; rfl
  | turn d ih =>
    intro g Γ Δ hl hh h1 h2
    simp only [moved, pd]
    have q := ih (g := g + 1) (Γ := exN Γ g none) (Δ := exN Δ (g + m) none) (by omega) hh
      (fun i hi => by unfold exN; rw [if_neg (by omega), if_neg (by omega)]; exact h1 i hi)
      (fun i h3 h4 => by
        unfold exN
        by_cases e : i = g
        · rw [if_pos (by omega), if_pos e]
        · rw [if_neg (by omega), if_neg e]; exact h2 i h3 (by omega))
    rw [show g + 1 + m = g + m + 1 by omega] at q
    rw [q]
  | dod f e i1 i2 => intro g Γ Δ hl hh h1 h2; simp only [moved, pd]; rw [i1 hl hh.1 h1 h2, i2 hl hh.2 h1 h2]
  | both f e i1 i2 => intro g Γ Δ hl hh h1 h2; simp only [moved, pd]; rw [i1 hl hh.1 h1 h2, i2 hl hh.2 h1 h2]
  | first d ih => intro g Γ Δ hl hh h1 h2; simp only [moved, pd]; rw [ih hl hh h1 h2]
  | second d ih => intro g Γ Δ hl hh h1 h2; simp only [moved, pd]; rw [ih hl hh h1 h2]
theorem pd_put {l q : Nat} {Γe : En} {e : Dd} (he : held l e) (hq : pd Γe l e ≤ q) (b : Dd) : ∀ {a : Nat} {Γ Δ : En}, l ≤ a → held (a + 1) b → Γ l = some q →
    (∀ i, i < l → Δ i = Γ i) → (∀ i, i < l → Γe i = Γ i) → (∀ i, l ≤ i → i < a → Δ i = Γ (i + 1)) → pd Δ a (put l e a b) ≤ pd Γ (a + 1) b := by
  induction b with
  | spot n =>
    intro a Γ Δ hl hh hg h1 h0 h2
    have hn : n < a + 1 := hh
    rw [put]
    by_cases e1 : n = l
    · rw [if_pos e1]
      have z := pd_moved (l := l) (m := a - l) e (g := l) (Γ := Γe) (Δ := Δ) (Nat.le_refl _) he (fun i hi => (h1 i hi).trans (h0 i hi).symm) (fun i h3 h4 => by omega)
      rw [show l + (a - l) = a by omega] at z
      rw [z]
      simp only [pd]
      rw [e1, hg]
      exact hq
    · rw [if_neg e1]
      by_cases e2 : l < n
      · rw [if_pos e2]
        simp only [pd]
        have z := h2 (n - 1) (by omega) (by omega)
        rw [show n - 1 + 1 = n by omega] at z
        rw [z]
        exact Nat.le_refl _
      · rw [if_neg e2]
        simp only [pd]
        rw [h1 n (by omega)]
        exact Nat.le_refl _
  | book s => intro a Γ Δ _ _ _ _ _ _; exact Nat.le_refl _
  | turn d ih =>
    intro a Γ Δ hl hh hg h1 h0 h2
    refine Nat.succ_le_succ (ih (a := a + 1) (Γ := exN Γ (a + 1) none) (Δ := exN Δ a none) (by omega) hh ?_ (fun i hi => ?_) (fun i hi => ?_) (fun i h3 h4 => ?_))
    · unfold exN; rw [if_neg (by omega)]; exact hg
    · unfold exN; rw [if_neg (by omega), if_neg (by omega)]; exact h1 i hi
    · unfold exN; rw [if_neg (by omega)]; exact h0 i hi
    · unfold exN
      by_cases z : i = a
      · rw [if_pos z, if_pos (by omega)]
      · rw [if_neg z, if_neg (by omega)]; exact h2 i h3 (by omega)
  | dod f e i1 i2 => intro a Γ Δ hl hh hg h1 h0 h2; have := i1 hl hh.1 hg h1 h0 h2; have := i2 hl hh.2 hg h1 h0 h2; simp only [put, pd]; omega
  | both f e i1 i2 => intro a Γ Δ hl hh hg h1 h0 h2; have := i1 hl hh.1 hg h1 h0 h2; have := i2 hl hh.2 hg h1 h0 h2; simp only [put, pd]; omega
  | first d ih => intro a Γ Δ hl hh hg h1 h0 h2; exact Nat.succ_le_succ (ih hl hh hg h1 h0 h2)
  | second d ih => intro a Γ Δ hl hh hg h1 h0 h2; exact Nat.succ_le_succ (ih hl hh hg h1 h0 h2)

/-! ### the forms with numbers: live size s, dead depth M -/
inductive Tg where
  | n | v | idf
  | kf (q : Nat) (t : Tg) | p1 (t : Tg) | p2 (t : Tg)
def Small (M : Nat) (Γ : En) (g : Nat) (S : Dd) : Prop := held g S ∧ pd Γ g S ≤ M
inductive P (M : Nat) : Nat → Nat → En → Dd → Tg → Prop
  | spot {s g Γ i} : i < g → Γ i = none → 1 ≤ s → P M s g Γ (spot i) .n
  | book {s g Γ x} : 1 ≤ s → P M s g Γ (book x) .n
  | sub {s g Γ d} : P M s g Γ d .n → P M s g Γ d .v
  | turn {s g Γ b} : P M s (g + 1) (exN Γ g none) b .v → P M (s + 1) g Γ (turn b) .v
  | don {s1 s2 s g Γ f e} : P M s1 g Γ f .n → P M s2 g Γ e .v → s1 + s2 + 1 ≤ s → P M s g Γ (dod f e) .n
  | both {s1 s2 s g Γ f e} : P M s1 g Γ f .v → P M s2 g Γ e .v → s1 + s2 + 1 ≤ s → P M s g Γ (both f e) .v
  | first {s g Γ d} : P M s g Γ d .n → P M (s + 1) g Γ (first d) .n
  | second {s g Γ d} : P M s g Γ d .n → P M (s + 1) g Γ (second d) .n
  | kfun {s g Γ b q t} : 1 ≤ q → P M s (g + 1) (exN Γ g (some q)) b t → P M (s + 1) g Γ (turn b) (.kf q t)
  | kapp {s g Γ f A q t} : P M s g Γ f (.kf q t) → Small q Γ g A → q ≤ M → P M (s + 1) g Γ (dod f A) t
  | pr1 {s g Γ X S t} : P M s g Γ X t → Small M Γ g S → P M (s + 1) g Γ (both X S) (.p1 t)
  | pr2 {s g Γ X S t} : P M s g Γ X t → Small M Γ g S → P M (s + 1) g Γ (both S X) (.p2 t)
  | fst {s g Γ X t} : P M s g Γ X (.p1 t) → P M (s + 1) g Γ (first X) t
  | snd {s g Γ X t} : P M s g Γ X (.p2 t) → P M (s + 1) g Γ (second X) t
  | ifun {s g Γ Z} : Zed (Small M Γ g) g Z → 1 ≤ s → (Z = spot g ∨ 3 ≤ s) → P M (s + 1) g Γ (turn Z) .idf
  | iapp {s1 s2 s g Γ f X t} : P M s1 g Γ f .idf → P M s2 g Γ X t → s1 + s2 + 1 ≤ s → P M s g Γ (dod f X) t
  | up {s s' g Γ d t} : s ≤ s' → P M s g Γ d t → P M s' g Γ d t

theorem Small.moved {M l m g : Nat} {Γ Δ : En} {S : Dd} (h : Small M Γ g S) (hl : l ≤ g) (h1 : ∀ i, i < l → Δ i = Γ i) (h2 : ∀ i, l ≤ i → i < g → Δ (i + m) = Γ i) : Small M Δ (g + m) (Dd.moved l m S) :=
  ⟨held_moved _ h.1, by rw [pd_moved S hl h.1 h1 h2]; exact h.2⟩
theorem Zed.moved {l m g : Nat} {ok ok' : Dd → Prop} {Z : Dd} (hZ : Zed ok g Z) (hl : l ≤ g) (h : ∀ S, ok S → ok' (Dd.moved l m S)) : Zed ok' (g + m) (Dd.moved l m Z) := by
  have own : Dd.moved l m (Dd.spot g) = .spot (g + m) := by rw [Dd.moved, if_neg (by omega)]
  have sp : ∀ {S}, (S = Dd.spot g ∨ ∃ S', S = Dd.moved g 1 S' ∧ ok S') → (Dd.moved l m S = Dd.spot (g + m) ∨ ∃ S', Dd.moved l m S = Dd.moved (g + m) 1 S' ∧ ok' S') := by
    rintro S (rfl | ⟨S', rfl, hS⟩)
    · exact .inl own
    · exact .inr ⟨_, moved_comm hl S', h _ hS⟩
  cases hZ with
  | own => rw [own]; exact .own
  | kill h => simp only [Dd.moved]; rw [if_neg (show ¬ g < l by omega)]; exact .kill (sp h)
  | fst h => simp only [Dd.moved]; rw [if_neg (show ¬ g < l by omega)]; exact .fst (sp h)
  | snd h => simp only [Dd.moved]; rw [if_neg (show ¬ g < l by omega)]; exact .snd (sp h)
  | idd =>
    simp only [Dd.moved]
    rw [if_neg (show ¬ g < l by omega), if_neg (show ¬ g + 1 < l by omega), show g + 1 + m = g + m + 1 by omega]
    exact .idd
theorem exk {l m : Nat} {g : Nat} {Γ Δ : En} {b : Option Nat} (hl : l ≤ g) (h1 : ∀ i, i < l → Δ i = Γ i) (h2 : ∀ i, l ≤ i → i < g → Δ (i + m) = Γ i) :
    (∀ i, i < l → exN Δ (g + m) b i = exN Γ g b i) ∧ (∀ i, l ≤ i → i < g + 1 → exN Δ (g + m) b (i + m) = exN Γ g b i) :=
  ⟨fun i hi => by unfold exN; rw [if_neg (by omega), if_neg (by omega)]; exact h1 i hi, fun i h3 h4 => by
    unfold exN
    by_cases e : i = g
    · rw [if_pos (by omega), if_pos e]
    · rw [if_neg (by omega), if_neg e]; exact h2 i h3 (by omega)⟩
theorem P.moved {M s l m g : Nat} {Γ : En} {d : Dd} {t : Tg} (h : P M s g Γ d t) : l ≤ g → ∀ Δ : En, (∀ i, i < l → Δ i = Γ i) → (∀ i, l ≤ i → i < g → Δ (i + m) = Γ i) → P M s (g + m) Δ (Dd.moved l m d) t := by
  induction h with
  | @spot s g Γ i hi hg hs =>
    intro hl Δ h1 h2
    rw [Dd.moved]
    split
    · rename_i q
      exact .spot (by omega) ((h1 i q).trans hg) hs
    · rename_i q
      exact .spot (by omega) ((h2 i (by omega) hi).trans hg) hs
  | book h => intro _ _ _ _; exact .book h
  | sub _ ih => intro hl Δ h1 h2; exact .sub (ih hl Δ h1 h2)
  | @turn s g Γ b _ ih =>
    intro hl Δ h1 h2
    obtain ⟨a1, a2⟩ := exk (b := none) hl h1 h2
    have q := ih (by omega) _ a1 a2
    rw [show g + 1 + m = g + m + 1 by omega] at q
    exact .turn q
  | don _ _ hs i1 i2 => intro hl Δ h1 h2; exact .don (i1 hl Δ h1 h2) (i2 hl Δ h1 h2) hs
  | both _ _ hs i1 i2 => intro hl Δ h1 h2; exact .both (i1 hl Δ h1 h2) (i2 hl Δ h1 h2) hs
  | first _ ih => intro hl Δ h1 h2; exact .first (ih hl Δ h1 h2)
  | second _ ih => intro hl Δ h1 h2; exact .second (ih hl Δ h1 h2)
  | @kfun s g Γ b q t hq _ ih =>
    intro hl Δ h1 h2
    obtain ⟨a1, a2⟩ := exk (b := some q) hl h1 h2
    have z := ih (by omega) _ a1 a2
    rw [show g + 1 + m = g + m + 1 by omega] at z
    exact .kfun hq z
  | kapp _ hA hq ih => intro hl Δ h1 h2; exact .kapp (ih hl Δ h1 h2) (hA.moved hl h1 h2) hq
  | pr1 _ hA ih => intro hl Δ h1 h2; exact .pr1 (ih hl Δ h1 h2) (hA.moved hl h1 h2)
  | pr2 _ hA ih => intro hl Δ h1 h2; exact .pr2 (ih hl Δ h1 h2) (hA.moved hl h1 h2)
  | fst _ ih => intro hl Δ h1 h2; exact .fst (ih hl Δ h1 h2)
  | snd _ ih => intro hl Δ h1 h2; exact .snd (ih hl Δ h1 h2)
  | ifun hZ hs h3 =>
    intro hl Δ h1 h2
    refine .ifun (hZ.moved hl fun S hS => hS.moved hl h1 h2) hs (h3.imp (fun e => ?_) id)
    rw [e, Dd.moved, if_neg (by omega)]
  | iapp _ _ hs i1 i2 => intro hl Δ h1 h2; exact .iapp (i1 hl Δ h1 h2) (i2 hl Δ h1 h2) hs
  | up h _ ih => intro hl Δ h1 h2; exact .up h (ih hl Δ h1 h2)
theorem P.new {M s g : Nat} {Γ : En} {b : Option Nat} {d : Dd} {t : Tg} (h : P M s g Γ d t) : P M s (g + 1) (exN Γ g b) (Dd.moved g 1 d) t :=
  h.moved (Nat.le_refl _) _ (fun i hi => by unfold exN; rw [if_neg (by omega)]) (fun i h1 h2 => by omega)

/-- what a dead spot is given -/
theorem Small.put {M l q a : Nat} {Γe Γ Δ : En} {e S : Dd} (he : Small q Γe l e) (h : Small M Γ (a + 1) S) (hl : l ≤ a) (hg : Γ l = some q)
    (h1 : ∀ i, i < l → Δ i = Γ i) (h0 : ∀ i, i < l → Γe i = Γ i) (h2 : ∀ i, l ≤ i → i < a → Δ i = Γ (i + 1)) : Small M Δ a (Dd.put l e a S) :=
  ⟨held_put he.1 S a hl h.1, Nat.le_trans (pd_put he.1 he.2 S hl h.1 hg h1 h0 h2) h.2⟩
theorem Zed.put {l a : Nat} {ok ok' : Dd → Prop} {e Z : Dd} (hZ : Zed ok (a + 1) Z) (hl : l ≤ a) (h : ∀ S, ok S → ok' (Dd.put l e a S)) : Zed ok' a (Dd.put l e (a + 1) Z) := by
  have own : ∀ k, Dd.put l e k (Dd.spot (a + 1)) = .spot a := fun k => by rw [Dd.put, if_neg (by omega), if_pos (by omega)]; rfl
  have sp : ∀ {S}, (S = Dd.spot (a + 1) ∨ ∃ S', S = Dd.moved (a + 1) 1 S' ∧ ok S') → (Dd.put l e (a + 1) S = Dd.spot a ∨ ∃ S', Dd.put l e (a + 1) S = Dd.moved a 1 S' ∧ ok' S') := by
    rintro S (rfl | ⟨S', rfl, hS⟩)
    · exact .inl (own _)
    · exact .inr ⟨_, put_moved hl e S' a (Nat.le_refl _), h _ hS⟩
  cases hZ with
  | own => rw [own]; exact .own
  | kill h => simp only [Dd.put]; rw [if_neg (show ¬ a + 1 = l by omega), if_pos (show l < a + 1 by omega)]; exact .kill (sp h)
  | fst h => simp only [Dd.put]; rw [if_neg (show ¬ a + 1 = l by omega), if_pos (show l < a + 1 by omega)]; exact .fst (sp h)
  | snd h => simp only [Dd.put]; rw [if_neg (show ¬ a + 1 = l by omega), if_pos (show l < a + 1 by omega)]; exact .snd (sp h)
  | idd =>
    simp only [Dd.put]
    rw [if_neg (show ¬ a + 1 = l by omega), if_pos (show l < a + 1 by omega), if_neg (show ¬ a + 1 + 1 = l by omega), if_pos (show l < a + 1 + 1 by omega)]
    exact .idd
theorem exp {l q a : Nat} {Γe Γ Δ : En} {b : Option Nat} (hl : l ≤ a) (hg : Γ l = some q) (h1 : ∀ i, i < l → Δ i = Γ i) (h0 : ∀ i, i < l → Γe i = Γ i) (h2 : ∀ i, l ≤ i → i < a → Δ i = Γ (i + 1)) :
    exN Γ (a + 1) b l = some q ∧ (∀ i, i < l → exN Δ a b i = exN Γ (a + 1) b i) ∧ (∀ i, i < l → Γe i = exN Γ (a + 1) b i) ∧ (∀ i, l ≤ i → i < a + 1 → exN Δ a b i = exN Γ (a + 1) b (i + 1)) := by
  refine ⟨?_, fun i hi => ?_, fun i hi => ?_, fun i h3 h4 => ?_⟩
  · unfold exN; rw [if_neg (by omega)]; exact hg
  · unfold exN; rw [if_neg (by omega), if_neg (by omega)]; exact h1 i hi
  · unfold exN; rw [if_neg (by omega)]; exact h0 i hi
  · unfold exN
    by_cases z : i = a
    · rw [if_pos z, if_pos (by omega)]
    · rw [if_neg z, if_neg (by omega)]; exact h2 i h3 (by omega)
theorem P.put {M l q : Nat} {Γe : En} {e : Dd} (he : Small q Γe l e) {s k : Nat} {Γ : En} {b : Dd} {t : Tg} (h : P M s k Γ b t) :
    ∀ a, k = a + 1 → l ≤ a → Γ l = some q → ∀ Δ : En, (∀ i, i < l → Δ i = Γ i) → (∀ i, i < l → Γe i = Γ i) → (∀ i, l ≤ i → i < a → Δ i = Γ (i + 1)) → P M s a Δ (Dd.put l e a b) t := by
  induction h with
  | @spot s g Γ i hi hg hs =>
    intro a ha hl hq Δ h1 h0 h2
    subst ha
    rw [Dd.put]
    by_cases z : i = l
    · subst z
      rw [hq] at hg
      cases hg
    · rw [if_neg z]
      by_cases z2 : l < i
      · rw [if_pos z2]
        have y := h2 (i - 1) (by omega) (by omega)
        rw [show i - 1 + 1 = i by omega] at y
        exact .spot (by omega) (y.trans hg) hs
      · rw [if_neg z2]
        exact .spot (by omega) ((h1 i (by omega)).trans hg) hs
  | book h => intro a ha hl hq Δ h1 h0 h2; exact .book h
  | sub _ ih => intro a ha hl hq Δ h1 h0 h2; exact .sub (ih a ha hl hq Δ h1 h0 h2)
  | turn _ ih =>
    intro a ha hl hq Δ h1 h0 h2
    subst ha
    obtain ⟨z1, z2, z3, z4⟩ := exp (b := none) hl hq h1 h0 h2
    exact .turn (ih (a + 1) rfl (by omega) z1 _ z2 z3 z4)
  | don _ _ hs i1 i2 => intro a ha hl hq Δ h1 h0 h2; exact .don (i1 a ha hl hq Δ h1 h0 h2) (i2 a ha hl hq Δ h1 h0 h2) hs
  | both _ _ hs i1 i2 => intro a ha hl hq Δ h1 h0 h2; exact .both (i1 a ha hl hq Δ h1 h0 h2) (i2 a ha hl hq Δ h1 h0 h2) hs
  | first _ ih => intro a ha hl hq Δ h1 h0 h2; exact .first (ih a ha hl hq Δ h1 h0 h2)
  | second _ ih => intro a ha hl hq Δ h1 h0 h2; exact .second (ih a ha hl hq Δ h1 h0 h2)
  | @kfun s g Γ b q' t hq' _ ih =>
    intro a ha hl hq Δ h1 h0 h2
    subst ha
    obtain ⟨z1, z2, z3, z4⟩ := exp (b := some q') hl hq h1 h0 h2
    exact .kfun hq' (ih (a + 1) rfl (by omega) z1 _ z2 z3 z4)
  | kapp _ hA hm ih => intro a ha hl hq Δ h1 h0 h2; subst ha; exact .kapp (ih a rfl hl hq Δ h1 h0 h2) (he.put hA hl hq h1 h0 h2) hm
  | pr1 _ hA ih => intro a ha hl hq Δ h1 h0 h2; subst ha; exact .pr1 (ih a rfl hl hq Δ h1 h0 h2) (he.put hA hl hq h1 h0 h2)
  | pr2 _ hA ih => intro a ha hl hq Δ h1 h0 h2; subst ha; exact .pr2 (ih a rfl hl hq Δ h1 h0 h2) (he.put hA hl hq h1 h0 h2)
  | fst _ ih => intro a ha hl hq Δ h1 h0 h2; exact .fst (ih a ha hl hq Δ h1 h0 h2)
  | snd _ ih => intro a ha hl hq Δ h1 h0 h2; exact .snd (ih a ha hl hq Δ h1 h0 h2)
  | ifun hZ hs h3 =>
    intro a ha hl hq Δ h1 h0 h2
    subst ha
    refine .ifun (hZ.put hl fun S hS => he.put hS hl hq h1 h0 h2) hs (h3.imp (fun e => ?_) id)
    rw [e, Dd.put, if_neg (by omega), if_pos (by omega)]
    rfl
  | iapp _ _ hs i1 i2 => intro a ha hl hq Δ h1 h0 h2; exact .iapp (i1 a ha hl hq Δ h1 h0 h2) (i2 a ha hl hq Δ h1 h0 h2) hs
  | up h _ ih => intro a ha hl hq Δ h1 h0 h2; exact .up h (ih a ha hl hq Δ h1 h0 h2)

/-! ### from the shapes: numbers by size -/
def shOf : Tg → Sh
  | .n => .n
  | .v => .v
  | .idf => .idf
  | .kf _ t => .kf (shOf t)
  | .p1 t => .p1 (shOf t)
  | .p2 t => .p2 (shOf t)
def tgMax (W : Nat) : Tg → Prop
  | .n => True
  | .v => True
  | .idf => True
  | .kf q t => 1 ≤ q ∧ q ≤ W ∧ tgMax W t
  | .p1 t => tgMax W t
  | .p2 t => tgMax W t
theorem tgMax.mono {W W' : Nat} (h : W ≤ W') : ∀ {t : Tg}, tgMax W t → tgMax W' t
  | .n, _ => trivial
  | .v, _ => trivial
  | .idf, _ => trivial
  | .kf _ _, q => ⟨q.1, Nat.le_trans q.2.1 h, tgMax.mono h q.2.2⟩
  | .p1 t, q => tgMax.mono (t := t) h q
  | .p2 t, q => tgMax.mono (t := t) h q
/-- live parts and dead parts counted apart -/
theorem Q.num {z g : Nat} {Δ : Nat → Bool} {d : Dd} {sh : Sh} (h : Q z g Δ d sh) : ∃ s m, s + m ≤ size d ∧ 1 ≤ s ∧
    ∀ {M W : Nat} {Γ : En} {t : Tg}, shOf t = sh → tgMax W t → 1 ≤ W → (∀ i, wt (Γ i) ≤ W) → (∀ i, i < g → Δ i = true → Γ i = none) → W + m ≤ M → P M s g Γ d t := by
  induction h with
  | @spot g Δ i h1 h2 =>
    refine ⟨1, 0, Nat.le_refl _, Nat.le_refl _, fun {M W Γ t} hs ht hW hw hd hM => ?_⟩
    cases t <;> cases hs
    exact .spot h1 (hd i h1 h2) (Nat.le_refl _)
  | book =>
    refine ⟨1, 0, Nat.le_refl _, Nat.le_refl _, fun {M W Γ t} hs ht hW hw hd hM => ?_⟩
    cases t <;> cases hs
    exact .book (Nat.le_refl _)
  | sub _ ih =>
    obtain ⟨s, m, h1, h2, ih⟩ := ih
    refine ⟨s, m, h1, h2, fun {M W Γ t} hs ht hW hw hd hM => ?_⟩
    cases t <;> cases hs
    exact .sub (ih (t := .n) rfl trivial hW hw hd hM)
  | @turn g Δ b _ ih =>
    obtain ⟨s, m, h1, h2, ih⟩ := ih
    refine ⟨s + 1, m, by simp only [size]; omega, by omega, fun {M W Γ t} hs ht hW hw hd hM => ?_⟩
    cases t <;> cases hs
    refine .turn (ih (W := W) (t := .v) rfl trivial hW (fun i => ?_) (fun i h1 h2 => ?_) hM)
    · unfold exN
      split
      · exact hW
      · exact hw i
    · unfold exN
      by_cases e : i = g
      · rw [if_pos e]
      · rw [if_neg e]
        unfold exB at h2
        rw [if_neg e] at h2
        exact hd i (by omega) h2
  | don _ _ i1 i2 =>
    obtain ⟨s1, m1, a1, b1, i1⟩ := i1
    obtain ⟨s2, m2, a2, b2, i2⟩ := i2
    refine ⟨s1 + s2 + 1, m1 + m2, by simp only [size]; omega, by omega, fun {M W Γ t} hs ht hW hw hd hM => ?_⟩
    cases t <;> cases hs
    exact .don (i1 (W := W) (t := .n) rfl trivial hW hw hd (by omega)) (i2 (W := W) (t := .v) rfl trivial hW hw hd (by omega)) (Nat.le_refl _)
  | both _ _ i1 i2 =>
    obtain ⟨s1, m1, a1, b1, i1⟩ := i1
    obtain ⟨s2, m2, a2, b2, i2⟩ := i2
    refine ⟨s1 + s2 + 1, m1 + m2, by simp only [size]; omega, by omega, fun {M W Γ t} hs ht hW hw hd hM => ?_⟩
    cases t <;> cases hs
    exact .both (i1 (W := W) (t := .v) rfl trivial hW hw hd (by omega)) (i2 (W := W) (t := .v) rfl trivial hW hw hd (by omega)) (Nat.le_refl _)
  | first _ ih =>
    obtain ⟨s, m, h1, h2, ih⟩ := ih
    refine ⟨s + 1, m, by simp only [size]; omega, by omega, fun {M W Γ t} hs ht hW hw hd hM => ?_⟩
    cases t <;> cases hs
    exact .first (ih (W := W) (t := .n) rfl trivial hW hw hd hM)
  | second _ ih =>
    obtain ⟨s, m, h1, h2, ih⟩ := ih
    refine ⟨s + 1, m, by simp only [size]; omega, by omega, fun {M W Γ t} hs ht hW hw hd hM => ?_⟩
    cases t <;> cases hs
    exact .second (ih (W := W) (t := .n) rfl trivial hW hw hd hM)
  | @kfun g Δ b sh' _ ih =>
    obtain ⟨s, m, h1, h2, ih⟩ := ih
    refine ⟨s + 1, m, by simp only [size]; omega, by omega, fun {M W Γ t} hs ht hW hw hd hM => ?_⟩
    cases t with
    | kf q t =>
      cases hs
      obtain ⟨q1, q2, q3⟩ := ht
      refine .kfun q1 (ih (W := W) (t := t) rfl q3 hW (fun i => ?_) (fun i h1 h2 => ?_) hM)
      · unfold exN
        split
        · exact q2
        · exact hw i
      · unfold exN
        unfold exB at h2
        by_cases e : i = g
        · rw [if_pos e] at h2; cases h2
        · rw [if_neg e] at h2
          rw [if_neg e]
          exact hd i (by omega) h2
    | _ => cases hs
  | @kapp g Δ f A sh' _ hA ih =>
    obtain ⟨s, m, h1, h2, ih⟩ := ih
    refine ⟨s + 1, m + size A, by simp only [size]; omega, by omega, fun {M W Γ t} hs ht hW hw hd hM => ?_⟩
    have hp : pd Γ g A ≤ W + size A := pd_size hW hw
    exact .kapp (q := W + size A) (ih (W := W + size A) (t := .kf (W + size A) t) (by show Sh.kf (shOf t) = _; rw [hs]) ⟨by omega, Nat.le_refl _, ht.mono (by omega)⟩ (by omega) (fun i => Nat.le_trans (hw i) (by omega)) hd (by omega)) ⟨hA, hp⟩ (by omega)
  | @pr1 g Δ X S sh' _ hA ih =>
    obtain ⟨s, m, h1, h2, ih⟩ := ih
    refine ⟨s + 1, m + size S, by simp only [size]; omega, by omega, fun {M W Γ t} hs ht hW hw hd hM => ?_⟩
    cases t with
    | p1 t =>
      cases hs
      exact .pr1 (ih (W := W) (t := t) rfl ht hW hw hd (by omega)) ⟨hA, Nat.le_trans (pd_size hW hw) (by omega)⟩
    | _ => cases hs
  | @pr2 g Δ X S sh' _ hA ih =>
    obtain ⟨s, m, h1, h2, ih⟩ := ih
    refine ⟨s + 1, m + size S, by simp only [size]; omega, by omega, fun {M W Γ t} hs ht hW hw hd hM => ?_⟩
    cases t with
    | p2 t =>
      cases hs
      exact .pr2 (ih (W := W) (t := t) rfl ht hW hw hd (by omega)) ⟨hA, Nat.le_trans (pd_size hW hw) (by omega)⟩
    | _ => cases hs
  | fst _ ih =>
    obtain ⟨s, m, h1, h2, ih⟩ := ih
    refine ⟨s + 1, m, by simp only [size]; omega, by omega, fun {M W Γ t} hs ht hW hw hd hM => ?_⟩
    exact .fst (ih (W := W) (t := .p1 t) (by show Sh.p1 (shOf t) = _; rw [hs]) ht hW hw hd hM)
  | snd _ ih =>
    obtain ⟨s, m, h1, h2, ih⟩ := ih
    refine ⟨s + 1, m, by simp only [size]; omega, by omega, fun {M W Γ t} hs ht hW hw hd hM => ?_⟩
    exact .snd (ih (W := W) (t := .p2 t) (by show Sh.p2 (shOf t) = _; rw [hs]) ht hW hw hd hM)
  | @ifun g Δ Z h1 h2 hZ =>
    have sp : ∀ {M W : Nat} {Γ : En}, 1 ≤ W → (∀ i, wt (Γ i) ≤ W) → ∀ {S : Dd}, W + size S ≤ M → (S = Dd.spot g ∨ ∃ S', S = Dd.moved g 1 S' ∧ Fd.held g S') → (S = Dd.spot g ∨ ∃ S', S = Dd.moved g 1 S' ∧ Small M Γ g S') := by
      rintro M W Γ hW hw S hz (rfl | ⟨S', rfl, hS⟩)
      · exact .inl rfl
      · rw [size_moved] at hz
        exact .inr ⟨S', rfl, hS, Nat.le_trans (pd_size hW hw) hz⟩
    cases hZ with
    | own =>
      refine ⟨2, 0, Nat.le_refl _, by omega, fun {M W Γ t} hs ht hW hw hd hM => ?_⟩
      cases t <;> cases hs
      exact .ifun .own (Nat.le_refl _) (.inl rfl)
    | @kill S h =>
      refine ⟨4, size S, by simp only [size]; omega, by omega, fun {M W Γ t} hs ht hW hw hd hM => ?_⟩
      cases t <;> cases hs
      exact .ifun (.kill (sp hW hw hM h)) (by omega) (.inr (Nat.le_refl _))
    | @fst S h =>
      refine ⟨4, size S, by simp only [size]; omega, by omega, fun {M W Γ t} hs ht hW hw hd hM => ?_⟩
      cases t <;> cases hs
      exact .ifun (.fst (sp hW hw hM h)) (by omega) (.inr (Nat.le_refl _))
    | @snd S h =>
      refine ⟨4, size S, by simp only [size]; omega, by omega, fun {M W Γ t} hs ht hW hw hd hM => ?_⟩
      cases t <;> cases hs
      exact .ifun (.snd (sp hW hw hM h)) (by omega) (.inr (Nat.le_refl _))
    | idd =>
      refine ⟨5, 0, Nat.le_refl _, by omega, fun {M W Γ t} hs ht hW hw hd hM => ?_⟩
      cases t <;> cases hs
      exact .ifun .idd (by omega) (.inr (by omega))
  | iapp _ _ i1 i2 =>
    obtain ⟨s1, m1, a1, b1, i1⟩ := i1
    obtain ⟨s2, m2, a2, b2, i2⟩ := i2
    refine ⟨s1 + s2 + 1, m1 + m2, by simp only [size]; omega, by omega, fun {M W Γ t} hs ht hW hw hd hM => ?_⟩
    exact .iapp (i1 (W := W) (t := .idf) rfl trivial hW hw hd (by omega)) (i2 (W := W) hs ht hW hw hd (by omega)) (Nat.le_refl _)
end Fd
set_option Elab.async false
namespace Fd
open PySem Dd

theorem zed_pd {M g : Nat} {Γ : En} {Z : Dd} (hM : 1 ≤ M) (h : Zed (Small M Γ g) g Z) : Z = spot g ∨ pd (exN Γ g none) (g + 1) Z ≤ 2 + M := by
  have wg : wt (exN Γ g none g) = 1 := by unfold exN; rw [if_pos rfl]; rfl
  have w1 : wt (exN (exN Γ g none) (g + 1) none g) = 1 := by
    unfold exN; rw [if_neg (show ¬ g = g + 1 by omega), if_pos rfl]; rfl
  have w2 : wt (exN (exN Γ g none) (g + 1) none (g + 1)) = 1 := by unfold exN; rw [if_pos rfl]; rfl
  have sp : ∀ {S}, (S = Dd.spot g ∨ ∃ S', S = Dd.moved g 1 S' ∧ Small M Γ g S') → pd (exN Γ g none) (g + 1) S ≤ M := by
    rintro S (rfl | ⟨S', rfl, hS⟩)
    · simp only [pd]; omega
    · rw [pd_moved S' (Nat.le_refl _) hS.1 (Γ := Γ) (fun i hi => by unfold exN; rw [if_neg (by omega)]) (fun i h1 h2 => by omega)]
      exact hS.2
  cases h with
  | own => exact .inl rfl
  | kill h => have := sp h; right; simp only [pd, w1]; omega
  | fst h => have := sp h; right; simp only [pd, wg]; omega
  | snd h => have := sp h; right; simp only [pd, wg]; omega
  | idd => right; simp only [pd, w2, wg]; omega
theorem P.pd {M s g : Nat} {Γ : En} {d : Dd} {t : Tg} (hM : 1 ≤ M) (h : P M s g Γ d t) : Fd.pd Γ g d ≤ s + M := by
  induction h with
  | @spot s g Γ i h1 h2 h3 => simp only [Fd.pd]; rw [h2]; simp only [wt]; omega
  | book h => simp only [Fd.pd]; omega
  | sub _ ih => exact ih
  | turn _ ih => simp only [Fd.pd]; omega
  | don _ _ _ _ _ => simp only [Fd.pd]; omega
  | both _ _ _ _ _ => simp only [Fd.pd]; omega
  | first _ ih => simp only [Fd.pd]; omega
  | second _ ih => simp only [Fd.pd]; omega
  | @kfun s g Γ b q t hq _ ih =>
    have z : Fd.pd (exN Γ g none) (g + 1) b ≤ Fd.pd (exN Γ g (some q)) (g + 1) b := pd_mono fun i => by
      unfold exN
      split
      · exact hq
      · exact Nat.le_refl _
    simp only [Fd.pd]; omega
  | kapp _ hA _ ih => have := hA.2; simp only [Fd.pd]; omega
  | pr1 _ hA ih => have := hA.2; simp only [Fd.pd]; omega
  | pr2 _ hA ih => have := hA.2; simp only [Fd.pd]; omega
  | fst _ ih => simp only [Fd.pd]; omega
  | snd _ ih => simp only [Fd.pd]; omega
  | @ifun s g Γ Z hZ hs h3 =>
    have wg : wt (exN Γ g none g) = 1 := by unfold exN; rw [if_pos rfl]; rfl
    rcases zed_pd hM hZ with rfl | z
    · simp only [Fd.pd, wg]; omega
    · rcases h3 with rfl | h3
      · simp only [Fd.pd, wg]; omega
      · simp only [Fd.pd]; omega
  | iapp _ _ _ _ _ => simp only [Fd.pd]; omega
  | up _ _ ih => omega
theorem P.held {M s g : Nat} {Γ : En} {d : Dd} {t : Tg} (h : P M s g Γ d t) : Fd.held g d := by
  induction h with
  | spot h1 _ _ => exact h1
  | book => trivial
  | sub _ ih => exact ih
  | turn _ ih => exact ih
  | don _ _ _ i1 i2 => exact ⟨i1, i2⟩
  | both _ _ _ i1 i2 => exact ⟨i1, i2⟩
  | first _ ih => exact ih
  | second _ ih => exact ih
  | kfun _ _ ih => exact ih
  | kapp _ h _ ih => exact ⟨ih, h.1⟩
  | pr1 _ h ih => exact ⟨ih, h.1⟩
  | pr2 _ h ih => exact ⟨h.1, ih⟩
  | fst _ ih => exact ih
  | snd _ ih => exact ih
  | @ifun s g Γ Z hZ _ _ =>
    have sp : ∀ {S}, (S = Dd.spot g ∨ ∃ S', S = Dd.moved g 1 S' ∧ Small M Γ g S') → Fd.held (g + 1) S := by
      rintro S (rfl | ⟨S', rfl, hS⟩)
      · exact Nat.lt_succ_self g
      · exact held_moved _ hS.1
    have o : Fd.held (g + 1) (Dd.spot g) := Nat.lt_succ_self g
    cases hZ with
    | own => exact o
    | kill h => exact ⟨show g < g + 1 + 1 by omega, sp h⟩
    | fst h => exact ⟨o, sp h⟩
    | snd h => exact ⟨sp h, o⟩
    | idd => exact ⟨show g + 1 < g + 1 + 1 by omega, o⟩
  | iapp _ _ _ i1 i2 => exact ⟨i1, i2⟩
  | up _ _ ih => exact ih

/-! ### on the way -/
def Flat (M s g : Nat) (A : Dd) : Prop := held g A ∧ depth A ≤ s + M
inductive V (M : Nat) : Nat → Nat → Dd → Tg → Prop
  | ofP {s g d t} : P M s g E1 d t → V M s g d t
  | sub {s g d} : V M s g d .n → V M s g d .v
  | turn {s g b} : V M s (g + 1) b .v → V M (s + 1) g (turn b) .v
  | don {s1 s2 s g f e} : V M s1 g f .n → V M s2 g e .v → s1 + s2 + 1 ≤ s → V M s g (dod f e) .n
  | both {s1 s2 s g f e} : V M s1 g f .v → V M s2 g e .v → s1 + s2 + 1 ≤ s → V M s g (both f e) .v
  | first {s g d} : V M s g d .n → V M (s + 1) g (first d) .n
  | second {s g d} : V M s g d .n → V M (s + 1) g (second d) .n
  | kapp {s g f A q t} : V M s g f (.kf q t) → Small q E1 g A → q ≤ M → V M (s + 1) g (dod f A) t
  | kwrap {s g X A t} : P M s g E1 X t → Flat M s g A → V M (s + 2) g (dod (turn (moved g 1 X)) A) t
  | pr1 {s g X S t} : P M s g E1 X t → Flat M s g S → V M (s + 1) g (both X S) (.p1 t)
  | pr2 {s g X S t} : P M s g E1 X t → Flat M s g S → V M (s + 1) g (both S X) (.p2 t)
  | fst {s g X t} : V M s g X (.p1 t) → V M (s + 1) g (first X) t
  | snd {s g X t} : V M s g X (.p2 t) → V M (s + 1) g (second X) t
  | iapp {s1 s2 s g f X t} : V M s1 g f .idf → P M s2 g E1 X t → s1 + s2 + 1 ≤ s → V M s g (dod f X) t
  | up {s s' g d t} : s ≤ s' → V M s g d t → V M s' g d t

theorem P.depth {M s g : Nat} {d : Dd} {t : Tg} (hM : 1 ≤ M) (h : P M s g E1 d t) : Dd.depth d ≤ s + M := by
  have z := h.pd hM
  rw [pd_E1] at z
  exact z
theorem V.depth {M s g : Nat} {d : Dd} {t : Tg} (hM : 1 ≤ M) (h : V M s g d t) : Dd.depth d ≤ s + M := by
  induction h with
  | ofP h => exact h.depth hM
  | sub _ ih => exact ih
  | turn _ ih => simp only [Dd.depth]; omega
  | don _ _ _ _ _ => simp only [Dd.depth]; omega
  | both _ _ _ _ _ => simp only [Dd.depth]; omega
  | first _ ih => simp only [Dd.depth]; omega
  | second _ ih => simp only [Dd.depth]; omega
  | kapp _ hA _ ih => have z := hA.2; rw [pd_E1] at z; simp only [Dd.depth]; omega
  | kwrap h hA => have := h.depth hM; have := hA.2; simp only [Dd.depth, depth_moved]; omega
  | pr1 h hA => have := h.depth hM; have := hA.2; simp only [Dd.depth]; omega
  | pr2 h hA => have := h.depth hM; have := hA.2; simp only [Dd.depth]; omega
  | fst _ ih => simp only [Dd.depth]; omega
  | snd _ ih => simp only [Dd.depth]; omega
  | iapp _ hX _ _ => have := hX.depth hM; simp only [Dd.depth]; omega
  | up _ _ ih => omega
theorem V.held {M s g : Nat} {d : Dd} {t : Tg} (h : V M s g d t) : Fd.held g d := by
  induction h with
  | ofP h => exact h.held
  | sub _ ih => exact ih
  | turn _ ih => exact ih
  | don _ _ _ i1 i2 => exact ⟨i1, i2⟩
  | both _ _ _ i1 i2 => exact ⟨i1, i2⟩
  | first _ ih => exact ih
  | second _ ih => exact ih
  | kapp _ h _ ih => exact ⟨ih, h.1⟩
  | kwrap h hA => exact ⟨held_moved _ h.held, hA.1⟩
  | pr1 h hA => exact ⟨h.held, hA.1⟩
  | pr2 h hA => exact ⟨hA.1, h.held⟩
  | fst _ ih => exact ih
  | snd _ ih => exact ih
  | iapp _ hX _ ih => exact ⟨ih, hX.held⟩
  | up _ _ ih => exact ih

/-! ### what is at hand -/
def Elim : Dd → Prop
  | .dod _ _ => True
  | .first _ => True
  | .second _ => True
  | _ => False
def Ok (M s g : Nat) (d : Dd) : Tg → Prop
  | .kf q t => ∃ B s', d = turn B ∧ s' + 1 ≤ s ∧ P M s' (g + 1) (exN E1 g (some q)) B t
  | .idf => ∃ Z s', d = turn Z ∧ s' + 1 ≤ s ∧ 1 ≤ s' ∧ Zed (Small M E1 g) g Z
  | .p1 t => ∃ X S s', d = both X S ∧ s' + 1 ≤ s ∧ P M s' g E1 X t
  | .p2 t => ∃ X S s', d = both S X ∧ s' + 1 ≤ s ∧ P M s' g E1 X t
  | _ => False
def View (M s g : Nat) (d : Dd) (t : Tg) : Prop := (t = .n ∨ t = .v) ∨ Ok M s g d t ∨ (Elim d ∧ Dd.step g d ≠ none)
theorem Ok.up {M s s' g : Nat} {d : Dd} {t : Tg} (h : s ≤ s') (k : Ok M s g d t) : Ok M s' g d t := by
  cases t with
  | n => exact k
  | v => exact k
  | idf => obtain ⟨Z, n, a, b, c⟩ := k; exact ⟨Z, n, a, by omega, c⟩
  | kf q t => obtain ⟨Z, n, a, b, c⟩ := k; exact ⟨Z, n, a, by omega, c⟩
  | p1 t => obtain ⟨Z, y, n, a, b, c⟩ := k; exact ⟨Z, y, n, a, by omega, c⟩
  | p2 t => obtain ⟨Z, y, n, a, b, c⟩ := k; exact ⟨Z, y, n, a, by omega, c⟩
theorem View.up {M s s' g : Nat} {d : Dd} {t : Tg} (h : s ≤ s') (k : View M s g d t) : View M s' g d t := by
  rcases k with k | k | k
  · exact .inl k
  · exact .inr (.inl (k.up h))
  · exact .inr (.inr k)
theorem step_dod_f {g : Nat} {f e : Dd} (h : Dd.step g f ≠ none) : Dd.step g (.dod f e) ≠ none := by
  intro q
  exact h (Still.dod q).2.1
theorem step_first_f {g : Nat} {d : Dd} (h : Dd.step g d ≠ none) : Dd.step g (.first d) ≠ none := fun q => h (Still.first q).2
theorem step_second_f {g : Nat} {d : Dd} (h : Dd.step g d ≠ none) : Dd.step g (.second d) ≠ none := fun q => h (Still.second q).2
theorem step_beta {g : Nat} {b e : Dd} : Dd.step g (.dod (.turn b) e) = some (Dd.put g e g b) := by rw [Dd.step]; rfl
theorem step_fst {g : Nat} {a b : Dd} : Dd.step g (.first (.both a b)) = some a := by rw [Dd.step]; rfl
theorem step_snd {g : Nat} {a b : Dd} : Dd.step g (.second (.both a b)) = some b := by rw [Dd.step]; rfl
theorem some_ne {α : Type} {o : Option α} {x : α} (h : o = some x) : o ≠ none := by rw [h]; exact fun q => nomatch q

theorem view_kapp {M s s0 g q : Nat} {f A : Dd} {t t' : Tg} (h : View M s0 g f (.kf q t')) : View M s g (dod f A) t := by
  rcases h with h | ⟨B, n, rfl, _⟩ | ⟨_, h⟩
  · rcases h with h | h <;> cases h
  · exact .inr (.inr ⟨trivial, some_ne step_beta⟩)
  · exact .inr (.inr ⟨trivial, step_dod_f h⟩)
theorem view_iapp {M s s0 g : Nat} {f A : Dd} {t : Tg} (h : View M s0 g f .idf) : View M s g (dod f A) t := by
  rcases h with h | ⟨B, n, rfl, _⟩ | ⟨_, h⟩
  · rcases h with h | h <;> cases h
  · exact .inr (.inr ⟨trivial, some_ne step_beta⟩)
  · exact .inr (.inr ⟨trivial, step_dod_f h⟩)
theorem view_fst {M s s0 g : Nat} {d : Dd} {t t' : Tg} (h : View M s0 g d (.p1 t')) : View M s g (first d) t := by
  rcases h with h | ⟨B, y, n, rfl, _⟩ | ⟨_, h⟩
  · rcases h with h | h <;> cases h
  · exact .inr (.inr ⟨trivial, some_ne step_fst⟩)
  · exact .inr (.inr ⟨trivial, step_first_f h⟩)
theorem view_snd {M s s0 g : Nat} {d : Dd} {t t' : Tg} (h : View M s0 g d (.p2 t')) : View M s g (second d) t := by
  rcases h with h | ⟨B, y, n, rfl, _⟩ | ⟨_, h⟩
  · rcases h with h | h <;> cases h
  · exact .inr (.inr ⟨trivial, some_ne step_snd⟩)
  · exact .inr (.inr ⟨trivial, step_second_f h⟩)
theorem P.view {M s g : Nat} {Γ : En} {d : Dd} {t : Tg} (h : P M s g Γ d t) : Γ = E1 → View M s g d t := by
  induction h with
  | spot _ _ _ => exact fun _ => .inl (.inl rfl)
  | book _ => exact fun _ => .inl (.inl rfl)
  | sub _ _ => exact fun _ => .inl (.inr rfl)
  | turn _ _ => exact fun _ => .inl (.inr rfl)
  | don _ _ _ _ _ => exact fun _ => .inl (.inl rfl)
  | both _ _ _ _ _ => exact fun _ => .inl (.inr rfl)
  | first _ _ => exact fun _ => .inl (.inl rfl)
  | second _ _ => exact fun _ => .inl (.inl rfl)
  | kfun _ h _ => intro e; subst e; exact .inr (.inl ⟨_, _, rfl, Nat.le_refl _, h⟩)
  | kapp _ _ _ ih => exact fun e => view_kapp (ih e)
  | pr1 h _ _ => intro e; subst e; exact .inr (.inl ⟨_, _, _, rfl, Nat.le_refl _, h⟩)
  | pr2 h _ _ => intro e; subst e; exact .inr (.inl ⟨_, _, _, rfl, Nat.le_refl _, h⟩)
  | fst _ ih => exact fun e => view_fst (ih e)
  | snd _ ih => exact fun e => view_snd (ih e)
  | ifun hZ hs _ => intro e; subst e; exact .inr (.inl ⟨_, _, rfl, Nat.le_refl _, hs, hZ⟩)
  | iapp _ _ _ i1 _ => exact fun e => view_iapp (i1 e)
  | up h _ ih => exact fun e => (ih e).up h
theorem V.view {M s g : Nat} {d : Dd} {t : Tg} (h : V M s g d t) : View M s g d t := by
  induction h with
  | ofP h => exact h.view rfl
  | sub _ _ => exact .inl (.inr rfl)
  | turn _ _ => exact .inl (.inr rfl)
  | don _ _ _ _ _ => exact .inl (.inl rfl)
  | both _ _ _ _ _ => exact .inl (.inr rfl)
  | first _ _ => exact .inl (.inl rfl)
  | second _ _ => exact .inl (.inl rfl)
  | kapp _ _ _ ih => exact view_kapp ih
  | kwrap _ _ => exact .inr (.inr ⟨trivial, some_ne step_beta⟩)
  | pr1 h _ => exact .inr (.inl ⟨_, _, _, rfl, Nat.le_refl _, h⟩)
  | pr2 h _ => exact .inr (.inl ⟨_, _, _, rfl, Nat.le_refl _, h⟩)
  | fst _ ih => exact view_fst ih
  | snd _ ih => exact view_snd ih
  | iapp _ _ _ ih => exact view_iapp ih
  | up h _ ih => exact ih.up h

theorem P.no_turn {M s g : Nat} {Γ : En} {d : Dd} {t : Tg} (h : P M s g Γ d t) : t = .n → (∀ b, d ≠ Dd.turn b) ∧ ∀ a b, d ≠ Dd.both a b := by
  induction h with
  | spot _ _ _ => exact fun _ => ⟨(fun _ q => nomatch q), (fun _ _ q => nomatch q)⟩
  | book _ => exact fun _ => ⟨(fun _ q => nomatch q), (fun _ _ q => nomatch q)⟩
  | sub _ _ => exact fun e => nomatch e
  | turn _ _ => exact fun e => nomatch e
  | don _ _ _ _ _ => exact fun _ => ⟨(fun _ q => nomatch q), (fun _ _ q => nomatch q)⟩
  | both _ _ _ _ _ => exact fun e => nomatch e
  | first _ _ => exact fun _ => ⟨(fun _ q => nomatch q), (fun _ _ q => nomatch q)⟩
  | second _ _ => exact fun _ => ⟨(fun _ q => nomatch q), (fun _ _ q => nomatch q)⟩
  | kfun _ h _ => exact fun e => nomatch e
  | kapp _ _ _ _ => exact fun _ => ⟨(fun _ q => nomatch q), (fun _ _ q => nomatch q)⟩
  | pr1 h _ _ => exact fun e => nomatch e
  | pr2 h _ _ => exact fun e => nomatch e
  | fst _ _ => exact fun _ => ⟨(fun _ q => nomatch q), (fun _ _ q => nomatch q)⟩
  | snd _ _ => exact fun _ => ⟨(fun _ q => nomatch q), (fun _ _ q => nomatch q)⟩
  | ifun hZ hs _ => exact fun e => nomatch e
  | iapp _ _ _ _ _ => exact fun _ => ⟨(fun _ q => nomatch q), (fun _ _ q => nomatch q)⟩
  | up h _ ih => exact ih
theorem V.no_turn {M s g : Nat} {d : Dd} {t : Tg} (h : V M s g d t) : t = .n → (∀ b, d ≠ Dd.turn b) ∧ ∀ a b, d ≠ Dd.both a b := by
  induction h with
  | ofP h => exact h.no_turn
  | sub _ _ => exact fun e => nomatch e
  | turn _ _ => exact fun e => nomatch e
  | don _ _ _ _ _ => exact fun _ => ⟨(fun _ q => nomatch q), (fun _ _ q => nomatch q)⟩
  | both _ _ _ _ _ => exact fun e => nomatch e
  | first _ _ => exact fun _ => ⟨(fun _ q => nomatch q), (fun _ _ q => nomatch q)⟩
  | second _ _ => exact fun _ => ⟨(fun _ q => nomatch q), (fun _ _ q => nomatch q)⟩
  | kapp _ _ _ _ => exact fun _ => ⟨(fun _ q => nomatch q), (fun _ _ q => nomatch q)⟩
  | kwrap _ _ => exact fun _ => ⟨(fun _ q => nomatch q), (fun _ _ q => nomatch q)⟩
  | pr1 h _ => exact fun e => nomatch e
  | pr2 h _ => exact fun e => nomatch e
  | fst _ _ => exact fun _ => ⟨(fun _ q => nomatch q), (fun _ _ q => nomatch q)⟩
  | snd _ _ => exact fun _ => ⟨(fun _ q => nomatch q), (fun _ _ q => nomatch q)⟩
  | iapp _ _ _ _ => exact fun _ => ⟨(fun _ q => nomatch q), (fun _ _ q => nomatch q)⟩
  | up h _ ih => exact ih

/-! ### a step keeps it -/
def Good (M s g : Nat) (d : Dd) (t : Tg) : Prop := ∀ r, Dd.step g d = some r → ((t = .n ∨ t = .v) ∨ Elim d) → V M s g r t
theorem here_ne {g : Nat} {f e : Dd} (h : ∀ b, f ≠ turn b) : Dd.here g (dod f e) = none := by
  cases f <;> first | rfl | exact absurd rfl (h _)
theorem here_nf {g : Nat} {d : Dd} (h : ∀ a b, d ≠ both a b) : Dd.here g (first d) = none := by
  cases d <;> first | rfl | exact absurd rfl (h _ _)
theorem here_ns {g : Nat} {d : Dd} (h : ∀ a b, d ≠ both a b) : Dd.here g (second d) = none := by
  cases d <;> first | rfl | exact absurd rfl (h _ _)
theorem elim_nt {d : Dd} (h : Elim d) : (∀ b, d ≠ Dd.turn b) ∧ ∀ a b, d ≠ Dd.both a b := by
  cases d <;> first | exact h.elim | exact ⟨(fun _ q => nomatch q), (fun _ _ q => nomatch q)⟩
theorem step_dod_e {g : Nat} {f e r : Dd} (h : Dd.step g (dod f e) = some r) (hh : Dd.here g (dod f e) = none) (hf : Dd.step g f ≠ none) : ∃ f', Dd.step g f = some f' ∧ r = dod f' e := by
  rw [Dd.step, hh] at h
  cases q : Dd.step g f with
  | none => exact absurd q hf
  | some f' => simp only [q] at h; cases h; exact ⟨f', rfl, rfl⟩
variable {M : Nat}
theorem good_turn {s g : Nat} {b : Dd} (hb : Good M s (g + 1) b .v) : Good M (s + 1) g (turn b) .v := by
  intro r h _
  rw [Dd.step] at h
  obtain ⟨x, e1, rfl⟩ := map_some h
  exact .turn (hb x e1 (.inl (.inr rfl)))
theorem good_don {s1 s2 s g : Nat} {f e : Dd} (hf : V M s1 g f .n) (he : V M s2 g e .v) (hs : s1 + s2 + 1 ≤ s) (gf : Good M s1 g f .n) (ge : Good M s2 g e .v) : Good M s g (dod f e) .n := by
  intro r h _
  rcases step_dod h with q | ⟨x, q, rfl⟩ | ⟨x, q, rfl⟩
  · rw [here_ne (hf.no_turn rfl).1] at q; cases q
  · exact .don (gf x q (.inl (.inl rfl))) he hs
  · exact .don hf (ge x q (.inl (.inr rfl))) hs
theorem good_both {s1 s2 s g : Nat} {f e : Dd} (hf : V M s1 g f .v) (he : V M s2 g e .v) (hs : s1 + s2 + 1 ≤ s) (gf : Good M s1 g f .v) (ge : Good M s2 g e .v) : Good M s g (both f e) .v := by
  intro r h _
  rcases step_both h with ⟨x, q, rfl⟩ | ⟨x, q, rfl⟩
  · exact .both (gf x q (.inl (.inr rfl))) he hs
  · exact .both hf (ge x q (.inl (.inr rfl))) hs
theorem good_first {s g : Nat} {d : Dd} (hd : V M s g d .n) (gd : Good M s g d .n) : Good M (s + 1) g (first d) .n := by
  intro r h _
  rcases step_first h with q | ⟨x, q, rfl⟩
  · rw [here_nf (hd.no_turn rfl).2] at q; cases q
  · exact .first (gd x q (.inl (.inl rfl)))
theorem good_second {s g : Nat} {d : Dd} (hd : V M s g d .n) (gd : Good M s g d .n) : Good M (s + 1) g (second d) .n := by
  intro r h _
  rcases step_second h with q | ⟨x, q, rfl⟩
  · rw [here_ns (hd.no_turn rfl).2] at q; cases q
  · exact .second (gd x q (.inl (.inl rfl)))
theorem good_kapp {s g q : Nat} {f A : Dd} {t : Tg} (hf : V M s g f (.kf q t)) (hA : Small q E1 g A) (hq : q ≤ M) (gf : Good M s g f (.kf q t)) : Good M (s + 1) g (dod f A) t := by
  intro r h _
  rcases hf.view with k | ⟨B, n, rfl, hn, hB⟩ | ⟨k1, k2⟩
  · rcases k with k | k <;> cases k
  · rw [step_beta] at h
    cases h
    refine .up (s := n) (by omega) (.ofP (P.put hA hB g rfl (Nat.le_refl _) (by unfold exN; rw [if_pos rfl]) E1 (fun i hi => by unfold exN; rw [if_neg (by omega)]) (fun i hi => by unfold exN; rw [if_neg (by omega)]) (fun i h1 h2 => by omega)))
  · obtain ⟨f', e1, rfl⟩ := step_dod_e h (here_ne (elim_nt k1).1) k2
    exact .kapp (gf f' e1 (.inr k1)) hA hq
theorem good_fst {s g : Nat} {d : Dd} {t : Tg} (hd : V M s g d (.p1 t)) (gd : Good M s g d (.p1 t)) : Good M (s + 1) g (first d) t := by
  intro r h _
  rcases hd.view with k | ⟨B, y, n, rfl, hn, hB⟩ | ⟨k1, k2⟩
  · rcases k with k | k <;> cases k
  · rw [step_fst] at h
    cases h
    exact .up (s := n) (by omega) (.ofP hB)
  · rcases step_first h with q | ⟨x, q, rfl⟩
    · rw [here_nf (elim_nt k1).2] at q; cases q
    · exact .fst (gd x q (.inr k1))
theorem good_snd {s g : Nat} {d : Dd} {t : Tg} (hd : V M s g d (.p2 t)) (gd : Good M s g d (.p2 t)) : Good M (s + 1) g (second d) t := by
  intro r h _
  rcases hd.view with k | ⟨B, y, n, rfl, hn, hB⟩ | ⟨k1, k2⟩
  · rcases k with k | k <;> cases k
  · rw [step_snd] at h
    cases h
    exact .up (s := n) (by omega) (.ofP hB)
  · rcases step_second h with q | ⟨x, q, rfl⟩
    · rw [here_ns (elim_nt k1).2] at q; cases q
    · exact .snd (gd x q (.inr k1))
theorem good_kwrap {s g : Nat} {X A : Dd} {t : Tg} (hX : P M s g E1 X t) : Good M (s + 2) g (dod (turn (moved g 1 X)) A) t := by
  intro r h _
  rw [step_beta, put_new] at h
  cases h
  exact .up (s := s) (by omega) (.ofP hX)
theorem good_iapp (hM : 1 ≤ M) {s1 s2 s g : Nat} {f X : Dd} {t : Tg} (hf : V M s1 g f .idf) (hX : P M s2 g E1 X t) (hs : s1 + s2 + 1 ≤ s) (gf : Good M s1 g f .idf) : Good M s g (dod f X) t := by
  intro r h _
  rcases hf.view with k | ⟨Z, n, rfl, hn, hn1, hZ⟩ | ⟨k1, k2⟩
  · rcases k with k | k <;> cases k
  · rw [step_beta] at h
    cases h
    have sp : ∀ {S}, (S = Dd.spot g ∨ ∃ S', S = Dd.moved g 1 S' ∧ Small M E1 g S') → Flat M s2 g (Dd.put g X g S) := by
      rintro S (rfl | ⟨S', rfl, hS⟩)
      · rw [put_own]; exact ⟨hX.held, hX.depth hM⟩
      · rw [put_new]
        have z := hS.2
        rw [pd_E1] at z
        exact ⟨hS.1, by omega⟩
    have mv : Dd.put g X (g + 1) (Dd.spot g) = Dd.moved g 1 X := by rw [Dd.put, if_pos rfl, show g + 1 - g = 1 by omega]
    have mg : Dd.put g X g (Dd.spot g) = X := put_own g X
    cases hZ with
    | own => rw [mg]; exact .up (s := s2) (by omega) (.ofP hX)
    | kill hS =>
      simp only [Dd.put]
      rw [if_pos True.intro, show g + 1 - g = 1 by omega]
      exact .up (s := s2 + 2) (by omega) (.kwrap hX (sp hS))
    | fst hS =>
      have e : ∀ S, Dd.put g X g (first (both (Dd.spot g) S)) = first (both X (Dd.put g X g S)) := fun S => by
        show first (both (Dd.put g X g (Dd.spot g)) _) = _; rw [mg]
      rw [e]
      exact .up (s := s2 + 1 + 1) (by omega) (.fst (.pr1 hX (sp hS)))
    | snd hS =>
      have e : ∀ S, Dd.put g X g (second (both S (Dd.spot g))) = second (both (Dd.put g X g S) X) := fun S => by
        show second (both _ (Dd.put g X g (Dd.spot g))) = _; rw [mg]
      rw [e]
      exact .up (s := s2 + 1 + 1) (by omega) (.snd (.pr2 hX (sp hS)))
    | idd =>
      have e : Dd.put g X g (dod (turn (Dd.spot (g + 1))) (Dd.spot g)) = dod (turn (Dd.spot g)) X := by
        show dod (turn (Dd.put g X (g + 1) (Dd.spot (g + 1)))) (Dd.put g X g (Dd.spot g)) = _
        rw [mg, Dd.put, if_neg (by omega), if_pos (by omega)]
        rfl
      rw [e]
      exact .iapp (s1 := n + 1) (.ofP (.ifun .own hn1 (.inl rfl))) hX (by omega)
  · obtain ⟨f', e1, rfl⟩ := step_dod_e h (here_ne (elim_nt k1).1) k2
    exact .iapp (gf f' e1 (.inr k1)) hX hs

theorem P.good (hM : 1 ≤ M) {s g : Nat} {Γ : En} {d : Dd} {t : Tg} (h : P M s g Γ d t) : Γ = E1 → Good M s g d t := by
  induction h with
  | spot _ _ _ => intro _ r q; cases q
  | book _ => intro _ r q; cases q
  | sub h ih => intro e r q z; exact .sub (ih e r q (.inl (.inl rfl)))
  | turn h ih => intro e; subst e; exact good_turn (ih (exN_E1 _))
  | don h1 h2 hs i1 i2 => intro e; subst e; exact good_don (.ofP h1) (.ofP h2) hs (i1 rfl) (i2 rfl)
  | both h1 h2 hs i1 i2 => intro e; subst e; exact good_both (.ofP h1) (.ofP h2) hs (i1 rfl) (i2 rfl)
  | first h ih => intro e; subst e; exact good_first (.ofP h) (ih rfl)
  | second h ih => intro e; subst e; exact good_second (.ofP h) (ih rfl)
  | kfun _ _ _ => intro e r q z; rcases z with (z | z) | z <;> cases z
  | kapp h hA hq ih => intro e; subst e; exact good_kapp (.ofP h) hA hq (ih rfl)
  | pr1 _ _ _ => intro e r q z; rcases z with (z | z) | z <;> cases z
  | pr2 _ _ _ => intro e r q z; rcases z with (z | z) | z <;> cases z
  | fst h ih => intro e; subst e; exact good_fst (.ofP h) (ih rfl)
  | snd h ih => intro e; subst e; exact good_snd (.ofP h) (ih rfl)
  | ifun _ _ _ => intro e r q z; rcases z with (z | z) | z <;> cases z
  | iapp h1 h2 hs i1 _ => intro e; subst e; exact good_iapp hM (.ofP h1) h2 hs (i1 rfl)
  | up hs _ ih => intro e r q z; exact .up hs (ih e r q z)
theorem V.good (hM : 1 ≤ M) {s g : Nat} {d : Dd} {t : Tg} (h : V M s g d t) : Good M s g d t := by
  induction h with
  | ofP h => exact h.good hM rfl
  | sub _ ih => intro r q z; exact .sub (ih r q (.inl (.inl rfl)))
  | turn _ ih => exact good_turn ih
  | don h1 h2 hs i1 i2 => exact good_don h1 h2 hs i1 i2
  | both h1 h2 hs i1 i2 => exact good_both h1 h2 hs i1 i2
  | first h ih => exact good_first h ih
  | second h ih => exact good_second h ih
  | kapp h hA hq ih => exact good_kapp h hA hq ih
  | kwrap h _ => exact good_kwrap h
  | pr1 _ _ => intro r q z; rcases z with (z | z) | z <;> cases z
  | pr2 _ _ => intro r q z; rcases z with (z | z) | z <;> cases z
  | fst h ih => exact good_fst h ih
  | snd h ih => exact good_snd h ih
  | iapp h1 h2 hs i1 => exact good_iapp hM h1 h2 hs i1
  | up hs _ ih => intro r q z; exact .up hs (ih r q z)
theorem V.step (hM : 1 ≤ M) {s g : Nat} {d r : Dd} (h : V M s g d .v) (q : Dd.step g d = some r) : V M s g r .v := h.good hM r q (.inl (.inr rfl))
theorem V.steps (hM : 1 ≤ M) {s n : Nat} {d r : Dd} (h : V M s 0 d .v) (q : Steps n d r) : V M s 0 r .v := by
  induction q with
  | zero => exact h
  | succ p _ ih => exact ih (h.step hM p)
/-- all that a twice grown deed comes to is no deeper than this -/
theorem Q.steps_depth {z n : Nat} {d r : Dd} (h : Q z 0 (fun _ => true) d .v) (q : Steps n d r) : depth r ≤ size d + 1 ∧ Fd.held 0 r := by
  obtain ⟨s, m, h1, _, hp⟩ := h.num
  have v : V (1 + m) s 0 d .v := .ofP (hp (t := .v) (W := 1) (M := 1 + m) (Γ := E1) rfl trivial (Nat.le_refl _) (fun _ => Nat.le_refl _) (fun _ _ _ => rfl) (Nat.le_refl _))
  have v' := v.steps (by omega) q
  exact ⟨by have := v'.depth (by omega); omega, v'.held⟩
end Fd
set_option Elab.async false
namespace Fd
open PySem Dd

/-! ### kinds: names, numbers for what may be any, ways, pairs -/
inductive Kd where
  | nm (s : Str)
  | num (n : Nat)
  | way (a b : Kd)
  | pair (a b : Kd)
  deriving DecidableEq
namespace Kd
def depth : Kd → Nat
  | nm _ => 0
  | num _ => 0
  | way a b => max (depth a) (depth b) + 1
  | pair a b => max (depth a) (depth b) + 1
def size : Kd → Nat
  | nm _ => 1
  | num _ => 1
  | way a b => size a + size b + 1
  | pair a b => size a + size b + 1
def settled : Kd → Prop
  | nm _ => True
  | num _ => False
  | way a b => settled a ∧ settled b
  | pair a b => settled a ∧ settled b
def sub (f : Nat → Kd) : Kd → Kd
  | nm s => nm s
  | num n => f n
  | way a b => way (sub f a) (sub f b)
  | pair a b => pair (sub f a) (sub f b)
theorem sub_num (k : Kd) : sub num k = k := by
  induction k with
  | nm s => rfl
  | num n => rfl
  | way a b i1 i2 => simp only [sub, i1, i2]
  | pair a b i1 i2 => simp only [sub, i1, i2]
theorem sub_settled {f : Nat → Kd} {k : Kd} (h : settled k) : sub f k = k := by
  induction k with
  | nm s => rfl
  | num n => exact h.elim
  | way a b i1 i2 => simp only [sub, i1 h.1, i2 h.2]
  | pair a b i1 i2 => simp only [sub, i1 h.1, i2 h.2]
end Kd
open Kd

abbrev Bk := List (Str × Kd)
/-- a deed has a kind; all kinds on the way are of those with p -/
inductive Has (p : Kd → Prop) (bk : Bk) : List Kd → Dd → Kd → Prop
  | spot {Γ n k} : Γ[n]? = some k → p k → Has p bk Γ (.spot n) k
  | book {Γ s k} : bk.lookup s = some k → p k → Has p bk Γ (.book s) k
  | turn {Γ d a b} : Has p bk (Γ ++ [a]) d b → p a → p (.way a b) → Has p bk Γ (.turn d) (.way a b)
  | dod {Γ f e a b} : Has p bk Γ f (.way a b) → Has p bk Γ e a → p b → Has p bk Γ (.dod f e) b
  | both {Γ x y a b} : Has p bk Γ x a → Has p bk Γ y b → p (.pair a b) → Has p bk Γ (.both x y) (.pair a b)
  | first {Γ x a b} : Has p bk Γ x (.pair a b) → p a → p b → Has p bk Γ (.first x) a
  | second {Γ x a b} : Has p bk Γ x (.pair a b) → p a → p b → Has p bk Γ (.second x) b
variable {p q : Kd → Prop} {bk : Bk}
theorem Has.fine {Γ : List Kd} {d : Dd} {k : Kd} (h : Has p bk Γ d k) : p k := by
  cases h <;> assumption
theorem Has.mono (pq : ∀ k, p k → q k) {Γ : List Kd} {d : Dd} {k : Kd} (h : Has p bk Γ d k) : Has q bk Γ d k := by
  induction h with
  | spot h1 h2 => exact .spot h1 (pq _ h2)
  | book h1 h2 => exact .book h1 (pq _ h2)
  | turn _ h1 h2 ih => exact .turn ih (pq _ h1) (pq _ h2)
  | dod _ _ h1 i1 i2 => exact .dod i1 i2 (pq _ h1)
  | both _ _ h1 i1 i2 => exact .both i1 i2 (pq _ h1)
  | first _ h1 h2 ih => exact .first ih (pq _ h1) (pq _ h2)
  | second _ h1 h2 ih => exact .second ih (pq _ h1) (pq _ h2)
theorem Has.held {Γ : List Kd} {d : Dd} {k : Kd} (h : Has p bk Γ d k) : Fd.held Γ.length d := by
  induction h with
  | spot h1 _ => exact (List.getElem?_eq_some_iff.mp h1).1
  | book _ _ => trivial
  | turn _ _ _ ih => rw [List.length_append] at ih; exact ih
  | dod _ _ _ i1 i2 => exact ⟨i1, i2⟩
  | both _ _ _ i1 i2 => exact ⟨i1, i2⟩
  | first _ _ _ ih => exact ih
  | second _ _ _ ih => exact ih
/-- m kinds more behind the first ones -/
theorem Has.moved {Γ1 : List Kd} {Γ : List Kd} {d : Dd} {k : Kd} (h : Has p bk Γ d k) : ∀ Γ2 M, Γ = Γ1 ++ Γ2 → Has p bk (Γ1 ++ M ++ Γ2) (Dd.moved Γ1.length M.length d) k := by
  induction h with
  | @spot Γ n k h1 h2 =>
    intro Γ2 M e
    subst e
    rw [Dd.moved]
    split
    · rename_i q
      refine .spot ?_ h2
      rw [List.getElem?_append_left q] at h1
      rw [List.append_assoc, List.getElem?_append_left q]
      exact h1
    · rename_i q
      refine .spot ?_ h2
      rw [List.getElem?_append_right (by omega)] at h1
      rw [List.getElem?_append_right (by rw [List.length_append]; omega), List.length_append]
      rw [show n + M.length - (Γ1.length + M.length) = n - Γ1.length by omega]
      exact h1
  | book h1 h2 => intro Γ2 M e; exact .book h1 h2
  | turn _ h1 h2 ih =>
    intro Γ2 M e
    subst e
    have z := ih (Γ2 ++ [_]) M (by rw [List.append_assoc])
    rw [← List.append_assoc] at z
    exact .turn z h1 h2
  | dod _ _ h1 i1 i2 => intro Γ2 M e; exact .dod (i1 Γ2 M e) (i2 Γ2 M e) h1
  | both _ _ h1 i1 i2 => intro Γ2 M e; exact .both (i1 Γ2 M e) (i2 Γ2 M e) h1
  | first _ h1 h2 ih => intro Γ2 M e; exact .first (ih Γ2 M e) h1 h2
  | second _ h1 h2 ih => intro Γ2 M e; exact .second (ih Γ2 M e) h1 h2
theorem Has.new {Γ : List Kd} {d : Dd} {k a : Kd} (h : Has p bk Γ d k) : Has p bk (Γ ++ [a]) (Dd.moved Γ.length 1 d) k := by
  have z := h.moved (Γ1 := Γ) [] [a] (by simp)
  simpa using z
/-- .. and back -/
theorem Has.back {Γ1 M : List Kd} (d : Dd) : ∀ {Γ2 : List Kd} {k : Kd}, Has p bk (Γ1 ++ M ++ Γ2) (Dd.moved Γ1.length M.length d) k → Has p bk (Γ1 ++ Γ2) d k := by
  induction d with
  | spot n =>
    intro Γ2 k h
    rw [Dd.moved] at h
    split at h
    · rename_i q
      cases h with
      | spot h1 h2 =>
        refine .spot ?_ h2
        rw [List.append_assoc, List.getElem?_append_left q] at h1
        rw [List.getElem?_append_left q]
        exact h1
    · rename_i q
      cases h with
      | spot h1 h2 =>
        refine .spot ?_ h2
        rw [List.getElem?_append_right (by rw [List.length_append]; omega), List.length_append] at h1
        rw [show n + M.length - (Γ1.length + M.length) = n - Γ1.length by omega] at h1
        rw [List.getElem?_append_right (by omega)]
        exact h1
  | book s => intro Γ2 k h; cases h with | book h1 h2 => exact .book h1 h2
  | turn d ih =>
    intro Γ2 k h
    cases h with
    | turn h1 h2 h3 =>
      rw [List.append_assoc] at h1
      have z := ih h1
      rw [← List.append_assoc] at z
      exact .turn z h2 h3
  | dod f e i1 i2 => intro Γ2 k h; cases h with | dod h1 h2 h3 => exact .dod (i1 h1) (i2 h2) h3
  | both f e i1 i2 => intro Γ2 k h; cases h with | both h1 h2 h3 => exact .both (i1 h1) (i2 h2) h3
  | first d ih => intro Γ2 k h; cases h with | first h1 h2 h3 => exact .first (ih h1) h2 h3
  | second d ih => intro Γ2 k h; cases h with | second h1 h2 h3 => exact .second (ih h1) h2 h3
theorem Has.old {Γ : List Kd} {d : Dd} {k a : Kd} (h : Has p bk (Γ ++ [a]) (Dd.moved Γ.length 1 d) k) : Has p bk Γ d k := by
  have z := Has.back (Γ1 := Γ) (M := [a]) (Γ2 := []) (k := k) d (by simpa using h)
  simpa using z

theorem spare_has {pt : Kd} (hp : p pt) (hw : p (.way pt pt)) {Γ : List Kd} (hΓ : ∀ k ∈ Γ, p k) {A : Dd} (h : spareOf Γ.length A) : ∃ k, Has p bk Γ A k := by
  rcases h with ⟨i, hi, rfl⟩ | rfl
  · refine ⟨Γ[i], .spot (List.getElem?_eq_getElem hi) (hΓ _ (List.getElem_mem hi))⟩
  · exact ⟨.way pt pt, .turn (.spot (by simp) hp) hp hw⟩
/-- a grown deed has the kinds of the deed: all kinds on the way may be ways and pairs of those of before -/
structure Wider (p q : Kd → Prop) : Prop where
  of : ∀ k, p k → q k
  way : ∀ a b, p a → p b → q (.way a b)
  pair : ∀ a b, p a → p b → q (.pair a b)
theorem Gro.has {pt : Kd} (W : Wider p q) (hp : p pt) (hw : p (.way pt pt)) {w : Bool} {g : Nat} {d G : Dd} (h : Gro w g d G) : ∀ {Γ : List Kd} {k : Kd}, Γ.length = g → (∀ k ∈ Γ, p k) → Has p bk Γ d k → Has q bk Γ G k := by
  have spa : ∀ {g : Nat} {A : Dd} {Γ : List Kd}, Γ.length = g → (∀ k ∈ Γ, p k) → spareOf g A → ∃ k, p k ∧ Has q bk Γ A k := fun {g A Γ} hg hΓ hA => by
    subst hg
    obtain ⟨k, z⟩ := spare_has (bk := bk) hp hw hΓ hA
    exact ⟨k, z.fine, z.mono W.of⟩
  induction h with
  | spot => intro Γ k hg hΓ h; exact h.mono W.of
  | book => intro Γ k hg hΓ h; exact h.mono W.of
  | turn _ ih =>
    intro Γ k hg hΓ h
    cases h with
    | turn h1 h2 h3 =>
      refine .turn (ih (by rw [List.length_append, hg]; rfl) (fun k hk => ?_) h1) (W.of _ h2) (W.of _ h3)
      rcases List.mem_append.mp hk with hk | hk
      · exact hΓ k hk
      · rw [List.mem_singleton.mp hk]; exact h2
  | dod _ _ i1 i2 => intro Γ k hg hΓ h; cases h with | dod h1 h2 h3 => exact .dod (i1 hg hΓ h1) (i2 hg hΓ h2) (W.of _ h3)
  | both _ _ i1 i2 => intro Γ k hg hΓ h; cases h with | both h1 h2 h3 => exact .both (i1 hg hΓ h1) (i2 hg hΓ h2) (W.of _ h3)
  | first _ ih => intro Γ k hg hΓ h; cases h with | first h1 h2 h3 => exact .first (ih hg hΓ h1) (W.of _ h2) (W.of _ h3)
  | second _ ih => intro Γ k hg hΓ h; cases h with | second h1 h2 h3 => exact .second (ih hg hΓ h1) (W.of _ h2) (W.of _ h3)
  | same _ ih => exact ih
  | kill _ hA ih =>
    intro Γ k hg hΓ h
    obtain ⟨ka, pa, ha⟩ := spa hg hΓ hA
    have z := ih hg hΓ h
    have zn := z.new (a := ka)
    rw [hg] at zn
    exact .dod (.turn zn (W.of _ pa) (W.way _ _ pa h.fine)) ha z.fine
  | fst _ hA ih =>
    intro Γ k hg hΓ h
    obtain ⟨ka, pa, ha⟩ := spa hg hΓ hA
    have z := ih hg hΓ h
    exact .first (.both z ha (W.pair _ _ h.fine pa)) z.fine (W.of _ pa)
  | snd _ hA ih =>
    intro Γ k hg hΓ h
    obtain ⟨ka, pa, ha⟩ := spa hg hΓ hA
    have z := ih hg hΓ h
    exact .second (.both ha z (W.pair _ _ pa h.fine)) (W.of _ pa) z.fine
  | idd _ ih =>
    intro Γ k hg hΓ h
    have z := ih hg hΓ h
    exact .dod (.turn (.spot (by rw [← hg]; simp) z.fine) z.fine (W.way _ _ h.fine h.fine)) z z.fine
/-- .. and no others -/
theorem Gro.has_back {w : Bool} {g : Nat} {d G : Dd} (h : Gro w g d G) : ∀ {Γ : List Kd} {k : Kd}, Γ.length = g → Has p bk Γ G k → Has p bk Γ d k := by
  induction h with
  | spot => intro Γ k hg h; exact h
  | book => intro Γ k hg h; exact h
  | turn _ ih => intro Γ k hg h; cases h with | turn h1 h2 h3 => exact .turn (ih (by rw [List.length_append, hg]; rfl) h1) h2 h3
  | dod _ _ i1 i2 => intro Γ k hg h; cases h with | dod h1 h2 h3 => exact .dod (i1 hg h1) (i2 hg h2) h3
  | both _ _ i1 i2 => intro Γ k hg h; cases h with | both h1 h2 h3 => exact .both (i1 hg h1) (i2 hg h2) h3
  | first _ ih => intro Γ k hg h; cases h with | first h1 h2 h3 => exact .first (ih hg h1) h2 h3
  | second _ ih => intro Γ k hg h; cases h with | second h1 h2 h3 => exact .second (ih hg h1) h2 h3
  | same _ ih => exact ih
  | kill _ _ ih =>
    intro Γ k hg h
    cases h with
    | dod h1 h2 h3 =>
      cases h1 with
      | turn h4 h5 h6 =>
        rw [← hg] at h4
        exact ih hg h4.old
  | fst _ _ ih =>
    intro Γ k hg h
    cases h with
    | first h1 h2 h3 => cases h1 with | both h4 h5 h6 => exact ih hg h4
  | snd _ _ ih =>
    intro Γ k hg h
    cases h with
    | second h1 h2 h3 => cases h1 with | both h4 h5 h6 => exact ih hg h5
  | idd _ ih =>
    intro Γ k hg h
    cases h with
    | dod h1 h2 h3 =>
      cases h1 with
      | turn h4 h5 h6 =>
        cases h4 with
        | spot h7 h8 =>
          rw [← hg] at h7
          simp at h7
          subst h7
          exact ih hg h2
end Fd
set_option Elab.async false
namespace Fd
open PySem Dd Kd

/-! ### plain form -/
/-- true: in plain form of a kind; false: a head with what is done about it -/
inductive Pl (bk : Bk) : Bool → List Kd → Dd → Kd → Prop
  | spot {Γ n k} : Γ[n]? = some k → Pl bk false Γ (.spot n) k
  | book {Γ s k} : bk.lookup s = some k → Pl bk false Γ (.book s) k
  | dod {Γ f e a b} : Pl bk false Γ f (.way a b) → Pl bk true Γ e a → Pl bk false Γ (.dod f e) b
  | first {Γ x a b} : Pl bk false Γ x (.pair a b) → Pl bk false Γ (.first x) a
  | second {Γ x a b} : Pl bk false Γ x (.pair a b) → Pl bk false Γ (.second x) b
  | turn {Γ d a b} : Pl bk true (Γ ++ [a]) d b → Pl bk true Γ (.turn d) (.way a b)
  | both {Γ x y a b} : Pl bk true Γ x a → Pl bk true Γ y b → Pl bk true Γ (.both x y) (.pair a b)
  | head {Γ d s} : Pl bk false Γ d (.nm s) → Pl bk true Γ d (.nm s)
variable {bk : Bk}
theorem mem_snoc {α : Type} {p : α → Prop} {l : List α} {a : α} (h : ∀ k ∈ l, p k) (ha : p a) : ∀ k ∈ l ++ [a], p k := fun k hk => by
  rcases List.mem_append.mp hk with hk | hk
  · exact h k hk
  · rw [List.mem_singleton.mp hk]; exact ha
theorem lookup_mem {s : Str} {k : Kd} : ∀ {bk : Bk}, bk.lookup s = some k → ∃ x, (x, k) ∈ bk
  | [], h => by cases h
  | (x, k') :: r, h => by
    rw [List.lookup_cons] at h
    split at h
    · cases h; exact ⟨x, List.mem_cons_self⟩
    · obtain ⟨y, hy⟩ := lookup_mem h
      exact ⟨y, List.mem_cons_of_mem _ hy⟩
/-- all kinds on the way are no deeper than the given ones -/
theorem Pl.has {D : Nat} (hb : ∀ s k, (s, k) ∈ bk → Kd.depth k ≤ D) {w : Bool} {Γ : List Kd} {d : Dd} {K : Kd} (h : Pl bk w Γ d K) :
    (∀ k ∈ Γ, Kd.depth k ≤ D) → (w = true → Kd.depth K ≤ D) → Has (fun k => Kd.depth k ≤ D) bk Γ d K := by
  induction h with
  | spot h => intro hΓ _; exact .spot h (hΓ _ (List.mem_of_getElem? h))
  | book h => intro hΓ _; obtain ⟨x, hx⟩ := lookup_mem h; exact .book h (hb _ _ hx)
  | dod _ _ i1 i2 =>
    intro hΓ _
    have z := i1 hΓ (fun e => nomatch e)
    have q := z.fine
    simp only [Kd.depth] at q
    exact .dod z (i2 hΓ fun _ => by omega) (by omega)
  | first _ ih =>
    intro hΓ _
    have z := ih hΓ (fun e => nomatch e)
    have q := z.fine
    simp only [Kd.depth] at q
    exact .first z (by omega) (by omega)
  | second _ ih =>
    intro hΓ _
    have z := ih hΓ (fun e => nomatch e)
    have q := z.fine
    simp only [Kd.depth] at q
    exact .second z (by omega) (by omega)
  | turn _ ih =>
    intro hΓ hk
    have q := hk rfl
    simp only [Kd.depth] at q
    exact .turn (ih (mem_snoc hΓ (by omega)) fun _ => by omega) (by omega) (hk rfl)
  | both _ _ i1 i2 =>
    intro hΓ hk
    have q := hk rfl
    simp only [Kd.depth] at q
    exact .both (i1 hΓ fun _ => by omega) (i2 hΓ fun _ => by omega) (hk rfl)
  | head _ ih => intro hΓ _; exact ih hΓ (fun e => nomatch e)
theorem exB_true (g : Nat) : exB (fun _ => true) g true = fun _ => true := by
  funext i; unfold exB; split <;> rfl
theorem Pl.q {w : Bool} {Γ : List Kd} {d : Dd} {K : Kd} (h : Pl bk w Γ d K) : Q 0 Γ.length (fun _ => true) d (if w then .v else .n) := by
  induction h with
  | spot h => exact .spot (List.getElem?_eq_some_iff.mp h).1 rfl
  | book _ => exact .book
  | dod _ _ i1 i2 => exact .don i1 i2
  | first _ ih => exact .first ih
  | second _ ih => exact .second ih
  | turn _ ih =>
    rw [List.length_append] at ih
    refine .turn ?_
    rw [exB_true]
    exact ih
  | both _ _ i1 i2 => exact .both i1 i2
  | head _ ih => exact .sub ih
theorem Pl.neu {w : Bool} {Γ : List Kd} {d : Dd} {K : Kd} (h : Pl bk w Γ d K) : w = false → (∀ b, d ≠ Dd.turn b) ∧ ∀ a b, d ≠ Dd.both a b := by
  cases h <;> intro e <;> first | exact (Bool.noConfusion e) | exact ⟨(fun _ q => nomatch q), (fun _ _ q => nomatch q)⟩
theorem still_dod {g : Nat} {f e : Dd} (hf : ∀ b, f ≠ Dd.turn b) (h1 : Still g f) (h2 : Still g e) : Still g (.dod f e) := by
  unfold Still at *
  rw [Dd.step, here_ne hf]
  simp only [h1, h2, Option.map_none]
theorem still_first {g : Nat} {d : Dd} (hf : ∀ a b, d ≠ Dd.both a b) (h1 : Still g d) : Still g (.first d) := by
  unfold Still at *
  rw [Dd.step, here_nf hf]
  simp only [h1, Option.map_none]
theorem still_second {g : Nat} {d : Dd} (hf : ∀ a b, d ≠ Dd.both a b) (h1 : Still g d) : Still g (.second d) := by
  unfold Still at *
  rw [Dd.step, here_ns hf]
  simp only [h1, Option.map_none]
theorem still_both {g : Nat} {a b : Dd} (h1 : Still g a) (h2 : Still g b) : Still g (.both a b) := by
  unfold Still at *
  rw [Dd.step, h1]
  simp only [h2, Option.map_none]
theorem still_turn {g : Nat} {d : Dd} (h1 : Still (g + 1) d) : Still g (.turn d) := by
  unfold Still at *
  rw [Dd.step, h1]; rfl
theorem Pl.still {w : Bool} {Γ : List Kd} {d : Dd} {K : Kd} (h : Pl bk w Γ d K) : Still Γ.length d := by
  induction h with
  | spot _ => rfl
  | book _ => rfl
  | dod h1 _ i1 i2 => exact still_dod (h1.neu rfl).1 i1 i2
  | first h ih => exact still_first (h.neu rfl).2 ih
  | second h ih => exact still_second (h.neu rfl).2 ih
  | turn _ ih => rw [List.length_append] at ih; exact still_turn ih
  | both _ _ i1 i2 => exact still_both i1 i2
  | head _ ih => exact ih

/-! ### openings: true: the deed opened; false: a head and its kind. c: how many calls one in another -/
inductive Op (bk : Bk) : Bool → Nat → List Kd → Kd → Dd → Dd → Prop
  | spot {c Γ n k} : Γ[n]? = some k → Op bk false (c + 1) Γ k (.spot n) (.spot n)
  | book {c Γ s k} : bk.lookup s = some k → Op bk false (c + 1) Γ k (.book s) (.book s)
  | dod {c Γ f f' e e' a b} : Op bk false c Γ (.way a b) f f' → Op bk true c Γ a e e' → Op bk false (c + 1) Γ b (.dod f e) (.dod f' e')
  | first {c Γ d d' a b} : Op bk false c Γ (.pair a b) d d' → Op bk false (c + 1) Γ a (.first d) (.first d')
  | second {c Γ d d' a b} : Op bk false c Γ (.pair a b) d d' → Op bk false (c + 1) Γ b (.second d) (.second d')
  | name {c Γ s k d d'} : Op bk false c Γ k d d' → Op bk true (c + 1) Γ (.nm s) d d'
  | turn {c Γ a b d d'} : Op bk true c (Γ ++ [a]) b d d' → Op bk true (c + 1) Γ (.way a b) (.turn d) (.turn d')
  | eta {c Γ a b d d'} : (∀ x, d ≠ Dd.turn x) → Op bk true c (Γ ++ [a]) b (.dod (moved Γ.length 1 d) (.spot Γ.length)) d' → Op bk true (c + 1) Γ (.way a b) d (.turn d')
  | both {c Γ a b x y x' y'} : Op bk true c Γ a x x' → Op bk true c Γ b y y' → Op bk true (c + 1) Γ (.pair a b) (.both x y) (.both x' y')
  | etap {c Γ a b d x' y'} : (∀ x y, d ≠ Dd.both x y) → Op bk true c Γ a (.first d) x' → Op bk true c Γ b (.second d) y' → Op bk true (c + 1) Γ (.pair a b) d (.both x' y')
theorem Op.mono {w : Bool} {c : Nat} {Γ : List Kd} {K : Kd} {d d' : Dd} (h : Op bk w c Γ K d d') : ∀ {c' : Nat}, c ≤ c' → Op bk w c' Γ K d d' := by
  have pos : ∀ {c c' : Nat}, c + 1 ≤ c' → ∃ n, c' = n + 1 ∧ c ≤ n := fun {c c'} h => ⟨c' - 1, by omega, by omega⟩
  induction h with
  | spot h => intro c' hc; obtain ⟨n, rfl, _⟩ := pos hc; exact .spot h
  | book h => intro c' hc; obtain ⟨n, rfl, _⟩ := pos hc; exact .book h
  | dod _ _ i1 i2 => intro c' hc; obtain ⟨n, rfl, hn⟩ := pos hc; exact .dod (i1 hn) (i2 hn)
  | first _ ih => intro c' hc; obtain ⟨n, rfl, hn⟩ := pos hc; exact .first (ih hn)
  | second _ ih => intro c' hc; obtain ⟨n, rfl, hn⟩ := pos hc; exact .second (ih hn)
  | name _ ih => intro c' hc; obtain ⟨n, rfl, hn⟩ := pos hc; exact .name (ih hn)
  | turn _ ih => intro c' hc; obtain ⟨n, rfl, hn⟩ := pos hc; exact .turn (ih hn)
  | eta h _ ih => intro c' hc; obtain ⟨n, rfl, hn⟩ := pos hc; exact .eta h (ih hn)
  | both _ _ i1 i2 => intro c' hc; obtain ⟨n, rfl, hn⟩ := pos hc; exact .both (i1 hn) (i2 hn)
  | etap h _ _ i1 i2 => intro c' hc; obtain ⟨n, rfl, hn⟩ := pos hc; exact .etap h (i1 hn) (i2 hn)
/-- what is in plain form is opened to itself -/
theorem Pl.op {w : Bool} {Γ : List Kd} {d : Dd} {K : Kd} (h : Pl bk w Γ d K) : Op bk w (2 * Dd.depth d + (if w then 1 else 0)) Γ K d d := by
  induction h with
  | spot h => exact .spot h
  | book h => exact .book h
  | dod _ _ i1 i2 => exact .dod (c := 2 * max (Dd.depth _) (Dd.depth _) + 1) (i1.mono (by simp; omega)) (i2.mono (by simp; omega))
  | first _ ih => exact .first (c := 2 * Dd.depth _ + 1) (ih.mono (by simp))
  | second _ ih => exact .second (c := 2 * Dd.depth _ + 1) (ih.mono (by simp))
  | turn _ ih => exact .turn (c := 2 * Dd.depth _ + 2) (ih.mono (by simp))
  | both _ _ i1 i2 => exact .both (c := 2 * max (Dd.depth _) (Dd.depth _) + 2) (i1.mono (by simp; omega)) (i2.mono (by simp; omega))
  | head _ ih => exact .name (ih.mono (by simp))

theorem nt_moved {g m : Nat} {d : Dd} (h : ∀ x, d ≠ Dd.turn x) : ∀ x, moved g m d ≠ Dd.turn x := by
  intro x
  cases d with
  | spot n => rw [moved]; split <;> exact fun q => nomatch q
  | turn y => exact absurd rfl (h y)
  | _ => exact fun q => nomatch q
theorem nb_moved {g m : Nat} {d : Dd} (h : ∀ x y, d ≠ Dd.both x y) : ∀ x y, moved g m d ≠ Dd.both x y := by
  intro x y
  cases d with
  | spot n => rw [moved]; split <;> exact fun q => nomatch q
  | both a b => exact absurd rfl (h a b)
  | _ => exact fun q => nomatch q
theorem Op.moved {Γ1 : List Kd} {k0 : Kd} {w : Bool} {c : Nat} {Γ : List Kd} {K : Kd} {d d' : Dd} (h : Op bk w c Γ K d d') :
    ∀ Γ2, Γ = Γ1 ++ Γ2 → Op bk w c (Γ1 ++ [k0] ++ Γ2) K (Dd.moved Γ1.length 1 d) (Dd.moved Γ1.length 1 d') := by
  induction h with
  | @spot c Γ n k h =>
    intro Γ2 e
    subst e
    rw [Dd.moved]
    split
    · rename_i q
      refine .spot ?_
      rw [List.getElem?_append_left q] at h
      rw [List.append_assoc, List.getElem?_append_left q]
      exact h
    · rename_i q
      refine .spot ?_
      rw [List.getElem?_append_right (by omega)] at h
      rw [List.getElem?_append_right (by simp; omega)]
      rw [show n + 1 - (Γ1 ++ [k0]).length = n - Γ1.length by simp]
      exact h
  | book h => intro Γ2 e; exact .book h
  | dod _ _ i1 i2 => intro Γ2 e; exact .dod (i1 Γ2 e) (i2 Γ2 e)
  | first _ ih => intro Γ2 e; exact .first (ih Γ2 e)
  | second _ ih => intro Γ2 e; exact .second (ih Γ2 e)
  | name _ ih => intro Γ2 e; exact .name (ih Γ2 e)
  | turn _ ih =>
    intro Γ2 e
    subst e
    have z := ih (Γ2 ++ [_]) (by rw [List.append_assoc])
    rw [← List.append_assoc] at z
    exact .turn z
  | @eta c Γ a b d d' hn _ ih =>
    intro Γ2 e
    subst e
    have z := ih (Γ2 ++ [_]) (by rw [List.append_assoc])
    rw [← List.append_assoc] at z
    simp only [Dd.moved] at z
    rw [moved_comm (by simp), if_neg (by simp)] at z
    refine .eta (nt_moved hn) ?_
    rw [show (Γ1 ++ [k0] ++ Γ2).length = (Γ1 ++ Γ2).length + 1 by simp; omega]
    exact z
  | both _ _ i1 i2 => intro Γ2 e; exact .both (i1 Γ2 e) (i2 Γ2 e)
  | etap hn _ _ i1 i2 => intro Γ2 e; exact .etap (nb_moved hn) (i1 Γ2 e) (i2 Γ2 e)
theorem Op.new {w : Bool} {c : Nat} {Γ : List Kd} {K k0 : Kd} {d d' : Dd} (h : Op bk w c Γ K d d') : Op bk w c (Γ ++ [k0]) K (Dd.moved Γ.length 1 d) (Dd.moved Γ.length 1 d') := by
  have z := h.moved (Γ1 := Γ) (k0 := k0) [] (by simp)
  simpa using z
theorem Op.neu {w : Bool} {c : Nat} {Γ : List Kd} {K : Kd} {d d' : Dd} (h : Op bk w c Γ K d d') : w = false → (∀ b, d ≠ Dd.turn b) ∧ ∀ a b, d ≠ Dd.both a b := by
  cases h <;> intro e <;> first | exact (Bool.noConfusion e) | exact ⟨(fun _ q => nomatch q), (fun _ _ q => nomatch q)⟩

/-! ### every still deed with a kind can be opened -/
def Cf : Nat → Nat → Nat
  | 0, c => c + 1
  | n + 1, c => 1 + Cf n (1 + max c (Cf n 1))
def Df : Nat → Nat → Nat
  | 0, x => x
  | n + 1, x => 1 + Df n (1 + max x (Df n 1))
theorem Cf_gt : ∀ n c, c + 1 ≤ Cf n c
  | 0, c => Nat.le_refl _
  | n + 1, c => by have := Cf_gt n (1 + max c (Cf n 1)); simp only [Cf]; omega
theorem Df_ge : ∀ n c, c ≤ Df n c
  | 0, c => Nat.le_refl _
  | n + 1, c => by have := Df_ge n (1 + max c (Df n 1)); simp only [Df]; omega
theorem Cf_mono : ∀ n {a b}, a ≤ b → Cf n a ≤ Cf n b
  | 0, a, b, h => by simp only [Cf]; omega
  | n + 1, a, b, h => by
    have := Cf_mono n (show 1 + max a (Cf n 1) ≤ 1 + max b (Cf n 1) by omega)
    simp only [Cf]; omega
theorem Df_mono : ∀ n {a b}, a ≤ b → Df n a ≤ Df n b
  | 0, a, b, h => h
  | n + 1, a, b, h => by
    have := Df_mono n (show 1 + max a (Df n 1) ≤ 1 + max b (Df n 1) by omega)
    simp only [Df]; omega
theorem opened_neu : ∀ (n : Nat) {K : Kd}, Kd.depth K ≤ n → settled K → ∀ {c : Nat} {Γ : List Kd} {d r : Dd}, Op bk false c Γ K d r → ∃ r', Op bk true (Cf n c) Γ K d r' ∧ Dd.depth r' ≤ Df n (Dd.depth r)
  | n, .nm s, _, _, c, Γ, d, r, h => ⟨r, Op.mono (.name h) (Cf_gt n c), Df_ge n _⟩
  | n, .num _, _, hs, _, _, _, _, _ => hs.elim
  | 0, .way _ _, hn, _, _, _, _, _, _ => absurd hn (by simp [Kd.depth])
  | 0, .pair _ _, hn, _, _, _, _, _, _ => absurd hn (by simp [Kd.depth])
  | n + 1, .way a b, hn, hs, c, Γ, d, r, h => by
    simp only [Kd.depth] at hn
    have h1 : Op bk false 1 (Γ ++ [a]) a (.spot Γ.length) (.spot Γ.length) := .spot (by simp)
    obtain ⟨x, hx, dx⟩ := opened_neu n (by omega) hs.1 h1
    have h2 : Op bk false (1 + max c (Cf n 1)) (Γ ++ [a]) b (.dod (moved Γ.length 1 d) (.spot Γ.length)) (.dod (moved Γ.length 1 r) x) := by
      rw [Nat.add_comm]
      exact .dod ((h.new (k0 := a)).mono (by omega)) (hx.mono (by omega))
    obtain ⟨y, hy, dy⟩ := opened_neu n (by omega) hs.2 h2
    refine ⟨.turn y, ?_, ?_⟩
    · show Op bk true (1 + _) _ _ _ _
      rw [Nat.add_comm]
      exact .eta (h.neu rfl).1 hy
    · simp only [Dd.depth, depth_moved] at dy dx ⊢
      have e1 : Dd.depth (Dd.spot Γ.length) = 1 := rfl
      have := Df_mono n (show max (Dd.depth r) (Dd.depth x) + 1 ≤ 1 + max (Dd.depth r) (Df n 1) by omega)
      simp only [Df]; omega
  | n + 1, .pair a b, hn, hs, c, Γ, d, r, h => by
    simp only [Kd.depth] at hn
    obtain ⟨x, hx, dx⟩ := opened_neu n (by omega) hs.1 (Op.first h)
    obtain ⟨y, hy, dy⟩ := opened_neu n (by omega) hs.2 (Op.second h)
    have m := Cf_mono n (show c + 1 ≤ 1 + max c (Cf n 1) by omega)
    refine ⟨.both x y, ?_, ?_⟩
    · show Op bk true (1 + _) _ _ _ _
      rw [Nat.add_comm]
      exact .etap (h.neu rfl).2 (hx.mono m) (hy.mono m)
    · simp only [Dd.depth] at dy dx ⊢
      have := Df_mono n (show Dd.depth r + 1 ≤ 1 + max (Dd.depth r) (Df n 1) by omega)
      simp only [Df]; omega
/-- how many calls, how deep -/
def cw (n : Nat) : Bool → Dd → Nat
  | false, .spot _ => 1
  | false, .book _ => 1
  | false, .dod f e => 1 + max (cw n false f) (cw n true e)
  | false, .first d => 1 + cw n false d
  | false, .second d => 1 + cw n false d
  | false, .turn _ => 0
  | false, .both _ _ => 0
  | true, .turn d => 1 + cw n true d
  | true, .both a b => 1 + max (cw n true a) (cw n true b)
  | true, .spot _ => Cf n 1
  | true, .book _ => Cf n 1
  | true, .dod f e => Cf n (1 + max (cw n false f) (cw n true e))
  | true, .first d => Cf n (1 + cw n false d)
  | true, .second d => Cf n (1 + cw n false d)
def dw (n : Nat) : Bool → Dd → Nat
  | false, .spot _ => 1
  | false, .book _ => 1
  | false, .dod f e => 1 + max (dw n false f) (dw n true e)
  | false, .first d => 1 + dw n false d
  | false, .second d => 1 + dw n false d
  | false, .turn _ => 0
  | false, .both _ _ => 0
  | true, .turn d => 1 + dw n true d
  | true, .both a b => 1 + max (dw n true a) (dw n true b)
  | true, .spot _ => Df n 1
  | true, .book _ => Df n 1
  | true, .dod f e => Df n (1 + max (dw n false f) (dw n true e))
  | true, .first d => Df n (1 + dw n false d)
  | true, .second d => Df n (1 + dw n false d)
def Neu (d : Dd) : Prop := (∀ b, d ≠ Dd.turn b) ∧ ∀ a b, d ≠ Dd.both a b
theorem cw_neu {n : Nat} {d : Dd} (h : Neu d) : cw n true d = Cf n (cw n false d) := by
  cases d <;> first | rfl | exact absurd rfl (h.1 _) | exact absurd rfl (h.2 _ _)
theorem dw_neu {n : Nat} {d : Dd} (h : Neu d) : dw n true d = Df n (dw n false d) := by
  cases d <;> first | rfl | exact absurd rfl (h.1 _) | exact absurd rfl (h.2 _ _)
variable {p : Kd → Prop}
theorem opened_all {n : Nat} (hb : ∀ s k, (s, k) ∈ bk → Kd.depth k ≤ n ∧ settled k) {Γ : List Kd} {d : Dd} {K : Kd} (h : Has p bk Γ d K) : (∀ k ∈ Γ, Kd.depth k ≤ n ∧ settled k) → Still Γ.length d →
    (Neu d → Kd.depth K ≤ n ∧ settled K ∧ ∃ r, Op bk false (cw n false d) Γ K d r ∧ Dd.depth r ≤ dw n false d) ∧
    (Kd.depth K ≤ n → settled K → ∃ r, Op bk true (cw n true d) Γ K d r ∧ Dd.depth r ≤ dw n true d) := by
  have fin : ∀ {Γ : List Kd} {d : Dd} {K : Kd}, Neu d → (Kd.depth K ≤ n ∧ settled K ∧ ∃ r, Op bk false (cw n false d) Γ K d r ∧ Dd.depth r ≤ dw n false d) →
      (Neu d → Kd.depth K ≤ n ∧ settled K ∧ ∃ r, Op bk false (cw n false d) Γ K d r ∧ Dd.depth r ≤ dw n false d) ∧
      (Kd.depth K ≤ n → settled K → ∃ r, Op bk true (cw n true d) Γ K d r ∧ Dd.depth r ≤ dw n true d) := fun {Γ d K} hn h => ⟨fun _ => h, fun h1 h2 => by
    obtain ⟨_, _, r, hr, dr⟩ := h
    obtain ⟨r', h3, h4⟩ := opened_neu n h1 h2 hr
    rw [cw_neu hn, dw_neu hn]
    exact ⟨r', h3, Nat.le_trans h4 (Df_mono n dr)⟩⟩
  have nn : ∀ {d : Dd}, Elim d → Neu d := fun h => elim_nt h
  induction h with
  | @spot Γ m k h1 _ =>
    intro hΓ _
    have := hΓ _ (List.mem_of_getElem? h1)
    exact fin ⟨(fun _ q => nomatch q), (fun _ _ q => nomatch q)⟩ ⟨this.1, this.2, .spot m, .spot h1, Nat.le_refl _⟩
  | @book Γ s k h1 _ =>
    intro hΓ _
    obtain ⟨x, hx⟩ := lookup_mem h1
    have := hb _ _ hx
    exact fin ⟨(fun _ q => nomatch q), (fun _ _ q => nomatch q)⟩ ⟨this.1, this.2, .book s, .book h1, Nat.le_refl _⟩
  | @turn Γ d a b h1 _ _ ih =>
    intro hΓ hs
    refine ⟨fun hn => absurd rfl (hn.1 _), fun h1 h2 => ?_⟩
    simp only [Kd.depth] at h1
    have z := ih (mem_snoc hΓ ⟨by omega, h2.1⟩) (by rw [List.length_append]; exact hs.turn)
    obtain ⟨r, hr, dr⟩ := z.2 (by omega) h2.2
    refine ⟨.turn r, ?_, ?_⟩
    · show Op bk true (1 + _) _ _ _ _
      rw [Nat.add_comm]
      exact .turn hr
    · simp only [dw, Dd.depth]; omega
  | @dod Γ f e a b h1 _ _ i1 i2 =>
    intro hΓ hs
    obtain ⟨s0, s1, s2⟩ := hs.dod
    have nf : Neu f := by
      refine ⟨fun b e => ?_, fun x y e => ?_⟩
      · subst e; cases s0
      · subst e; cases h1
    obtain ⟨k1, k2, r, hr, dr⟩ := (i1 hΓ s1).1 nf
    simp only [Kd.depth] at k1
    obtain ⟨x, hx, dx⟩ := (i2 hΓ s2).2 (by omega) k2.1
    refine fin (nn trivial) ⟨by omega, k2.2, .dod r x, ?_, ?_⟩
    · show Op bk false (1 + _) _ _ _ _
      rw [Nat.add_comm]
      exact .dod (hr.mono (by omega)) (hx.mono (by omega))
    · simp only [dw, Dd.depth]; omega
  | @both Γ x y a b _ _ _ i1 i2 =>
    intro hΓ hs
    obtain ⟨s1, s2⟩ := hs.both
    refine ⟨fun hn => absurd rfl (hn.2 _ _), fun h1 h2 => ?_⟩
    simp only [Kd.depth] at h1
    obtain ⟨r, hr, dr⟩ := (i1 hΓ s1).2 (by omega) h2.1
    obtain ⟨z, hz, dz⟩ := (i2 hΓ s2).2 (by omega) h2.2
    refine ⟨.both r z, ?_, ?_⟩
    · show Op bk true (1 + _) _ _ _ _
      rw [Nat.add_comm]
      exact .both (hr.mono (by omega)) (hz.mono (by omega))
    · simp only [dw, Dd.depth]; omega
  | @first Γ x a b h1 _ _ ih =>
    intro hΓ hs
    obtain ⟨s0, s1⟩ := hs.first
    have nf : Neu x := by
      refine ⟨fun b e => ?_, fun x y e => ?_⟩
      · subst e; cases h1
      · subst e; cases s0
    obtain ⟨k1, k2, r, hr, dr⟩ := (ih hΓ s1).1 nf
    simp only [Kd.depth] at k1
    refine fin (nn trivial) ⟨by omega, k2.1, .first r, ?_, ?_⟩
    · show Op bk false (1 + _) _ _ _ _
      rw [Nat.add_comm]
      exact .first hr
    · simp only [dw, Dd.depth]; omega
  | @second Γ x a b h1 _ _ ih =>
    intro hΓ hs
    obtain ⟨s0, s1⟩ := hs.second
    have nf : Neu x := by
      refine ⟨fun b e => ?_, fun x y e => ?_⟩
      · subst e; cases h1
      · subst e; cases s0
    obtain ⟨k1, k2, r, hr, dr⟩ := (ih hΓ s1).1 nf
    simp only [Kd.depth] at k1
    refine fin (nn trivial) ⟨by omega, k2.2, .second r, ?_, ?_⟩
    · show Op bk false (1 + _) _ _ _ _
      rw [Nat.add_comm]
      exact .second hr
    · simp only [dw, Dd.depth]; omega
end Fd
set_option Elab.async false
set_option linter.all false
namespace Fd
open PySem Dd Kd

/-! ### what numbers have become -/
abbrev Bec := List (Nat × Kd)
/-- a kind by what its top has become, in so many goes -/
inductive Sn (S : Bec) : Nat → Kd → Kd → Prop
  | stop {k} : (∀ n, k = .num n → S.lookup n = none) → Sn S 0 k k
  | go {n m t k} : S.lookup n = some t → Sn S m t k → Sn S (m + 1) (.num n) k
theorem Sn.last {S : Bec} {m : Nat} {k k' : Kd} (h : Sn S m k k') : ∀ n, k' = .num n → S.lookup n = none := by
  induction h with
  | stop h => exact h
  | go _ _ ih => exact ih
theorem Sn.again {S : Bec} {m : Nat} {k k' : Kd} (h : Sn S m k k') : Sn S 0 k' k' := .stop h.last
theorem Sn.det {S : Bec} {m : Nat} {k k' : Kd} (h : Sn S m k k') : ∀ {m' : Nat} {k'' : Kd}, Sn S m' k k'' → k' = k'' := by
  induction h with
  | stop h =>
    intro m' k'' h2
    cases h2 with
    | stop _ => rfl
    | go e _ => rw [h _ rfl] at e; cases e
  | go e _ ih =>
    intro m' k'' h2
    cases h2 with
    | stop h => rw [h _ rfl] at e; cases e
    | go e2 h2 => rw [e] at e2; cases e2; exact ih h2
theorem lookup_snoc {S : Bec} {n m : Nat} {t : Kd} : (S ++ [(n, t)]).lookup m = (S.lookup m).or (if m = n then some t else none) := by
  induction S with
  | nil =>
    show List.lookup m [(n, t)] = _
    rw [List.lookup_cons]
    by_cases e : m = n
    · subst e; simp
    · have : (m == n) = false := by simpa using e
      rw [this, if_neg e]; rfl
  | cons p r ih =>
    obtain ⟨a, b⟩ := p
    show List.lookup m ((a, b) :: (r ++ [(n, t)])) = _
    rw [List.lookup_cons, List.lookup_cons]
    split
    · rfl
    · exact ih
theorem lookup_in {S : Bec} {n : Nat} {t : Kd} (h : S.lookup n = some t) : (n, t) ∈ S := by
  induction S with
  | nil => cases h
  | cons p r ih =>
    obtain ⟨a, b⟩ := p
    rw [List.lookup_cons] at h
    split at h
    · rename_i e
      cases h
      rw [eq_of_beq e]
      exact List.mem_cons_self
    · exact List.mem_cons_of_mem _ (ih h)
inductive Wf : Bec → Prop
  | nil : Wf []
  | snoc {S n t} : Wf S → S.lookup n = none → (∀ m, t = .num m → m ≠ n ∧ S.lookup m = none) → Wf (S ++ [(n, t)])
theorem Sn.snoc_other {S : Bec} {n : Nat} {t : Kd} (hn : S.lookup n = none) {m : Nat} {k k' : Kd} (h : Sn S m k k') (hk : k' ≠ .num n) : Sn (S ++ [(n, t)]) m k k' := by
  induction h with
  | stop h =>
    refine .stop fun j e => ?_
    rw [lookup_snoc, h j e, if_neg (fun z => hk (by rw [e, z]))]
    rfl
  | go e _ ih =>
    refine .go ?_ (ih hk)
    rw [lookup_snoc, e]; rfl
theorem Sn.snoc_here {S : Bec} {n : Nat} {t : Kd} (hn : S.lookup n = none) (ht : ∀ m, t = .num m → m ≠ n ∧ S.lookup m = none) {m : Nat} {k k' : Kd} (h : Sn S m k k') : k' = .num n → ∃ m', Sn (S ++ [(n, t)]) m' k t := by
  induction h with
  | stop h =>
    intro e
    subst e
    refine ⟨1, .go (n := n) (t := t) ?_ (.stop fun j e => ?_)⟩
    · rw [lookup_snoc, hn, if_pos rfl]; rfl
    · rw [lookup_snoc, (ht j e).2, if_neg (ht j e).1]; rfl
  | go e _ ih =>
    intro e'
    obtain ⟨m', h'⟩ := ih e'
    exact ⟨m' + 1, .go (by rw [lookup_snoc, e]; rfl) h'⟩
theorem Wf.sn {S : Bec} (h : Wf S) : ∀ k, ∃ m k', Sn S m k k' := by
  induction h with
  | nil => intro k; exact ⟨0, k, .stop fun _ _ => rfl⟩
  | @snoc S n t _ hn ht ih =>
    intro k
    obtain ⟨m, k', h⟩ := ih k
    by_cases e : k' = .num n
    · obtain ⟨m', h'⟩ := h.snoc_here hn ht e
      exact ⟨m', t, h'⟩
    · exact ⟨m, k', h.snoc_other hn e⟩

/-- a filling of all numbers that bears what they have become -/
def Sol (f : Nat → Kd) (S : Bec) : Prop := ∀ n t, S.lookup n = some t → f n = sub f t
theorem Sol.sn {f : Nat → Kd} {S : Bec} (s : Sol f S) {m : Nat} {k k' : Kd} (h : Sn S m k k') : sub f k = sub f k' := by
  induction h with
  | stop _ => rfl
  | go e _ ih => rw [← ih]; exact s _ _ e
theorem Sol.snoc {f : Nat → Kd} {S : Bec} {n : Nat} {t : Kd} (hn : S.lookup n = none) : Sol f (S ++ [(n, t)]) ↔ Sol f S ∧ f n = sub f t := by
  constructor
  · intro h
    refine ⟨fun m u e => h m u (by rw [lookup_snoc, e]; rfl), h n t (by rw [lookup_snoc, hn, if_pos rfl]; rfl)⟩
  · rintro ⟨h1, h2⟩ m u e
    rw [lookup_snoc] at e
    cases q : S.lookup m with
    | some v => rw [q] at e; cases e; exact h1 m u q
    | none =>
      rw [q] at e
      by_cases z : m = n
      · rw [if_pos z] at e; cases e; rw [z]; exact h2
      · rw [if_neg z] at e; cases e

/-- how high a kind is where each number has a height -/
def hgt (ρ : Nat → Nat) : Kd → Nat
  | .nm _ => 0
  | .num n => ρ n
  | .way a b => max (hgt ρ a) (hgt ρ b) + 1
  | .pair a b => max (hgt ρ a) (hgt ρ b) + 1
def Rk (ρ : Nat → Nat) (S : Bec) : Prop := ∀ n t, S.lookup n = some t → hgt ρ t ≤ ρ n
theorem Rk.sn {ρ : Nat → Nat} {S : Bec} (r : Rk ρ S) {m : Nat} {k k' : Kd} (h : Sn S m k k') : hgt ρ k' ≤ hgt ρ k := by
  induction h with
  | stop _ => exact Nat.le_refl _
  | go e _ ih => exact Nat.le_trans ih (r _ _ e)
theorem hgt_sub (f : Nat → Kd) (k : Kd) : hgt (fun n => Kd.depth (f n)) k = Kd.depth (sub f k) := by
  induction k with
  | nm s => rfl
  | num n => rfl
  | way a b i1 i2 => simp only [hgt, sub, Kd.depth, i1, i2]
  | pair a b i1 i2 => simp only [hgt, sub, Kd.depth, i1, i2]
theorem Sol.rk {f : Nat → Kd} {S : Bec} (s : Sol f S) : Rk (fun n => Kd.depth (f n)) S := fun n t e => by
  rw [hgt_sub, ← s n t e]; exact Nat.le_refl _
theorem hgt_add (ρ : Nat → Nat) (E : Nat) (k : Kd) : hgt (fun n => ρ n + E) k ≤ hgt ρ k + E := by
  induction k with
  | nm s => exact Nat.zero_le _
  | num n => exact Nat.le_refl _
  | way a b i1 i2 => simp only [hgt]; omega
  | pair a b i1 i2 => simp only [hgt]; omega
theorem hgt_settled {ρ : Nat → Nat} {k : Kd} (h : settled k) : hgt ρ k = Kd.depth k := by
  induction k with
  | nm s => rfl
  | num n => exact h.elim
  | way a b i1 i2 => simp only [hgt, Kd.depth, i1 h.1, i2 h.2]
  | pair a b i1 i2 => simp only [hgt, Kd.depth, i1 h.1, i2 h.2]
theorem Rk.add {ρ : Nat → Nat} {S : Bec} (r : Rk ρ S) (E : Nat) : Rk (fun n => ρ n + E) S := fun n t e =>
  Nat.le_trans (hgt_add ρ E t) (Nat.add_le_add_right (r n t e) E)
theorem Rk.snoc {ρ : Nat → Nat} {S : Bec} {n : Nat} {t : Kd} (r : Rk ρ S) (h : hgt ρ t ≤ ρ n) : Rk ρ (S ++ [(n, t)]) := fun m u e => by
  rw [lookup_snoc] at e
  cases q : S.lookup m with
  | some v => rw [q] at e; cases e; exact r m u q
  | none =>
    rw [q] at e
    by_cases z : m = n
    · rw [if_pos z] at e; cases e; rw [z]; exact h
    · rw [if_neg z] at e; cases e

/-- a kind by what all numbers have become; c: calls one in another -/
inductive Wh (S : Bec) : Nat → Kd → Kd → Prop
  | nm {c m k s} : Sn S m k (.nm s) → Wh S (c + 1) k (.nm s)
  | num {c m k n} : Sn S m k (.num n) → Wh S (c + 1) k (.num n)
  | way {c m k a b a' b'} : Sn S m k (.way a b) → Wh S c a a' → Wh S c b b' → Wh S (c + 1) k (.way a' b')
  | pair {c m k a b a' b'} : Sn S m k (.pair a b) → Wh S c a a' → Wh S c b b' → Wh S (c + 1) k (.pair a' b')
theorem Wh.ex {ρ : Nat → Nat} {S : Bec} (w : Wf S) (r : Rk ρ S) : ∀ (c : Nat) (k : Kd), hgt ρ k < c → ∃ k', Wh S c k k'
  | 0, _, h => absurd h (Nat.not_lt_zero _)
  | c + 1, k, h => by
    obtain ⟨m, k', hk⟩ := w.sn k
    have q := r.sn hk
    cases k' with
    | nm s => exact ⟨_, .nm hk⟩
    | num n => exact ⟨_, .num hk⟩
    | way a b =>
      simp only [hgt] at q
      obtain ⟨a', ha⟩ := Wh.ex w r c a (by omega)
      obtain ⟨b', hb⟩ := Wh.ex w r c b (by omega)
      exact ⟨_, .way hk ha hb⟩
    | pair a b =>
      simp only [hgt] at q
      obtain ⟨a', ha⟩ := Wh.ex w r c a (by omega)
      obtain ⟨b', hb⟩ := Wh.ex w r c b (by omega)
      exact ⟨_, .pair hk ha hb⟩
theorem Sol.wh {f : Nat → Kd} {S : Bec} (s : Sol f S) {c : Nat} {k k' : Kd} (h : Wh S c k k') : sub f k = sub f k' := by
  induction h with
  | nm h => exact s.sn h
  | num h => exact s.sn h
  | way h _ _ i1 i2 => rw [s.sn h]; simp only [sub, i1, i2]
  | pair h _ _ i1 i2 => rw [s.sn h]; simp only [sub, i1, i2]
theorem Wh.det {S : Bec} {c : Nat} {k k' : Kd} (h : Wh S c k k') : ∀ {c' : Nat} {k'' : Kd}, Wh S c' k k'' → k' = k'' := by
  induction h with
  | nm h =>
    intro c' k'' h2
    cases h2 with
    | nm q => exact h.det q
    | num q => cases h.det q
    | way q _ _ => cases h.det q
    | pair q _ _ => cases h.det q
  | num h =>
    intro c' k'' h2
    cases h2 with
    | nm q => cases h.det q
    | num q => exact h.det q
    | way q _ _ => cases h.det q
    | pair q _ _ => cases h.det q
  | way h _ _ i1 i2 =>
    intro c' k'' h2
    cases h2 with
    | nm q => cases h.det q
    | num q => cases h.det q
    | way q q1 q2 => cases h.det q; rw [i1 q1, i2 q2]
    | pair q _ _ => cases h.det q
  | pair h _ _ i1 i2 =>
    intro c' k'' h2
    cases h2 with
    | nm q => cases h.det q
    | num q => cases h.det q
    | pair q q1 q2 => cases h.det q; rw [i1 q1, i2 q2]
    | way q _ _ => cases h.det q
theorem Wh.mono {S : Bec} {c : Nat} {k k' : Kd} (h : Wh S c k k') : ∀ {c'}, c ≤ c' → Wh S c' k k' := by
  have pos : ∀ {c c' : Nat}, c + 1 ≤ c' → ∃ n, c' = n + 1 ∧ c ≤ n := fun {c c'} h => ⟨c' - 1, by omega, by omega⟩
  induction h with
  | nm h => intro c' hc; obtain ⟨n, rfl, _⟩ := pos hc; exact .nm h
  | num h => intro c' hc; obtain ⟨n, rfl, _⟩ := pos hc; exact .num h
  | way h _ _ i1 i2 => intro c' hc; obtain ⟨n, rfl, hn⟩ := pos hc; exact .way h (i1 hn) (i2 hn)
  | pair h _ _ i1 i2 => intro c' hc; obtain ⟨n, rfl, hn⟩ := pos hc; exact .pair h (i1 hn) (i2 hn)
/-- some filling bears them: each number its whole -/
theorem Sol.ex {ρ : Nat → Nat} {S : Bec} (w : Wf S) (r : Rk ρ S) : ∃ f, Sol f S ∧ ∀ c k k', Wh S c k k' → sub f k = k' := by
  have ch : ∀ n, ∃ k, Wh S (ρ n + 1) (.num n) k := fun n => Wh.ex w r (ρ n + 1) (.num n) (Nat.lt_succ_self _)
  let f : Nat → Kd := fun n => Classical.choose (ch n)
  have hf : ∀ n, Wh S (ρ n + 1) (.num n) (f n) := fun n => Classical.choose_spec (ch n)
  have key : ∀ c k k', Wh S c k k' → sub f k = k' := by
    intro c
    induction c with
    | zero => intro k k' h; cases h
    | succ c ih =>
      intro k
      cases k with
      | nm s =>
        intro k' h
        cases h with
        | nm q => cases q; rfl
        | num q => cases q
        | way q _ _ => cases q
        | pair q _ _ => cases q
      | num n => intro k' h; exact (hf n).det h
      | way a b =>
        intro k' h
        cases h with
        | nm q => cases q
        | num q => cases q
        | way q q1 q2 => cases q; simp only [sub, ih _ _ q1, ih _ _ q2]
        | pair q _ _ => cases q
      | pair a b =>
        intro k' h
        cases h with
        | nm q => cases q
        | num q => cases q
        | pair q q1 q2 => cases q; simp only [sub, ih _ _ q1, ih _ _ q2]
        | way q _ _ => cases q
  refine ⟨f, fun n t e => ?_, key⟩
  obtain ⟨k, hk⟩ := Wh.ex w r (hgt ρ t + 1) t (Nat.lt_succ_self _)
  rw [key _ _ _ hk]
  refine (hf n).det (c' := hgt ρ t + 1) ?_
  cases hk with
  | nm q => exact .nm (.go e q)
  | num q => exact .num (.go e q)
  | way q q1 q2 => exact .way (.go e q) q1 q2
  | pair q q1 q2 => exact .pair (.go e q) q1 q2

/-- a number that doesn't stand in a kind -/
inductive Nst (S : Bec) (n : Nat) : Nat → Kd → Prop
  | nm {c m k s} : Sn S m k (.nm s) → Nst S n (c + 1) k
  | num {c m k j} : Sn S m k (.num j) → j ≠ n → Nst S n (c + 1) k
  | way {c m k a b} : Sn S m k (.way a b) → Nst S n c a → Nst S n c b → Nst S n (c + 1) k
  | pair {c m k a b} : Sn S m k (.pair a b) → Nst S n c a → Nst S n c b → Nst S n (c + 1) k
theorem Nst.ex {f : Nat → Kd} {S : Bec} {n : Nat} (w : Wf S) (s : Sol f S) : ∀ (c : Nat) (k : Kd), Kd.depth (sub f k) < c → Kd.size (sub f k) < Kd.size (f n) → Nst S n c k
  | 0, _, h, _ => absurd h (Nat.not_lt_zero _)
  | c + 1, k, h, hz => by
    obtain ⟨m, k', hk⟩ := w.sn k
    rw [s.sn hk] at h hz
    cases k' with
    | nm s => exact .nm hk
    | num j => exact .num hk fun e => by subst e; exact absurd hz (Nat.lt_irrefl _)
    | way a b =>
      simp only [sub, Kd.depth, Kd.size] at h hz
      exact .way hk (Nst.ex w s c a (by omega) (by omega)) (Nst.ex w s c b (by omega) (by omega))
    | pair a b =>
      simp only [sub, Kd.depth, Kd.size] at h hz
      exact .pair hk (Nst.ex w s c a (by omega) (by omega)) (Nst.ex w s c b (by omega) (by omega))
theorem sn_settled {S : Bec} {k : Kd} (h : settled k) : Sn S 0 k k := .stop fun n e => by subst e; exact h.elim
theorem Nst.settled {S : Bec} {n : Nat} : ∀ (c : Nat) (k : Kd), Kd.settled k → Kd.depth k < c → Nst S n c k
  | 0, _, _, h => absurd h (Nat.not_lt_zero _)
  | c + 1, .nm s, _, _ => .nm (sn_settled (k := .nm s) trivial)
  | c + 1, .num _, h, _ => h.elim
  | c + 1, .way a b, h, hd => by
    simp only [Kd.depth] at hd
    exact .way (sn_settled (k := .way a b) h) (Nst.settled c a h.1 (by omega)) (Nst.settled c b h.2 (by omega))
  | c + 1, .pair a b, h, hd => by
    simp only [Kd.depth] at hd
    exact .pair (sn_settled (k := .pair a b) h) (Nst.settled c a h.1 (by omega)) (Nst.settled c b h.2 (by omega))
end Fd
set_option Elab.async false
set_option linter.all false
namespace Fd
open PySem Dd Kd

/-! ### two kinds made alike -/
abbrev Rows := List (Kd × Kd)
/-- what can't be made alike -/
def Clash : Kd → Kd → Prop
  | .nm s, .nm t => s ≠ t
  | .nm _, .way _ _ => True
  | .nm _, .pair _ _ => True
  | .way _ _, .nm _ => True
  | .way _ _, .pair _ _ => True
  | .pair _ _, .nm _ => True
  | .pair _ _, .way _ _ => True
  | _, _ => False
/-- true: they are; c: calls one in another, m: goes of the loop -/
inductive Al (c : Nat) : Nat → Bec → Rows → Bool → Bec → Prop
  | nil {S} : Al c 0 S [] true S
  | same {m S a b rest r S' i j n} : Sn S i a (.num n) → Sn S j b (.num n) → Al c m S rest r S' → Al c (m + 1) S ((a, b) :: rest) r S'
  | left {m S a b b' rest r S' i j n} : Sn S i a (.num n) → Sn S j b b' → b' ≠ .num n → Nst S n c b' → Al c m (S ++ [(n, b')]) rest r S' → Al c (m + 1) S ((a, b) :: rest) r S'
  | right {m S a a' b rest r S' i j n} : Sn S i a a' → (∀ q, a' ≠ .num q) → Sn S j b (.num n) → Nst S n c a' → Al c m (S ++ [(n, a')]) rest r S' → Al c (m + 1) S ((a, b) :: rest) r S'
  | way {m S a b rest r S' i j a1 a2 b1 b2} : Sn S i a (.way a1 a2) → Sn S j b (.way b1 b2) → Al c m S ((a1, b1) :: (a2, b2) :: rest) r S' → rest.length ≤ 32768 → Al c (m + 1) S ((a, b) :: rest) r S'
  | pair {m S a b rest r S' i j a1 a2 b1 b2} : Sn S i a (.pair a1 a2) → Sn S j b (.pair b1 b2) → Al c m S ((a1, b1) :: (a2, b2) :: rest) r S' → rest.length ≤ 32768 → Al c (m + 1) S ((a, b) :: rest) r S'
  | name {m S a b rest r S' i j s} : Sn S i a (.nm s) → Sn S j b (.nm s) → Al c m S rest r S' → Al c (m + 1) S ((a, b) :: rest) r S'
  | clash {S a b rest i j a' b' x y} : Sn S i a a' → Sn S j b b' → Clash a' b' → Wh S c a' x → Wh S c b' y → Al c 1 S ((a, b) :: rest) false S
def Eqs (f : Nat → Kd) (rows : Rows) : Prop := ∀ r ∈ rows, sub f r.1 = sub f r.2
theorem Eqs.cons {f : Nat → Kd} {a b : Kd} {rest : Rows} : Eqs f ((a, b) :: rest) ↔ sub f a = sub f b ∧ Eqs f rest :=
  ⟨fun h => ⟨h (a, b) List.mem_cons_self, fun r hr => h r (List.mem_cons_of_mem _ hr)⟩, fun h r hr => by
    rcases List.mem_cons.mp hr with rfl | hr
    · exact h.1
    · exact h.2 r hr⟩
theorem Clash.ne {f : Nat → Kd} {a b : Kd} (h : Clash a b) : sub f a ≠ sub f b := by
  cases a <;> cases b <;> first | exact h.elim | (intro q; cases q; done) | (intro q; cases q; exact h rfl)
/-- told rightly -/
theorem Al.right_ {c m : Nat} {S S' : Bec} {rows : Rows} {r : Bool} (h : Al c m S rows r S') :
    (r = true → ∀ f, Sol f S' ↔ Sol f S ∧ Eqs f rows) ∧ (r = false → ∀ f, Sol f S → ¬ Eqs f rows) := by
  induction h with
  | nil => exact ⟨fun _ f => ⟨fun h => ⟨h, fun _ z => nomatch z⟩, fun h => h.1⟩, fun e => Bool.noConfusion e⟩
  | same ha hb _ ih =>
    refine ⟨fun e f => ?_, fun e f s q => ih.2 e f s (Eqs.cons.mp q).2⟩
    rw [ih.1 e f, Eqs.cons]
    exact ⟨fun h => ⟨h.1, by rw [h.1.sn ha, h.1.sn hb], h.2⟩, fun h => ⟨h.1, h.2.2⟩⟩
  | left ha hb hn _ _ ih =>
    have e0 := ha.last _ rfl
    refine ⟨fun e f => ?_, fun e f s q => ?_⟩
    · rw [ih.1 e f, Eqs.cons, Sol.snoc e0]
      constructor
      · rintro ⟨⟨h1, h2⟩, h3⟩
        refine ⟨h1, ?_, h3⟩
        rw [h1.sn ha, h1.sn hb]
        exact h2
      · rintro ⟨h1, h2, h3⟩
        rw [h1.sn ha, h1.sn hb] at h2
        exact ⟨⟨h1, h2⟩, h3⟩
    · rw [Eqs.cons, s.sn ha, s.sn hb] at q
      exact ih.2 e f ((Sol.snoc e0).mpr ⟨s, q.1⟩) q.2
  | right ha hn hb _ _ ih =>
    have e0 := hb.last _ rfl
    refine ⟨fun e f => ?_, fun e f s q => ?_⟩
    · rw [ih.1 e f, Eqs.cons, Sol.snoc e0]
      constructor
      · rintro ⟨⟨h1, h2⟩, h3⟩
        refine ⟨h1, ?_, h3⟩
        rw [h1.sn ha, h1.sn hb]
        exact h2.symm
      · rintro ⟨h1, h2, h3⟩
        rw [h1.sn ha, h1.sn hb] at h2
        exact ⟨⟨h1, h2.symm⟩, h3⟩
    · rw [Eqs.cons, s.sn ha, s.sn hb] at q
      exact ih.2 e f ((Sol.snoc e0).mpr ⟨s, q.1.symm⟩) q.2
  | way ha hb _ _ ih =>
    refine ⟨fun e f => ?_, fun e f s q => ?_⟩
    · rw [ih.1 e f, Eqs.cons, Eqs.cons, Eqs.cons]
      constructor
      · rintro ⟨h1, h2, h3, h4⟩
        refine ⟨h1, ?_, h4⟩
        rw [h1.sn ha, h1.sn hb]
        simp only [sub, h2, h3]
      · rintro ⟨h1, h2, h3⟩
        rw [h1.sn ha, h1.sn hb] at h2
        simp only [sub] at h2
        injection h2 with h4 h5
        exact ⟨h1, h4, h5, h3⟩
    · rw [Eqs.cons, s.sn ha, s.sn hb] at q
      obtain ⟨h2, h3⟩ := q
      simp only [sub] at h2
      injection h2 with h4 h5
      exact ih.2 e f s (Eqs.cons.mpr ⟨h4, Eqs.cons.mpr ⟨h5, h3⟩⟩)
  | pair ha hb _ _ ih =>
    refine ⟨fun e f => ?_, fun e f s q => ?_⟩
    · rw [ih.1 e f, Eqs.cons, Eqs.cons, Eqs.cons]
      constructor
      · rintro ⟨h1, h2, h3, h4⟩
        refine ⟨h1, ?_, h4⟩
        rw [h1.sn ha, h1.sn hb]
        simp only [sub, h2, h3]
      · rintro ⟨h1, h2, h3⟩
        rw [h1.sn ha, h1.sn hb] at h2
        simp only [sub] at h2
        injection h2 with h4 h5
        exact ⟨h1, h4, h5, h3⟩
    · rw [Eqs.cons, s.sn ha, s.sn hb] at q
      obtain ⟨h2, h3⟩ := q
      simp only [sub] at h2
      injection h2 with h4 h5
      exact ih.2 e f s (Eqs.cons.mpr ⟨h4, Eqs.cons.mpr ⟨h5, h3⟩⟩)
  | name ha hb _ ih =>
    refine ⟨fun e f => ?_, fun e f s q => ih.2 e f s (Eqs.cons.mp q).2⟩
    rw [ih.1 e f, Eqs.cons]
    exact ⟨fun h => ⟨h.1, by rw [h.1.sn ha, h.1.sn hb], h.2⟩, fun h => ⟨h.1, h.2.2⟩⟩
  | clash ha hb hc _ _ =>
    refine ⟨fun e => Bool.noConfusion e, fun _ f s q => ?_⟩
    rw [Eqs.cons, s.sn ha, s.sn hb] at q
    exact hc.ne q.1
theorem size_pos' (k : Kd) : 0 < Kd.size k := by cases k <;> simp [Kd.size]
def mass (f : Nat → Kd) : Rows → Nat
  | [] => 0
  | (a, _) :: r => Kd.size (sub f a) + mass f r
theorem len_mass {f : Nat → Kd} : ∀ rows : Rows, rows.length ≤ mass f rows
  | [] => Nat.le_refl _
  | (a, _) :: r => by
    have := len_mass (f := f) r
    have := size_pos' (sub f a)
    simp only [mass, List.length_cons]
    omega
theorem size_depth (k : Kd) : Kd.size k + 1 ≤ 2 ^ (Kd.depth k + 1) := by
  induction k with
  | nm s => simp [Kd.size, Kd.depth]
  | num n => simp [Kd.size, Kd.depth]
  | way a b i1 i2 =>
    have h1 := Nat.pow_le_pow_right (n := 2) (by omega) (show Kd.depth a + 1 ≤ max (Kd.depth a) (Kd.depth b) + 1 by omega)
    have h2 := Nat.pow_le_pow_right (n := 2) (by omega) (show Kd.depth b + 1 ≤ max (Kd.depth a) (Kd.depth b) + 1 by omega)
    simp only [Kd.size, Kd.depth]
    rw [Nat.pow_succ 2 (max (Kd.depth a) (Kd.depth b) + 1)]
    omega
  | pair a b i1 i2 =>
    have h1 := Nat.pow_le_pow_right (n := 2) (by omega) (show Kd.depth a + 1 ≤ max (Kd.depth a) (Kd.depth b) + 1 by omega)
    have h2 := Nat.pow_le_pow_right (n := 2) (by omega) (show Kd.depth b + 1 ≤ max (Kd.depth a) (Kd.depth b) + 1 by omega)
    simp only [Kd.size, Kd.depth]
    rw [Nat.pow_succ 2 (max (Kd.depth a) (Kd.depth b) + 1)]
    omega
theorem size_lt {k : Kd} {c : Nat} (h : Kd.depth k < c) (hc : c ≤ 14) : Kd.size k ≤ 32768 := by
  have := size_depth k
  have := Nat.pow_le_pow_right (n := 2) (by omega) (show Kd.depth k + 1 ≤ 14 by omega)
  omega
/-- where a filling makes them alike it comes to an end, well -/
theorem Al.ex {f : Nat → Kd} {c : Nat} : ∀ (N : Nat) (S : Bec) (rows : Rows), N ≤ 32768 → mass f rows ≤ N → Wf S → Sol f S → Eqs f rows → (∀ r ∈ rows, Kd.depth (sub f r.1) < c) →
    ∃ m S', Al c m S rows true S' ∧ Wf S' ∧ Sol f S'
  | _, S, [], _, _, w, s, _, _ => ⟨0, S, .nil, w, s⟩
  | 0, S, (a, b) :: rest, hM, hN, w, s, e, hd => by
    have := size_pos' (sub f a)
    simp only [mass] at hN
    omega
  | N + 1, S, (a, b) :: rest, hM, hN, w, s, e, hd => by
    have hlen : rest.length ≤ 32768 := by
      have h1 := len_mass (f := f) rest
      simp only [mass] at hN
      omega
    obtain ⟨i, a', ha⟩ := w.sn a
    obtain ⟨j, b', hb⟩ := w.sn b
    obtain ⟨e1, e2⟩ := Eqs.cons.mp e
    have d0 : Kd.depth (sub f a) < c := hd (a, b) List.mem_cons_self
    have d1 : ∀ r ∈ rest, Kd.depth (sub f r.1) < c := fun r hr => hd r (List.mem_cons_of_mem _ hr)
    have p0 := size_pos' (sub f a)
    simp only [mass] at hN
    have ea := s.sn ha
    have eb := s.sn hb
    have e3 : sub f a' = sub f b' := by rw [← ea, ← eb]; exact e1
    by_cases ca : ∃ n, a' = .num n
    · obtain ⟨n, rfl⟩ := ca
      by_cases cb : b' = .num n
      · subst cb
        obtain ⟨m, S', h1, h2, h3⟩ := Al.ex N S rest (by omega) (by omega) w s e2 d1
        exact ⟨m + 1, S', .same ha hb h1, h2, h3⟩
      · have en := ha.last n rfl
        have w' : Wf (S ++ [(n, b')]) := .snoc w en fun m q => ⟨fun z => cb (by rw [q, z]), hb.last m q⟩
        have s' : Sol f (S ++ [(n, b')]) := (Sol.snoc en).mpr ⟨s, e3⟩
        obtain ⟨m, S', h1, h2, h3⟩ := Al.ex N _ rest (by omega) (by omega) w' s' e2 d1
        refine ⟨m + 1, S', .left ha hb cb ?_ h1, h2, h3⟩
        have db : Kd.depth (sub f b') < c := by rw [← eb, ← e1]; exact d0
        cases c with
        | zero => exact absurd db (Nat.not_lt_zero _)
        | succ c =>
        cases b' with
        | nm t => exact .nm hb.again
        | num q => exact .num hb.again fun z => cb (by rw [z])
        | way x y =>
          simp only [sub, Kd.depth] at db
          have z : f n = .way (sub f x) (sub f y) := e3
          exact .way hb.again (Nst.ex w s c x (by omega) (by rw [z]; simp only [Kd.size]; omega)) (Nst.ex w s c y (by omega) (by rw [z]; simp only [Kd.size]; omega))
        | pair x y =>
          simp only [sub, Kd.depth] at db
          have z : f n = .pair (sub f x) (sub f y) := e3
          exact .pair hb.again (Nst.ex w s c x (by omega) (by rw [z]; simp only [Kd.size]; omega)) (Nst.ex w s c y (by omega) (by rw [z]; simp only [Kd.size]; omega))
    · by_cases cb : ∃ n, b' = .num n
      · obtain ⟨n, rfl⟩ := cb
        have na : ∀ q, a' ≠ .num q := fun q z => ca ⟨q, z⟩
        have en := hb.last n rfl
        have w' : Wf (S ++ [(n, a')]) := .snoc w en fun m q => absurd q (na m)
        have s' : Sol f (S ++ [(n, a')]) := (Sol.snoc en).mpr ⟨s, e3.symm⟩
        obtain ⟨m, S', h1, h2, h3⟩ := Al.ex N _ rest (by omega) (by omega) w' s' e2 d1
        refine ⟨m + 1, S', .right ha na hb ?_ h1, h2, h3⟩
        rw [ea] at d0
        cases c with
        | zero => exact absurd d0 (Nat.not_lt_zero _)
        | succ c =>
        cases a' with
        | nm t => exact .nm ha.again
        | num q => exact absurd rfl (na q)
        | way x y =>
          simp only [sub, Kd.depth] at d0
          have z : .way (sub f x) (sub f y) = f n := e3
          exact .way ha.again (Nst.ex w s c x (by omega) (by rw [← z]; simp only [Kd.size]; omega)) (Nst.ex w s c y (by omega) (by rw [← z]; simp only [Kd.size]; omega))
        | pair x y =>
          simp only [sub, Kd.depth] at d0
          have z : .pair (sub f x) (sub f y) = f n := e3
          exact .pair ha.again (Nst.ex w s c x (by omega) (by rw [← z]; simp only [Kd.size]; omega)) (Nst.ex w s c y (by omega) (by rw [← z]; simp only [Kd.size]; omega))
      · cases a' with
        | num q => exact absurd ⟨q, rfl⟩ ca
        | nm t =>
          cases b' with
          | num q => exact absurd ⟨q, rfl⟩ cb
          | nm u =>
            cases e3
            obtain ⟨m, S', h1, h2, h3⟩ := Al.ex N S rest (by omega) (by omega) w s e2 d1
            exact ⟨m + 1, S', .name ha hb h1, h2, h3⟩
          | way x y => cases e3
          | pair x y => cases e3
        | way x y =>
          cases b' with
          | num q => exact absurd ⟨q, rfl⟩ cb
          | nm u => cases e3
          | pair u v => cases e3
          | way u v =>
            simp only [sub] at e3
            injection e3 with e4 e5
            rw [ea] at hN d0
            simp only [sub, Kd.size, Kd.depth] at hN d0
            obtain ⟨m, S', h1, h2, h3⟩ := Al.ex N S ((x, u) :: (y, v) :: rest) (by omega) (by simp only [mass]; omega) w s (Eqs.cons.mpr ⟨e4, Eqs.cons.mpr ⟨e5, e2⟩⟩) (fun r hr => by
              rcases List.mem_cons.mp hr with rfl | hr
              · show Kd.depth (sub f x) < c; omega
              · rcases List.mem_cons.mp hr with rfl | hr
                · show Kd.depth (sub f y) < c; omega
                · exact d1 r hr)
            exact ⟨m + 1, S', .way ha hb h1 hlen, h2, h3⟩
        | pair x y =>
          cases b' with
          | num q => exact absurd ⟨q, rfl⟩ cb
          | nm u => cases e3
          | way u v => cases e3
          | pair u v =>
            simp only [sub] at e3
            injection e3 with e4 e5
            rw [ea] at hN d0
            simp only [sub, Kd.size, Kd.depth] at hN d0
            obtain ⟨m, S', h1, h2, h3⟩ := Al.ex N S ((x, u) :: (y, v) :: rest) (by omega) (by simp only [mass]; omega) w s (Eqs.cons.mpr ⟨e4, Eqs.cons.mpr ⟨e5, e2⟩⟩) (fun r hr => by
              rcases List.mem_cons.mp hr with rfl | hr
              · show Kd.depth (sub f x) < c; omega
              · rcases List.mem_cons.mp hr with rfl | hr
                · show Kd.depth (sub f y) < c; omega
                · exact d1 r hr)
            exact ⟨m + 1, S', .pair ha hb h1 hlen, h2, h3⟩
/-- against settled kinds it comes to an end, well or not -/
def mass2 : Rows → Nat
  | [] => 0
  | (_, b) :: r => Kd.size b + mass2 r
theorem len_mass2 : ∀ rows : Rows, rows.length ≤ mass2 rows
  | [] => Nat.le_refl _
  | (_, b) :: r => by
    have := len_mass2 r
    have := size_pos' b
    simp only [mass2, List.length_cons]
    omega
theorem Al.ex2 {ρ : Nat → Nat} {c E : Nat} (hE : ∀ n, E ≤ ρ n) : ∀ (N : Nat) (S : Bec) (rows : Rows), N ≤ 32768 → mass2 rows ≤ N → Wf S → Rk ρ S → (∀ r ∈ rows, hgt ρ r.1 < c ∧ settled r.2 ∧ Kd.depth r.2 ≤ E ∧ Kd.depth r.2 < c) →
    ∃ m r S', Al c m S rows r S' ∧ Wf S' ∧ Rk ρ S'
  | _, S, [], _, _, w, s, _ => ⟨0, true, S, .nil, w, s⟩
  | 0, S, (a, b) :: rest, hM, hN, w, s, hd => by
    have := size_pos' b
    simp only [mass2] at hN
    omega
  | N + 1, S, (a, b) :: rest, hM, hN, w, s, hd => by
    have hlen : rest.length ≤ 32768 := by
      have h1 := len_mass2 rest
      simp only [mass2] at hN
      omega
    obtain ⟨i, a', ha⟩ := w.sn a
    obtain ⟨d1, d2, d3, d4⟩ := hd (a, b) List.mem_cons_self
    have dr : ∀ r ∈ rest, hgt ρ r.1 < c ∧ settled r.2 ∧ Kd.depth r.2 ≤ E ∧ Kd.depth r.2 < c := fun r hr => hd r (List.mem_cons_of_mem _ hr)
    have hb : Sn S 0 b b := sn_settled d2
    have p0 := size_pos' b
    simp only [mass2] at hN
    have ra := s.sn ha
    simp only at d1 d2 d3 d4
    have stop : Clash a' b → ∃ m r S', Al c m S ((a, b) :: rest) r S' ∧ Wf S' ∧ Rk ρ S' := fun hc => by
      obtain ⟨x, hx⟩ := Wh.ex w s c a' (by omega)
      obtain ⟨y, hy⟩ := Wh.ex w s c b (by rw [hgt_settled d2]; exact d4)
      exact ⟨1, false, S, .clash ha hb hc hx hy, w, s⟩
    cases a' with
    | num n =>
      have en := ha.last n rfl
      have nb : b ≠ .num n := fun z => by subst z; exact d2.elim
      have w' : Wf (S ++ [(n, b)]) := .snoc w en fun m q => by subst q; exact d2.elim
      have s' : Rk ρ (S ++ [(n, b)]) := s.snoc (by rw [hgt_settled d2]; exact Nat.le_trans d3 (hE n))
      obtain ⟨m, r, S', h1, h2, h3⟩ := Al.ex2 hE N _ rest (by omega) (by omega) w' s' dr
      exact ⟨m + 1, r, S', .left ha hb nb (Nst.settled c b d2 d4) h1, h2, h3⟩
    | nm t =>
      cases b with
      | num q => exact d2.elim
      | nm u =>
        by_cases z : t = u
        · subst z
          obtain ⟨m, r, S', h1, h2, h3⟩ := Al.ex2 hE N S rest (by omega) (by omega) w s dr
          exact ⟨m + 1, r, S', .name ha hb h1, h2, h3⟩
        · exact stop z
      | way x y => exact stop trivial
      | pair x y => exact stop trivial
    | way x y =>
      cases b with
      | num q => exact d2.elim
      | nm u => exact stop trivial
      | pair u v => exact stop trivial
      | way u v =>
        simp only [hgt] at ra
        simp only [Kd.size, Kd.depth] at hN d3 d4
        obtain ⟨m, r, S', h1, h2, h3⟩ := Al.ex2 hE N S ((x, u) :: (y, v) :: rest) (by omega) (by simp only [mass2]; omega) w s (fun r hr => by
          rcases List.mem_cons.mp hr with rfl | hr
          · exact ⟨show hgt ρ x < c by omega, d2.1, show Kd.depth u ≤ E by omega, show Kd.depth u < c by omega⟩
          · rcases List.mem_cons.mp hr with rfl | hr
            · exact ⟨show hgt ρ y < c by omega, d2.2, show Kd.depth v ≤ E by omega, show Kd.depth v < c by omega⟩
            · exact dr r hr)
        exact ⟨m + 1, r, S', .way ha hb h1 hlen, h2, h3⟩
    | pair x y =>
      cases b with
      | num q => exact d2.elim
      | nm u => exact stop trivial
      | way u v => exact stop trivial
      | pair u v =>
        simp only [hgt] at ra
        simp only [Kd.size, Kd.depth] at hN d3 d4
        obtain ⟨m, r, S', h1, h2, h3⟩ := Al.ex2 hE N S ((x, u) :: (y, v) :: rest) (by omega) (by simp only [mass2]; omega) w s (fun r hr => by
          rcases List.mem_cons.mp hr with rfl | hr
          · exact ⟨show hgt ρ x < c by omega, d2.1, show Kd.depth u ≤ E by omega, show Kd.depth u < c by omega⟩
          · rcases List.mem_cons.mp hr with rfl | hr
            · exact ⟨show hgt ρ y < c by omega, d2.2, show Kd.depth v ≤ E by omega, show Kd.depth v < c by omega⟩
            · exact dr r hr)
        exact ⟨m + 1, r, S', .pair ha hb h1 hlen, h2, h3⟩
end Fd
set_option Elab.async false
set_option linter.all false
namespace Fd
open PySem Dd Kd

/-! ### kinds given to a deed's parts, one behind the other; n: how many numbers so far -/
inductive Inf (bk : Bk) (c : Nat) : Bec → Nat → List Kd → Dd → Kd → Bec → Nat → Prop
  | spot {S n Γ i k} : Γ[i]? = some k → Inf bk c S n Γ (.spot i) k S n
  | book {S n Γ s k} : bk.lookup s = some k → Inf bk c S n Γ (.book s) k S n
  | turn {S n Γ d k S' n'} : Inf bk c S (n + 1) (Γ ++ [.num (n + 1)]) d k S' n' → Inf bk c S n Γ (.turn d) (.way (.num (n + 1)) k) S' n'
  | dod {S n Γ f e k1 S1 n1 k2 S2 n2 m S3} : Inf bk c S n Γ f k1 S1 n1 → Inf bk c S1 n1 Γ e k2 S2 n2 → Al c m S2 [(k1, .way k2 (.num (n2 + 1)))] true S3 → Inf bk c S n Γ (.dod f e) (.num (n2 + 1)) S3 (n2 + 1)
  | both {S n Γ f e k1 S1 n1 k2 S2 n2} : Inf bk c S n Γ f k1 S1 n1 → Inf bk c S1 n1 Γ e k2 S2 n2 → Inf bk c S n Γ (.both f e) (.pair k1 k2) S2 n2
  | first {S n Γ d k S1 n1 m S2} : Inf bk c S n Γ d k S1 n1 → Al c m S1 [(k, .pair (.num (n1 + 1)) (.num (n1 + 2)))] true S2 → Inf bk c S n Γ (.first d) (.num (n1 + 1)) S2 (n1 + 2)
  | second {S n Γ d k S1 n1 m S2} : Inf bk c S n Γ d k S1 n1 → Al c m S1 [(k, .pair (.num (n1 + 1)) (.num (n1 + 2)))] true S2 → Inf bk c S n Γ (.second d) (.num (n1 + 2)) S2 (n1 + 2)
variable {bk : Bk} {c : Nat}
abbrev All : Kd → Prop := fun _ => True
theorem Eqs.one {f : Nat → Kd} {a b : Kd} : Eqs f [(a, b)] ↔ sub f a = sub f b := by
  rw [Eqs.cons]; exact ⟨fun h => h.1, fun h => ⟨h, fun _ z => nomatch z⟩⟩
theorem Inf.sound (hb : ∀ s k, (s, k) ∈ bk → settled k) {S n Γ d k S' n'} (h : Inf bk c S n Γ d k S' n') : ∀ f, Sol f S' → Sol f S ∧ Has All bk (Γ.map (sub f)) d (sub f k) := by
  induction h with
  | spot h => intro f s; exact ⟨s, .spot (by rw [List.getElem?_map, h]; rfl) trivial⟩
  | book h =>
    intro f s
    obtain ⟨x, hx⟩ := lookup_mem h
    rw [sub_settled (hb _ _ hx)]
    exact ⟨s, .book h trivial⟩
  | turn _ ih =>
    intro f s
    obtain ⟨s1, z⟩ := ih f s
    rw [List.map_append] at z
    exact ⟨s1, .turn z trivial trivial⟩
  | dod _ _ ha i1 i2 =>
    intro f s
    obtain ⟨s2, e⟩ := (ha.right_.1 rfl f).mp s
    rw [Eqs.one] at e
    obtain ⟨s1, z2⟩ := i2 f s2
    obtain ⟨s0, z1⟩ := i1 f s1
    rw [e] at z1
    exact ⟨s0, .dod z1 z2 trivial⟩
  | both _ _ i1 i2 =>
    intro f s
    obtain ⟨s1, z2⟩ := i2 f s
    obtain ⟨s0, z1⟩ := i1 f s1
    exact ⟨s0, .both z1 z2 trivial⟩
  | first _ ha ih =>
    intro f s
    obtain ⟨s2, e⟩ := (ha.right_.1 rfl f).mp s
    rw [Eqs.one] at e
    obtain ⟨s0, z1⟩ := ih f s2
    rw [e] at z1
    exact ⟨s0, .first z1 trivial trivial⟩
  | second _ ha ih =>
    intro f s
    obtain ⟨s2, e⟩ := (ha.right_.1 rfl f).mp s
    rw [Eqs.one] at e
    obtain ⟨s0, z1⟩ := ih f s2
    rw [e] at z1
    exact ⟨s0, .second z1 trivial trivial⟩

/-! ### numbers so far -/
def lo (n : Nat) : Kd → Prop
  | .nm _ => True
  | .num i => i ≤ n
  | .way a b => lo n a ∧ lo n b
  | .pair a b => lo n a ∧ lo n b
theorem lo.mono {n n' : Nat} (h : n ≤ n') : ∀ {k : Kd}, lo n k → lo n' k
  | .nm _, _ => trivial
  | .num _, q => Nat.le_trans q h
  | .way _ _, q => ⟨lo.mono h q.1, lo.mono h q.2⟩
  | .pair _ _, q => ⟨lo.mono h q.1, lo.mono h q.2⟩
theorem lo_settled {n : Nat} : ∀ {k : Kd}, settled k → lo n k
  | .nm _, _ => trivial
  | .num _, q => q.elim
  | .way _ _, q => ⟨lo_settled q.1, lo_settled q.2⟩
  | .pair _ _, q => ⟨lo_settled q.1, lo_settled q.2⟩
def Agree (n : Nat) (f g : Nat → Kd) : Prop := ∀ i, i ≤ n → f i = g i
theorem Agree.sub {n : Nat} {f g : Nat → Kd} (h : Agree n f g) : ∀ {k : Kd}, lo n k → Kd.sub f k = Kd.sub g k
  | .nm _, _ => rfl
  | .num i, q => h i q
  | .way _ _, q => by simp only [Kd.sub, Agree.sub h q.1, Agree.sub h q.2]
  | .pair _ _, q => by simp only [Kd.sub, Agree.sub h q.1, Agree.sub h q.2]
def Sc (n : Nat) (S : Bec) : Prop := ∀ i t, S.lookup i = some t → i ≤ n ∧ lo n t
theorem Sc.mono {n n' : Nat} {S : Bec} (h : n ≤ n') (s : Sc n S) : Sc n' S := fun i t e => ⟨Nat.le_trans (s i t e).1 h, (s i t e).2.mono h⟩
theorem Sc.sol {n : Nat} {S : Bec} {f g : Nat → Kd} (s : Sc n S) (a : Agree n f g) (h : Sol f S) : Sol g S := fun i t e => by
  rw [← a i (s i t e).1, ← a.sub (s i t e).2]; exact h i t e
theorem Sc.sn {n : Nat} {S : Bec} (s : Sc n S) {m : Nat} {k k' : Kd} (h : Sn S m k k') : lo n k → lo n k' := by
  induction h with
  | stop _ => exact id
  | go e _ ih => exact fun _ => ih (s _ _ e).2
theorem Sc.snoc {n i : Nat} {S : Bec} {t : Kd} (s : Sc n S) (hi : i ≤ n) (ht : lo n t) : Sc n (S ++ [(i, t)]) := fun m u e => by
  rw [lookup_snoc] at e
  cases q : S.lookup m with
  | some v => rw [q] at e; cases e; exact s m u q
  | none =>
    rw [q] at e
    by_cases z : m = i
    · rw [if_pos z] at e; cases e; rw [z]; exact ⟨hi, ht⟩
    · rw [if_neg z] at e; cases e
theorem Al.sc {n m : Nat} {S S' : Bec} {rows : Rows} {r : Bool} (h : Al c m S rows r S') : Sc n S → (∀ r ∈ rows, lo n r.1 ∧ lo n r.2) → Sc n S' := by
  have hd : ∀ {a b : Kd} {rest : Rows}, (∀ r ∈ ((a, b) :: rest : Rows), lo n r.1 ∧ lo n r.2) → lo n a ∧ lo n b ∧ ∀ r ∈ rest, lo n r.1 ∧ lo n r.2 :=
    fun h => ⟨(h _ List.mem_cons_self).1, (h _ List.mem_cons_self).2, fun r hr => h r (List.mem_cons_of_mem _ hr)⟩
  have mk : ∀ {a b : Kd} {rest : Rows}, lo n a → lo n b → (∀ r ∈ rest, lo n r.1 ∧ lo n r.2) → ∀ r ∈ ((a, b) :: rest : Rows), lo n r.1 ∧ lo n r.2 := fun h1 h2 h3 r hr => by
    rcases List.mem_cons.mp hr with rfl | hr
    · exact ⟨h1, h2⟩
    · exact h3 r hr
  induction h with
  | nil => exact fun s _ => s
  | same _ _ _ ih => exact fun s h => ih s (hd h).2.2
  | left ha hb _ _ _ ih => exact fun s h => ih (s.snoc (s.sn ha (hd h).1) (s.sn hb (hd h).2.1)) (hd h).2.2
  | right ha _ hb _ _ ih => exact fun s h => ih (s.snoc (s.sn hb (hd h).2.1) (s.sn ha (hd h).1)) (hd h).2.2
  | way ha hb _ _ ih =>
    intro s h
    have a1 := s.sn ha (hd h).1
    have b1 := s.sn hb (hd h).2.1
    exact ih s (mk a1.1 b1.1 (mk a1.2 b1.2 (hd h).2.2))
  | pair ha hb _ _ ih =>
    intro s h
    have a1 := s.sn ha (hd h).1
    have b1 := s.sn hb (hd h).2.1
    exact ih s (mk a1.1 b1.1 (mk a1.2 b1.2 (hd h).2.2))
  | name _ _ _ ih => exact fun s h => ih s (hd h).2.2
  | clash _ _ _ _ _ => exact fun s _ => s
theorem one_row {n : Nat} {a b : Kd} (ha : lo n a) (hb : lo n b) : ∀ r ∈ ([(a, b)] : Rows), lo n r.1 ∧ lo n r.2 := fun r hr => by
  rw [List.mem_singleton.mp hr]; exact ⟨ha, hb⟩
theorem Inf.sc (hb : ∀ s k, (s, k) ∈ bk → settled k) {S n Γ d k S' n'} (h : Inf bk c S n Γ d k S' n') : Sc n S → (∀ k ∈ Γ, lo n k) → n ≤ n' ∧ Sc n' S' ∧ lo n' k := by
  induction h with
  | spot h => intro s hΓ; exact ⟨Nat.le_refl _, s, hΓ _ (List.mem_of_getElem? h)⟩
  | book h => intro s hΓ; obtain ⟨x, hx⟩ := lookup_mem h; exact ⟨Nat.le_refl _, s, lo_settled (hb _ _ hx)⟩
  | turn _ ih =>
    intro s hΓ
    obtain ⟨h1, h2, h3⟩ := ih (s.mono (Nat.le_succ _)) (mem_snoc (fun k hk => (hΓ k hk).mono (Nat.le_succ _)) (Nat.le_refl _))
    exact ⟨by omega, h2, h1, h3⟩
  | dod _ _ ha i1 i2 =>
    intro s hΓ
    obtain ⟨h1, h2, h3⟩ := i1 s hΓ
    obtain ⟨g1, g2, g3⟩ := i2 h2 (fun k hk => (hΓ k hk).mono h1)
    exact ⟨by omega, ha.sc (g2.mono (Nat.le_succ _)) (one_row (h3.mono (by omega)) ⟨g3.mono (by omega), Nat.le_refl _⟩), Nat.le_refl _⟩
  | both _ _ i1 i2 =>
    intro s hΓ
    obtain ⟨h1, h2, h3⟩ := i1 s hΓ
    obtain ⟨g1, g2, g3⟩ := i2 h2 (fun k hk => (hΓ k hk).mono h1)
    exact ⟨by omega, g2, h3.mono g1, g3⟩
  | @first S n Γ d k S1 n1 m S2 _ ha ih =>
    intro s hΓ
    obtain ⟨h1, h2, h3⟩ := ih s hΓ
    exact ⟨by omega, ha.sc (h2.mono (by omega)) (one_row (h3.mono (by omega)) ⟨show n1 + 1 ≤ n1 + 2 by omega, Nat.le_refl _⟩), show n1 + 1 ≤ n1 + 2 by omega⟩
  | @second S n Γ d k S1 n1 m S2 _ ha ih =>
    intro s hΓ
    obtain ⟨h1, h2, h3⟩ := ih s hΓ
    exact ⟨by omega, ha.sc (h2.mono (by omega)) (one_row (h3.mono (by omega)) ⟨show n1 + 1 ≤ n1 + 2 by omega, Nat.le_refl _⟩), Nat.le_refl _⟩
def over (f : Nat → Kd) (n : Nat) (k : Kd) : Nat → Kd := fun i => if i = n then k else f i
theorem over_agree {f : Nat → Kd} {n m : Nat} {k : Kd} (h : m < n) : Agree m f (over f n k) := fun i hi => by unfold over; rw [if_neg (by omega)]
theorem over_at {f : Nat → Kd} {n : Nat} {k : Kd} : over f n k n = k := by unfold over; rw [if_pos rfl]
theorem Agree.trans {n m : Nat} {f g h : Nat → Kd} (a : Agree n f g) (b : Agree m g h) (nm : n ≤ m) : Agree n f h := fun i hi => (a i hi).trans (b i (Nat.le_trans hi nm))
theorem Agree.refl (n : Nat) (f : Nat → Kd) : Agree n f f := fun _ _ => rfl
theorem map_agree {n : Nat} {f g : Nat → Kd} (a : Agree n f g) {Γ : List Kd} (hΓ : ∀ k ∈ Γ, lo n k) : Γ.map (sub f) = Γ.map (sub g) :=
  List.map_congr_left fun k hk => a.sub (hΓ k hk)
/-- every kind of the deed comes of a filling of what was found -/
theorem Inf.complete (hb : ∀ s k, (s, k) ∈ bk → settled k) {S n Γ d k S' n'} (h : Inf bk c S n Γ d k S' n') : Sc n S → (∀ k ∈ Γ, lo n k) → ∀ {f : Nat → Kd} {K : Kd} {p : Kd → Prop}, Sol f S → Has p bk (Γ.map (sub f)) d K →
    ∃ g, Agree n f g ∧ Sol g S' ∧ sub g k = K := by
  induction h with
  | spot h =>
    intro _ _ f K p s hh
    cases hh with
    | spot h1 _ =>
      rw [List.getElem?_map, h] at h1
      cases h1
      exact ⟨f, .refl _ _, s, rfl⟩
  | book h =>
    intro _ _ f K p s hh
    cases hh with
    | book h1 _ =>
      rw [h] at h1
      cases h1
      obtain ⟨x, hx⟩ := lookup_mem h
      exact ⟨f, .refl _ _, s, sub_settled (hb _ _ hx)⟩
  | @turn S n Γ d k S' n' _ ih =>
    intro sc hΓ f K p s hh
    cases hh with
    | @turn _ _ a b h1 h2 h3 =>
      have ag : Agree n f (over f (n + 1) a) := over_agree (Nat.lt_succ_self _)
      have e : (Γ ++ [Kd.num (n + 1)]).map (sub (over f (n + 1) a)) = Γ.map (sub f) ++ [a] := by
        rw [List.map_append, ← map_agree ag hΓ]
        show _ ++ [over f (n + 1) a (n + 1)] = _
        rw [over_at]
      rw [← e] at h1
      obtain ⟨g, g1, g2, g3⟩ := ih (sc.mono (Nat.le_succ _)) (mem_snoc (fun k hk => (hΓ k hk).mono (Nat.le_succ _)) (Nat.le_refl _)) (sc.sol ag s) h1
      refine ⟨g, ag.trans g1 (Nat.le_succ _), g2, ?_⟩
      simp only [sub]
      rw [g3, ← g1 (n + 1) (Nat.le_refl _), over_at]
  | @dod S n Γ d e k1 S1 n1 k2 S2 n2 m S3 r1 r2 ha i1 i2 =>
    intro sc hΓ f K p s hh
    cases hh with
    | @dod _ _ _ a b h1 h2 h3 =>
      obtain ⟨u1, u2, u3⟩ := r1.sc hb sc hΓ
      have hΓ1 : ∀ k ∈ Γ, lo n1 k := fun k hk => (hΓ k hk).mono u1
      obtain ⟨v1, v2, v3⟩ := r2.sc hb u2 hΓ1
      obtain ⟨g, g1, g2, g3⟩ := i1 sc hΓ s h1
      rw [map_agree g1 hΓ] at h2
      obtain ⟨q, q1, q2, q3⟩ := i2 u2 hΓ1 g2 h2
      have ag : Agree n2 q (over q (n2 + 1) K) := over_agree (Nat.lt_succ_self _)
      refine ⟨over q (n2 + 1) K, (g1.trans q1 u1).trans ag (by omega), (ha.right_.1 rfl _).mpr ⟨v2.sol ag q2, Eqs.one.mpr ?_⟩, over_at⟩
      simp only [sub]
      rw [← ag.sub (u3.mono v1), ← ag.sub v3, over_at, ← q1.sub u3, g3, q3]
  | @both S n Γ d e k1 S1 n1 k2 S2 n2 r1 r2 i1 i2 =>
    intro sc hΓ f K p s hh
    cases hh with
    | @both _ _ _ a b h1 h2 h3 =>
      obtain ⟨u1, u2, u3⟩ := r1.sc hb sc hΓ
      have hΓ1 : ∀ k ∈ Γ, lo n1 k := fun k hk => (hΓ k hk).mono u1
      obtain ⟨g, g1, g2, g3⟩ := i1 sc hΓ s h1
      rw [map_agree g1 hΓ] at h2
      obtain ⟨q, q1, q2, q3⟩ := i2 u2 hΓ1 g2 h2
      refine ⟨q, g1.trans q1 u1, q2, ?_⟩
      simp only [sub]
      rw [← q1.sub u3, g3, q3]
  | @first S n Γ d k S1 n1 m S2 r1 ha ih =>
    intro sc hΓ f K p s hh
    cases hh with
    | @first _ _ _ b h1 h2 h3 =>
      obtain ⟨u1, u2, u3⟩ := r1.sc hb sc hΓ
      obtain ⟨g, g1, g2, g3⟩ := ih sc hΓ s h1
      have a1 : Agree n1 g (over g (n1 + 1) K) := over_agree (Nat.lt_succ_self _)
      have a2 : Agree (n1 + 1) (over g (n1 + 1) K) (over (over g (n1 + 1) K) (n1 + 2) b) := over_agree (Nat.lt_succ_self _)
      have ag := a1.trans a2 (Nat.le_succ _)
      refine ⟨_, g1.trans ag u1, (ha.right_.1 rfl _).mpr ⟨u2.sol ag g2, Eqs.one.mpr ?_⟩, ?_⟩
      · simp only [sub]
        rw [← ag.sub u3, g3, over_at, ← a2 (n1 + 1) (Nat.le_refl _), over_at]
      · simp only [sub]
        rw [← a2 (n1 + 1) (Nat.le_refl _), over_at]
  | @second S n Γ d k S1 n1 m S2 r1 ha ih =>
    intro sc hΓ f K p s hh
    cases hh with
    | @second _ _ a _ h1 h2 h3 =>
      obtain ⟨u1, u2, u3⟩ := r1.sc hb sc hΓ
      obtain ⟨g, g1, g2, g3⟩ := ih sc hΓ s h1
      have a1 : Agree n1 g (over g (n1 + 1) a) := over_agree (Nat.lt_succ_self _)
      have a2 : Agree (n1 + 1) (over g (n1 + 1) a) (over (over g (n1 + 1) a) (n1 + 2) K) := over_agree (Nat.lt_succ_self _)
      have ag := a1.trans a2 (Nat.le_succ _)
      refine ⟨_, g1.trans ag u1, (ha.right_.1 rfl _).mpr ⟨u2.sol ag g2, Eqs.one.mpr ?_⟩, ?_⟩
      · simp only [sub]
        rw [← ag.sub u3, g3, over_at, ← a2 (n1 + 1) (Nat.le_refl _), over_at]
      · simp only [sub]
        rw [over_at]
/-- a deed that has a kind is gone through -/
theorem Inf.ex (hc : c ≤ 14) (hb : ∀ s k, (s, k) ∈ bk → settled k) (d : Dd) : ∀ {S n Γ} {f : Nat → Kd} {K : Kd}, Wf S → Sc n S → (∀ k ∈ Γ, lo n k) → Sol f S → Has (fun k => Kd.depth k < c) bk (Γ.map (sub f)) d K →
    ∃ k S' n', Inf bk c S n Γ d k S' n' ∧ Wf S' := by
  induction d with
  | spot i =>
    intro S n Γ f K w sc hΓ s h
    cases h with
    | spot h1 _ =>
      rw [List.getElem?_map] at h1
      cases e : Γ[i]? with
      | none => rw [e] at h1; cases h1
      | some k => exact ⟨k, S, n, .spot e, w⟩
  | book x =>
    intro S n Γ f K w sc hΓ s h
    cases h with | book h1 _ => exact ⟨_, S, n, .book h1, w⟩
  | turn d ih =>
    intro S n Γ f K w sc hΓ s h
    cases h with
    | @turn _ _ a b h1 h2 h3 =>
      have ag : Agree n f (over f (n + 1) a) := over_agree (Nat.lt_succ_self _)
      have e : (Γ ++ [Kd.num (n + 1)]).map (sub (over f (n + 1) a)) = Γ.map (sub f) ++ [a] := by
        rw [List.map_append, ← map_agree ag hΓ]
        show _ ++ [over f (n + 1) a (n + 1)] = _
        rw [over_at]
      rw [← e] at h1
      obtain ⟨k, S', n', r, w'⟩ := ih w (sc.mono (Nat.le_succ _)) (mem_snoc (fun k hk => (hΓ k hk).mono (Nat.le_succ _)) (Nat.le_refl _)) (sc.sol ag s) h1
      exact ⟨_, S', n', .turn r, w'⟩
  | dod d e i1 i2 =>
    intro S n Γ f K w sc hΓ s h
    cases h with
    | @dod _ _ _ a b h1 h2 h3 =>
      obtain ⟨k1, S1, n1, r1, w1⟩ := i1 w sc hΓ s h1
      obtain ⟨u1, u2, u3⟩ := r1.sc hb sc hΓ
      have hΓ1 : ∀ k ∈ Γ, lo n1 k := fun k hk => (hΓ k hk).mono u1
      obtain ⟨g, g1, g2, g3⟩ := r1.complete hb sc hΓ s h1
      rw [map_agree g1 hΓ] at h2
      obtain ⟨k2, S2, n2, r2, w2⟩ := i2 w1 u2 hΓ1 g2 h2
      obtain ⟨v1, v2, v3⟩ := r2.sc hb u2 hΓ1
      obtain ⟨q, q1, q2, q3⟩ := r2.complete hb u2 hΓ1 g2 h2
      have ag : Agree n2 q (over q (n2 + 1) K) := over_agree (Nat.lt_succ_self _)
      have e1 : sub (over q (n2 + 1) K) k1 = .way a K := by rw [← ag.sub (u3.mono v1), ← q1.sub u3, g3]
      have e2 : sub (over q (n2 + 1) K) (.way k2 (.num (n2 + 1))) = .way a K := by
        simp only [sub]
        rw [← ag.sub v3, over_at, q3]
      obtain ⟨m, S3, ha, w3, _⟩ := Al.ex (f := over q (n2 + 1) K) (c := c) _ S2 [(k1, .way k2 (.num (n2 + 1)))] (by simp only [mass]; rw [e1]; exact size_lt h1.fine hc) (Nat.le_refl _) w2 (v2.sol ag q2) (Eqs.one.mpr (e1.trans e2.symm)) (fun r hr => by
        rw [List.mem_singleton.mp hr]
        show Kd.depth (sub _ k1) < c
        rw [e1]
        exact h1.fine)
      exact ⟨_, S3, _, .dod r1 r2 ha, w3⟩
  | both d e i1 i2 =>
    intro S n Γ f K w sc hΓ s h
    cases h with
    | @both _ _ _ a b h1 h2 h3 =>
      obtain ⟨k1, S1, n1, r1, w1⟩ := i1 w sc hΓ s h1
      obtain ⟨u1, u2, u3⟩ := r1.sc hb sc hΓ
      have hΓ1 : ∀ k ∈ Γ, lo n1 k := fun k hk => (hΓ k hk).mono u1
      obtain ⟨g, g1, g2, g3⟩ := r1.complete hb sc hΓ s h1
      rw [map_agree g1 hΓ] at h2
      obtain ⟨k2, S2, n2, r2, w2⟩ := i2 w1 u2 hΓ1 g2 h2
      exact ⟨_, S2, n2, .both r1 r2, w2⟩
  | first d ih =>
    intro S n Γ f K w sc hΓ s h
    cases h with
    | @first _ _ _ b h1 h2 h3 =>
      obtain ⟨k, S1, n1, r1, w1⟩ := ih w sc hΓ s h1
      obtain ⟨u1, u2, u3⟩ := r1.sc hb sc hΓ
      obtain ⟨g, g1, g2, g3⟩ := r1.complete hb sc hΓ s h1
      have a1 : Agree n1 g (over g (n1 + 1) K) := over_agree (Nat.lt_succ_self _)
      have a2 : Agree (n1 + 1) (over g (n1 + 1) K) (over (over g (n1 + 1) K) (n1 + 2) b) := over_agree (Nat.lt_succ_self _)
      have ag := a1.trans a2 (Nat.le_succ _)
      have e1 : sub (over (over g (n1 + 1) K) (n1 + 2) b) k = .pair K b := by rw [← ag.sub u3, g3]
      have e2 : sub (over (over g (n1 + 1) K) (n1 + 2) b) (.pair (.num (n1 + 1)) (.num (n1 + 2))) = .pair K b := by
        simp only [sub]
        rw [over_at, ← a2 (n1 + 1) (Nat.le_refl _), over_at]
      obtain ⟨m, S3, ha, w3, _⟩ := Al.ex (f := over (over g (n1 + 1) K) (n1 + 2) b) (c := c) _ S1 [(k, .pair (.num (n1 + 1)) (.num (n1 + 2)))] (by simp only [mass]; rw [e1]; exact size_lt h1.fine hc) (Nat.le_refl _) w1 (u2.sol ag g2) (Eqs.one.mpr (e1.trans e2.symm)) (fun r hr => by
        rw [List.mem_singleton.mp hr]
        show Kd.depth (sub _ k) < c
        rw [e1]
        exact h1.fine)
      exact ⟨_, S3, _, .first r1 ha, w3⟩
  | second d ih =>
    intro S n Γ f K w sc hΓ s h
    cases h with
    | @second _ _ a _ h1 h2 h3 =>
      obtain ⟨k, S1, n1, r1, w1⟩ := ih w sc hΓ s h1
      obtain ⟨u1, u2, u3⟩ := r1.sc hb sc hΓ
      obtain ⟨g, g1, g2, g3⟩ := r1.complete hb sc hΓ s h1
      have a1 : Agree n1 g (over g (n1 + 1) a) := over_agree (Nat.lt_succ_self _)
      have a2 : Agree (n1 + 1) (over g (n1 + 1) a) (over (over g (n1 + 1) a) (n1 + 2) K) := over_agree (Nat.lt_succ_self _)
      have ag := a1.trans a2 (Nat.le_succ _)
      have e1 : sub (over (over g (n1 + 1) a) (n1 + 2) K) k = .pair a K := by rw [← ag.sub u3, g3]
      have e2 : sub (over (over g (n1 + 1) a) (n1 + 2) K) (.pair (.num (n1 + 1)) (.num (n1 + 2))) = .pair a K := by
        simp only [sub]
        rw [over_at, ← a2 (n1 + 1) (Nat.le_refl _), over_at]
      obtain ⟨m, S3, ha, w3, _⟩ := Al.ex (f := over (over g (n1 + 1) a) (n1 + 2) K) (c := c) _ S1 [(k, .pair (.num (n1 + 1)) (.num (n1 + 2)))] (by simp only [mass]; rw [e1]; exact size_lt h1.fine hc) (Nat.le_refl _) w1 (u2.sol ag g2) (Eqs.one.mpr (e1.trans e2.symm)) (fun r hr => by
        rw [List.mem_singleton.mp hr]
        show Kd.depth (sub _ k) < c
        rw [e1]
        exact h1.fine)
      exact ⟨_, S3, _, .second r1 ha, w3⟩
end Fd
set_option Elab.async false
set_option linter.all false
namespace Fd
open PySem Dd Kd
variable {bk : Bk}

theorem sc_nil (n : Nat) : Sc n [] := fun _ _ e => nomatch e
theorem sol_nil (f : Nat → Kd) : Sol f [] := fun _ _ e => nomatch e
/-- what a run over a deed with a kind shows -/
theorem run_ex (hb : ∀ s k, (s, k) ∈ bk → settled k) {c : Nat} (hc : c ≤ 14) {d : Dd} {K : Kd} (h : Has (fun k => Kd.depth k < c) bk [] d K) :
    ∃ k S n, Inf bk c [] 0 [] d k S n ∧ Wf S ∧ ∃ g, Sol g S ∧ sub g k = K := by
  obtain ⟨k, S, n, r, w⟩ := Inf.ex (c := c) hc hb d (f := Kd.num) .nil (sc_nil 0) (fun _ z => nomatch z) (sol_nil _) (Γ := []) h
  obtain ⟨g, _, g2, g3⟩ := r.complete hb (sc_nil 0) (fun _ z => nomatch z) (sol_nil Kd.num) (Γ := []) h
  exact ⟨k, S, n, r, w, g, g2, g3⟩
/-- does it fit: the run and its answer -/
theorem fits_ex (hb : ∀ s k, (s, k) ∈ bk → settled k) {c E : Nat} (hc : c + E ≤ 14) {d : Dd} {K K' : Kd} (h : Has (fun k => Kd.depth k < c) bk [] d K) (hs : settled K') (hd : Kd.depth K' ≤ E) :
    ∃ k S n m r S', Inf bk (c + E) [] 0 [] d k S n ∧ Al (c + E) m S [(k, K')] r S' ∧ (r = true ↔ Has All bk [] d K') := by
  have h' : Has (fun k => Kd.depth k < c + E) bk [] d K := h.mono fun k q => Nat.lt_of_lt_of_le q (Nat.le_add_right _ _)
  obtain ⟨k, S, n, r, w, g, g1, g2⟩ := run_ex hb hc h'
  have hk : Kd.depth K < c := h.fine
  have rk : Rk (fun n => Kd.depth (g n) + E) S := g1.rk.add E
  have hh : hgt (fun n => Kd.depth (g n) + E) k < c + E := by
    have := hgt_add (fun n => Kd.depth (g n)) E k
    rw [hgt_sub, g2] at this
    omega
  obtain ⟨m, b, S', ha, w', rk'⟩ := Al.ex2 (c := c + E) (E := E) (fun n => Nat.le_add_left _ _) _ S [(k, K')] (by simp only [mass2]; exact size_lt (c := E + 1) (by omega) (by have := h.fine; omega)) (Nat.le_refl _) w rk (fun r hr => by
    rw [List.mem_singleton.mp hr]
    exact ⟨hh, hs, hd, by show Kd.depth K' < c + E; omega⟩)
  refine ⟨k, S, n, m, b, S', r, ha, ?_⟩
  cases b with
  | true =>
    refine ⟨fun _ => ?_, fun _ => rfl⟩
    obtain ⟨f, f1, _⟩ := Sol.ex w' rk'
    obtain ⟨f2, f3⟩ := (ha.right_.1 rfl f).mp f1
    rw [Eqs.one, sub_settled hs] at f3
    have := (r.sound hb f f2).2
    rw [f3] at this
    exact this
  | false =>
    refine ⟨fun e => Bool.noConfusion e, fun q => ?_⟩
    obtain ⟨f, _, f2, f3⟩ := r.complete hb (sc_nil 0) (fun _ z => nomatch z) (sol_nil Kd.num) (Γ := []) q
    exact absurd (Eqs.one.mpr (by rw [f3, sub_settled hs])) (ha.right_.2 rfl f f2)

/-! ### the kind told -/
def numsIn : Kd → List Nat
  | .nm _ => []
  | .num n => [n]
  | .way a b => numsIn a ++ (numsIn b).filter fun n => !(numsIn a).contains n
  | .pair a b => numsIn a ++ (numsIn b).filter fun n => !(numsIn a).contains n
def pos : List Nat → Nat → Nat → Nat
  | [], i, _ => i
  | x :: r, i, n => if x = n then i else pos r (i + 1) n
/-- letters for numbers, L the i-th letter -/
def lettK (L : Nat → Str) (k : Kd) : Kd := sub (fun n => .nm (L (pos (numsIn k) 0 n))) k
def inK : Nat → Kd → Prop
  | _, .nm _ => False
  | n, .num i => n = i
  | n, .way a b => inK n a ∨ inK n b
  | n, .pair a b => inK n a ∨ inK n b
theorem mem_numsIn {n : Nat} {k : Kd} : n ∈ numsIn k ↔ inK n k := by
  induction k with
  | nm s => simp [numsIn, inK]
  | num i => simp [numsIn, inK]
  | way a b i1 i2 =>
    simp only [numsIn, inK, List.mem_append, List.mem_filter, ← i1, ← i2]
    by_cases h : n ∈ numsIn a <;> simp [h]
  | pair a b i1 i2 =>
    simp only [numsIn, inK, List.mem_append, List.mem_filter, ← i1, ← i2]
    by_cases h : n ∈ numsIn a <;> simp [h]
theorem filter_map_inj {g : Nat → Nat} {A B : List Nat} (inj : ∀ x ∈ A, ∀ y ∈ B, g x = g y → x = y) : (B.map g).filter (fun n => !(A.map g).contains n) = (B.filter fun n => !A.contains n).map g := by
  induction B with
  | nil => rfl
  | cons y r ih =>
    have ih' := ih fun x hx z hz => inj x hx z (List.mem_cons_of_mem _ hz)
    have e : (A.map g).contains (g y) = A.contains y := by
      by_cases h : y ∈ A
      · have h1 : A.contains y = true := by simpa using h
        have h2 : (A.map g).contains (g y) = true := by simpa using ⟨y, h, rfl⟩
        rw [h1, h2]
      · have h1 : A.contains y = false := by simpa using h
        have h2 : (A.map g).contains (g y) = false := by
          cases q : (A.map g).contains (g y) with
          | false => rfl
          | true =>
            have q' : g y ∈ A.map g := by simpa using q
            obtain ⟨x, hx, ex⟩ := List.mem_map.mp q'
            have := inj x hx y List.mem_cons_self ex
            subst this
            exact absurd hx h
        rw [h1, h2]
    rw [List.map_cons, List.filter_cons, List.filter_cons, e]
    split
    · rw [List.map_cons, ih']
    · exact ih'
/-- numbers for numbers -/
theorem numsIn_sub {f : Nat → Kd} {g : Nat → Nat} {k : Kd} (hf : ∀ n, inK n k → f n = .num (g n)) (inj : ∀ x y, inK x k → inK y k → g x = g y → x = y) : numsIn (sub f k) = (numsIn k).map g := by
  have step : ∀ a b : Kd, (∀ x y, (inK x a ∨ inK x b) → (inK y a ∨ inK y b) → g x = g y → x = y) → numsIn (sub f a) = (numsIn a).map g → numsIn (sub f b) = (numsIn b).map g →
      numsIn (sub f a) ++ (numsIn (sub f b)).filter (fun n => !(numsIn (sub f a)).contains n) = (numsIn a ++ (numsIn b).filter fun n => !(numsIn a).contains n).map g := fun a b inj e1 e2 => by
    rw [e1, e2, List.map_append, filter_map_inj]
    exact fun x hx y hy e => inj x y (.inl (mem_numsIn.mp hx)) (.inr (mem_numsIn.mp hy)) e
  induction k with
  | nm s => rfl
  | num n =>
    simp only [sub]
    rw [hf n rfl]; rfl
  | way a b i1 i2 =>
    exact step a b inj (i1 (fun n h => hf n (.inl h)) fun x y h1 h2 => inj x y (.inl h1) (.inl h2)) (i2 (fun n h => hf n (.inr h)) fun x y h1 h2 => inj x y (.inr h1) (.inr h2))
  | pair a b i1 i2 =>
    exact step a b inj (i1 (fun n h => hf n (.inl h)) fun x y h1 h2 => inj x y (.inl h1) (.inl h2)) (i2 (fun n h => hf n (.inr h)) fun x y h1 h2 => inj x y (.inr h1) (.inr h2))
theorem pos_map {g : Nat → Nat} {n : Nat} : ∀ (l : List Nat) (i : Nat), (∀ x ∈ l, g x = g n → x = n) → pos (l.map g) i (g n) = pos l i n
  | [], i, _ => rfl
  | x :: r, i, h => by
    simp only [List.map_cons, pos]
    by_cases e : x = n
    · rw [if_pos e, if_pos (by rw [e])]
    · rw [if_neg e, if_neg (fun q => e (h x List.mem_cons_self q)), pos_map r (i + 1) fun y hy => h y (List.mem_cons_of_mem _ hy)]
theorem sub_congr {f g : Nat → Kd} {k : Kd} (h : ∀ n, inK n k → f n = g n) : sub f k = sub g k := by
  induction k with
  | nm s => rfl
  | num n => exact h n rfl
  | way a b i1 i2 => simp only [sub, i1 fun n q => h n (.inl q), i2 fun n q => h n (.inr q)]
  | pair a b i1 i2 => simp only [sub, i1 fun n q => h n (.inl q), i2 fun n q => h n (.inr q)]
theorem sub_sub {f g : Nat → Kd} {k : Kd} : sub g (sub f k) = sub (fun n => sub g (f n)) k := by
  induction k with
  | nm s => rfl
  | num n => rfl
  | way a b i1 i2 => simp only [sub, i1, i2]
  | pair a b i1 i2 => simp only [sub, i1, i2]
theorem sub_id_on {f : Nat → Kd} {k : Kd} (h : sub f k = k) : ∀ n, inK n k → f n = .num n := by
  induction k with
  | nm s => exact fun _ q => q.elim
  | num n => intro m e; cases e; exact h
  | way a b i1 i2 =>
    simp only [sub] at h
    injection h with h1 h2
    rintro n (q | q)
    · exact i1 h1 n q
    · exact i2 h2 n q
  | pair a b i1 i2 =>
    simp only [sub] at h
    injection h with h1 h2
    rintro n (q | q)
    · exact i1 h1 n q
    · exact i2 h2 n q
/-- each an instance of the other: told alike -/
theorem lett_same {L : Nat → Str} {u v : Kd} {f g : Nat → Kd} (h1 : sub f u = v) (h2 : sub g v = u) : lettK L u = lettK L v := by
  have hid : ∀ n, inK n u → sub g (f n) = .num n := sub_id_on (f := fun n => sub g (f n)) (by rw [← sub_sub, h1, h2])
  let r : Nat → Nat := fun n => match f n with
    | .num m => m
    | _ => 0
  have hf : ∀ n, inK n u → f n = .num (r n) := fun n hn => by
    have z := hid n hn
    show f n = .num (match f n with
      | .num m => m
      | _ => 0)
    cases e : f n with
    | num m => rfl
    | nm s => rw [e] at z; cases z
    | way a b => rw [e] at z; cases z
    | pair a b => rw [e] at z; cases z
  have inj : ∀ x y, inK x u → inK y u → r x = r y → x = y := fun x y hx hy e => by
    have z1 := hid x hx
    have z2 := hid y hy
    rw [hf x hx] at z1
    rw [hf y hy, ← e, z1] at z2
    cases z2; rfl
  have nv : numsIn v = (numsIn u).map r := by rw [← h1]; exact numsIn_sub hf inj
  unfold lettK
  rw [nv]
  have e : v = sub (fun n => .num (r n)) u := by rw [← h1]; exact sub_congr hf
  conv => rhs; rw [e, sub_sub]
  refine sub_congr fun n hn => ?_
  show Kd.nm (L (pos (numsIn u) 0 n)) = Kd.nm (L (pos ((numsIn u).map r) 0 (r n)))
  rw [pos_map _ _ fun x hx q => inj x n (mem_numsIn.mp hx) hn q]
/-- the kind told of a deed -/
def Told (bk : Bk) (L : Nat → Str) (d : Dd) (r : Kd) : Prop :=
  ∃ c ρ k S n w c', Inf bk c [] 0 [] d k S n ∧ Wf S ∧ Rk ρ S ∧ Wh S c' k w ∧ r = lettK L w
theorem told_inst (hb : ∀ s k, (s, k) ∈ bk → settled k) {c ρ k S n w c'} {d : Dd} (r : Inf bk c [] 0 [] d k S n) (wf : Wf S) (rk : Rk ρ S) (hw : Wh S c' k w) :
    Has All bk [] d w ∧ ∀ K, Has All bk [] d K → ∃ f, sub f w = K := by
  obtain ⟨f, f1, f2⟩ := Sol.ex wf rk
  refine ⟨?_, fun K h => ?_⟩
  · have := (r.sound hb f f1).2
    rw [f2 _ _ _ hw] at this
    exact this
  · obtain ⟨g, _, g2, g3⟩ := r.complete hb (sc_nil 0) (fun _ z => nomatch z) (sol_nil Kd.num) (Γ := []) h
    exact ⟨g, by rw [← g2.wh hw]; exact g3⟩
theorem told_same (hb : ∀ s k, (s, k) ∈ bk → settled k) {L : Nat → Str} {d e : Dd} (h : ∀ K, Has All bk [] d K ↔ Has All bk [] e K) {x y : Kd} (hx : Told bk L d x) (hy : Told bk L e y) : x = y := by
  obtain ⟨c1, ρ1, k1, S1, n1, w1, d1, a1, a2, a3, a4, rfl⟩ := hx
  obtain ⟨c2, ρ2, k2, S2, n2, w2, d2, b1, b2, b3, b4, rfl⟩ := hy
  obtain ⟨p1, p2⟩ := told_inst hb a1 a2 a3 a4
  obtain ⟨q1, q2⟩ := told_inst hb b1 b2 b3 b4
  obtain ⟨f, hf⟩ := p2 w2 ((h w2).mpr q1)
  obtain ⟨g, hg⟩ := q2 w1 ((h w1).mp p1)
  exact lett_same hf hg
/-- .. there is one -/
theorem infer_ex (hb : ∀ s k, (s, k) ∈ bk → settled k) {c : Nat} (hc : c ≤ 14) {d : Dd} {K : Kd} (h : Has (fun k => Kd.depth k < c) bk [] d K) :
    ∃ k S n w, Inf bk c [] 0 [] d k S n ∧ Wh S c k w ∧ ∀ L, Told bk L d (lettK L w) := by
  obtain ⟨k, S, n, r, w, g, g1, g2⟩ := run_ex hb hc h
  have hh : hgt (fun n => Kd.depth (g n)) k < c := by
    rw [hgt_sub, g2]
    exact h.fine
  obtain ⟨x, hx⟩ := Wh.ex w g1.rk c k hh
  exact ⟨k, S, n, x, r, hx, fun L => ⟨c, _, k, S, n, x, c, r, w, g1.rk, hx, rfl⟩⟩
end Fd
set_option Elab.async false
set_option linter.all false
set_option maxRecDepth 100000
/-! What expressions come to, over data that never changes. -/
namespace Fw
open PySem L2

/-! ### data that never changes -/
mutual
inductive Im (K : PySem.W.Frag) (H : Hp) : V → PyData → Prop
  | non : Im K H .non .none
  | bl (b : Bool) : Im K H (.bl b) (.bool b)
  | int (i : Int) : Im K H (.int i) (.int i)
  | str (x : Str) : Im K H (.str x) (.str x)
  | tup {a : Addr} {xs : List V} {ds : List PyData} : SqT K H a xs → ImAll K H xs ds → Im K H (.ref a) (.tuple ds)
inductive ImAll (K : PySem.W.Frag) (H : Hp) : List V → List PyData → Prop
  | nil : ImAll K H [] []
  | cons {v : V} {vs : List V} {d : PyData} {ds : List PyData} : Im K H v d → ImAll K H vs ds → ImAll K H (v :: vs) (d :: ds)
end
/-- tuples are kept -/
def TK (K : PySem.W.Frag) (H H' : Hp) : Prop := ∀ a xs, SqT K H a xs → SqT K H' a xs
theorem TK.refl {K : PySem.W.Frag} (H : Hp) : TK K H H := fun _ _ h => h
theorem TK.trans {K : PySem.W.Frag} {H H1 H2 : Hp} (a : TK K H H1) (b : TK K H1 H2) : TK K H H2 := fun c o h => b c o (a c o h)
theorem TK.of {K : PySem.W.Frag} {H H' : Hp} (h : Same H H') : TK K H H' := fun a xs q => by
  rcases q with (q | ⟨o, q⟩) | q
  · exact .inl (.inl (h _ _ q))
  · exact .inl (.inr ⟨o, h _ _ q⟩)
  · exact .inr q
/-- what is no tuple may change -/
def NoTup : Option HO → Prop
  | some (.tup _) => False
  | some (.frz _ _) => False
  | _ => True
theorem TK.upd {K : PySem.W.Frag} {H : Hp} {a : Addr} {o : HO} (h : NoTup (H a)) : TK K H (upd H a o) := fun b xs q => by
  rcases q with (q | ⟨u, q⟩) | q
  · have e : b ≠ a := by intro e; subst e; rw [q] at h; exact h
    exact .inl (.inl (by rw [upd_ne e]; exact q))
  · have e : b ≠ a := by intro e; subst e; rw [q] at h; exact h
    exact .inl (.inr ⟨u, by rw [upd_ne e]; exact q⟩)
  · exact .inr q
theorem same_new {H : Hp} {p : Addr} (h : H p = none) (o : HO) : Same H (upd H p o) := fun b u q => by rw [upd_ne (ne_of_none q h)]; exact q
mutual
theorem Im.keep {K : PySem.W.Frag} {H H' : Hp} (t : TK K H H') : ∀ {v : V} {d : PyData}, Im K H v d → Im K H' v d
  | _, _, .non => .non
  | _, _, .bl b => .bl b
  | _, _, .int i => .int i
  | _, _, .str x => .str x
  | _, _, .tup h q => .tup (t _ _ h) (ImAll.keep t q)
theorem ImAll.keep {K : PySem.W.Frag} {H H' : Hp} (t : TK K H H') : ∀ {vs : List V} {ds : List PyData}, ImAll K H vs ds → ImAll K H' vs ds
  | _, _, .nil => .nil
  | _, _, .cons h q => .cons (Im.keep t h) (ImAll.keep t q)
end
mutual
theorem Im.dp {K : PySem.W.Frag} {H : Hp} : ∀ {v : V} {d : PyData}, Im K H v d → Dp K H v d
  | _, _, .non => .non
  | _, _, .bl b => .bl b
  | _, _, .int i => .int i
  | _, _, .str x => .str x
  | _, _, .tup h q => .tup h (ImAll.dp q)
theorem ImAll.dp {K : PySem.W.Frag} {H : Hp} : ∀ {vs : List V} {ds : List PyData}, ImAll K H vs ds → DpAll K H vs ds
  | _, _, .nil => .nil
  | _, _, .cons h q => .cons (Im.dp h) (ImAll.dp q)
end
section
variable {K : PySem.W.Frag} {H H' : Hp}
theorem ImAll.length : ∀ {vs : List V} {ds : List PyData}, ImAll K H vs ds → vs.length = ds.length
  | _, _, .nil => rfl
  | _, _, .cons _ q => congrArg (· + 1) (ImAll.length q)
theorem ImAll.get : ∀ {vs : List V} {ds : List PyData} {i : Nat} {d : PyData}, ImAll K H vs ds → ds[i]? = some d → ∃ v, vs[i]? = some v ∧ Im K H v d
  | _, _, 0, _, .cons h _, e => by cases e; exact ⟨_, rfl, h⟩
  | _, _, i + 1, _, .cons _ q, e => ImAll.get (i := i) q e
theorem ImAll.getV : ∀ {vs : List V} {ds : List PyData} {i : Nat} {v : V}, ImAll K H vs ds → vs[i]? = some v → ∃ d, ds[i]? = some d ∧ Im K H v d
  | _, _, 0, _, .cons h _, e => by cases e; exact ⟨_, rfl, h⟩
  | _, _, i + 1, _, .cons _ q, e => ImAll.getV (i := i) q e
theorem ImAll.at {vs : List V} {ds : List PyData} {i : Int} {d : PyData} (h : ImAll K H vs ds) (e : atI ds i = some d) : ∃ v, atI vs i = some v ∧ Im K H v d := by
  unfold atI at e ⊢
  rw [h.length]
  cases q : ixN ds.length i with
  | none => rw [q] at e; cases e
  | some j => rw [q] at e; exact h.get e
theorem ImAll.append : ∀ {vs ws : List V} {ds es : List PyData}, ImAll K H vs ds → ImAll K H ws es → ImAll K H (vs ++ ws) (ds ++ es)
  | _, _, _, _, .nil, q => q
  | _, _, _, _, .cons h r, q => .cons h (ImAll.append r q)
theorem ImAll.take : ∀ {vs : List V} {ds : List PyData} (n : Nat), ImAll K H vs ds → ImAll K H (vs.take n) (ds.take n)
  | _, _, 0, _ => .nil
  | _, _, _ + 1, .nil => .nil
  | _, _, n + 1, .cons r t => .cons r (ImAll.take n t)
theorem ImAll.drop : ∀ {vs : List V} {ds : List PyData} (n : Nat), ImAll K H vs ds → ImAll K H (vs.drop n) (ds.drop n)
  | _, _, 0, r => r
  | _, _, _ + 1, .nil => .nil
  | _, _, n + 1, .cons _ t => ImAll.drop n t
theorem ImAll.one {v : V} {d : PyData} (h : Im K H v d) : ImAll K H [v] [d] := .cons h .nil
theorem Im.str_inv {v : V} {x : Str} (h : Im K H v (.str x)) : v = .str x := by cases h; rfl
theorem Im.int_inv {v : V} {i : Int} (h : Im K H v (.int i)) : v = .int i := by cases h; rfl
theorem Im.bool_inv {v : V} {b : Bool} (h : Im K H v (.bool b)) : v = .bl b := by cases h; rfl
theorem Im.none_inv {v : V} (h : Im K H v .none) : v = .non := by cases h; rfl
theorem Im.tup_inv {v : V} {ds : List PyData} (h : Im K H v (.tuple ds)) : ∃ a xs, v = .ref a ∧ SqT K H a xs ∧ ImAll K H xs ds := by
  cases h with
  | tup h q => exact ⟨_, _, rfl, h, q⟩
end
def cutD (xs : List PyData) (lo hi : Option Int) : List PyData := (xs.drop (HT.sIx xs.length 0 lo)).take (HT.sIx xs.length xs.length hi - HT.sIx xs.length 0 lo)
theorem ImAll.cut {K : PySem.W.Frag} {H : Hp} {vs : List V} {ds : List PyData} (h : ImAll K H vs ds) (lo hi : Option Int) : ImAll K H (cutV vs lo hi) (cutD ds lo hi) := by
  unfold cutV cutD
  rw [h.length]
  exact (h.drop _).take _

/-! ### what an expression comes to. B: lists that stand; H: where the data is known -/
def Up (K : PySem.W.Frag) (B H H1 : Hp) : Prop := Same B H1 ∧ TK K H H1
section
variable {K : PySem.W.Frag} {B H H1 H2 : Hp}
theorem Up.refl (h : Same B H) : Up K B H H := ⟨h, .refl _⟩
theorem Up.then (u : Up K B H H1) (s : Same H1 H2) : Up K B H H2 := ⟨u.1.trans s, u.2.trans (.of s)⟩
def Ev (K : PySem.W.Frag) (B : Hp) (te : TE) (σ : St) (H : Hp) (d : PyData) : Prop := ∀ H1, Up K B H H1 → ∀ Q : VK, (∀ v H2, Same H1 H2 → Im K H2 v d → Q v H2) → te σ H1 Q
def EvT (K : PySem.W.Frag) (B : Hp) (tt : TT) (σ : St) (H : Hp) (b : Bool) : Prop := ∀ H1, Up K B H H1 → ∀ Q : Bool → Hp → Prop, (∀ H2, Same H1 H2 → Q b H2) → tt σ H1 Q
def EvA (K : PySem.W.Frag) (B : Hp) (ta : TA) (σ : St) (H : Hp) (ds : List PyData) : Prop := ∀ H1, Up K B H H1 → ∀ Q : List V → Hp → Prop, (∀ vs H2, Same H1 H2 → ImAll K H2 vs ds → Q vs H2) → ta σ H1 Q
/-- a new list -/
def EvL (K : PySem.W.Frag) (B : Hp) (te : TE) (σ : St) (H : Hp) (ds : List PyData) : Prop := ∀ H1, Up K B H H1 → ∀ Q : VK, (∀ p vs H2, H1 p = none → Same H1 H2 → H2 p = some (.lst vs) → ImAll K H2 vs ds → Q (.ref p) H2) → te σ H1 Q
/-- just this value -/
def EvX (K : PySem.W.Frag) (B : Hp) (te : TE) (σ : St) (H : Hp) (v : V) : Prop := ∀ H1, Up K B H H1 → ∀ Q : VK, (∀ H2, Same H1 H2 → Q v H2) → te σ H1 Q
def EvO (K : PySem.W.Frag) (B : Hp) (te : TO) (σ : St) (H : Hp) (o : Option Int) : Prop := ∀ H1, Up K B H H1 → ∀ Q : Option Int → Hp → Prop, (∀ H2, Same H1 H2 → Q o H2) → te σ H1 Q
variable {σ : St} {ta tb tc te : TE} {tt tu : TT} {v : V} {d : PyData}
theorem ev_var {i : Nat} (e : σ[i]? = some (some v)) (h : Im K H v d) : Ev K B (tVar i) σ H d := fun H1 u Q q => ⟨v, e, q v H1 (.refl _) (h.keep u.2)⟩
theorem ex_var {i : Nat} (e : σ[i]? = some (some v)) : EvX K B (tVar i) σ H v := fun H1 u Q q => ⟨v, e, q H1 (.refl _)⟩
theorem ev_int {i : Int} : Ev K B (tC (.int i)) σ H (.int i) := fun H1 u Q q => q _ H1 (.refl _) (.int i)
theorem ev_str {x : Str} : Ev K B (tC (.str x)) σ H (.str x) := fun H1 u Q q => q _ H1 (.refl _) (.str x)
theorem ev_bl {b : Bool} : Ev K B (tC (.bl b)) σ H (.bool b) := fun H1 u Q q => q _ H1 (.refl _) (.bl b)
theorem ev_non : Ev K B (tC .non) σ H .none := fun H1 u Q q => q _ H1 (.refl _) .non
theorem ex_c : EvX K B (tC v) σ H v := fun H1 u Q q => q H1 (.refl _)
theorem Ev.up (h : Ev K B te σ H d) (u : Up K B H H1) : Ev K B te σ H1 d := fun H2 u2 Q q => h H2 ⟨u2.1, u.2.trans u2.2⟩ Q q
theorem Ev.is {d' : PyData} (h : Ev K B te σ H d) (e : d = d') : Ev K B te σ H d' := e ▸ h
theorem EvT.is {b b' : Bool} (h : EvT K B tt σ H b) (e : b = b') : EvT K B tt σ H b' := e ▸ h
theorem Ev.x {i : Int} (h : Ev K B te σ H (.int i)) : EvX K B te σ H (.int i) := fun H1 u Q q => h H1 u Q fun v H2 s m => by rw [m.int_inv]; exact q H2 s
theorem Ev.xs {i : Str} (h : Ev K B te σ H (.str i)) : EvX K B te σ H (.str i) := fun H1 u Q q => h H1 u Q fun v H2 s m => by rw [m.str_inv]; exact q H2 s
theorem Ev.xb {i : Bool} (h : Ev K B te σ H (.bool i)) : EvX K B te σ H (.bl i) := fun H1 u Q q => h H1 u Q fun v H2 s m => by rw [m.bool_inv]; exact q H2 s
theorem EvX.int {i : Int} (h : EvX K B te σ H (.int i)) : Ev K B te σ H (.int i) := fun H1 u Q q => h H1 u Q fun H2 s => q _ H2 s (.int i)
theorem EvX.str {i : Str} (h : EvX K B te σ H (.str i)) : Ev K B te σ H (.str i) := fun H1 u Q q => h H1 u Q fun H2 s => q _ H2 s (.str i)
theorem EvX.bool {i : Bool} (h : EvX K B te σ H (.bl i)) : Ev K B te σ H (.bool i) := fun H1 u Q q => h H1 u Q fun H2 s => q _ H2 s (.bl i)
/-- an operator on exact values -/
theorem ex_op {r : R2} {x y z : V} (ha : EvX K B ta σ H x) (hb : EvX K B tb σ H y) (hr : ∀ H1, Up K B H H1 → ∀ Q : VK, Q z H1 → r x y H1 Q) : EvX K B (tOp r ta tb) σ H z := fun H1 u Q q =>
  ha H1 u _ fun H2 s2 => hb H2 (u.then s2) _ fun H3 s3 => hr H3 ((u.then s2).then s3) Q (q H3 (s2.trans s3))
theorem ex_un {r : V → Hp → VK → Prop} {x z : V} (ha : EvX K B ta σ H x) (hr : ∀ H1, Up K B H H1 → ∀ Q : VK, Q z H1 → r x H1 Q) : EvX K B (tUn r ta) σ H z := fun H1 u Q q =>
  ha H1 u _ fun H2 s2 => hr H2 (u.then s2) Q (q H2 s2)
theorem ev_I0 {g : Int → Int → V} {i j : Int} (ha : Ev K B ta σ H (.int i)) (hb : Ev K B tb σ H (.int j)) : EvX K B (tOp (rI0 g) ta tb) σ H (g i j) :=
  ex_op ha.x hb.x fun H1 _ Q q => ⟨i, j, rfl, rfl, q⟩
theorem ev_I {C : Int → Int → Prop} {g : Int → Int → V} {i j : Int} (ha : Ev K B ta σ H (.int i)) (hb : Ev K B tb σ H (.int j)) (hc : C i j) : EvX K B (tOp (rI C g) ta tb) σ H (g i j) :=
  ex_op ha.x hb.x fun H1 _ Q q => ⟨i, j, rfl, rfl, hc, q⟩
theorem ev_add {i j : Int} (ha : Ev K B ta σ H (.int i)) (hb : Ev K B tb σ H (.int j)) : Ev K B (tOp (rI0 fun i j => .int (i + j)) ta tb) σ H (.int (i + j)) := (ev_I0 ha hb).int
theorem ev_sub {i j : Int} (ha : Ev K B ta σ H (.int i)) (hb : Ev K B tb σ H (.int j)) : Ev K B (tOp (rI0 fun i j => .int (i - j)) ta tb) σ H (.int (i - j)) := (ev_I0 ha hb).int
theorem ev_mul {i j : Int} (ha : Ev K B ta σ H (.int i)) (hb : Ev K B tb σ H (.int j)) (hc : CMul i j) : Ev K B (tOp (rI CMul fun i j => .int (i * j)) ta tb) σ H (.int (i * j)) := (ev_I ha hb hc).int
theorem ev_mod {i j : Int} (ha : Ev K B ta σ H (.int i)) (hb : Ev K B tb σ H (.int j)) (hc : 0 < j) : Ev K B (tOp (rI (fun _ j => 0 < j) fun i j => .int (i % j)) ta tb) σ H (.int (i % j)) := (ev_I ha hb hc).int
theorem ev_fdiv {i j : Int} (ha : Ev K B ta σ H (.int i)) (hb : Ev K B tb σ H (.int j)) (hc : CDiv i j) : Ev K B (tOp (rI CDiv fun i j => .int (i / j)) ta tb) σ H (.int (i / j)) := (ev_I ha hb hc).int
theorem ev_lt {i j : Int} (ha : Ev K B ta σ H (.int i)) (hb : Ev K B tb σ H (.int j)) : Ev K B (tOp (rI0 fun i j => .bl (decide (i < j))) ta tb) σ H (.bool (decide (i < j))) := (ev_I0 ha hb).bool
theorem ev_le {i j : Int} (ha : Ev K B ta σ H (.int i)) (hb : Ev K B tb σ H (.int j)) : Ev K B (tOp (rI0 fun i j => .bl (decide (i ≤ j))) ta tb) σ H (.bool (decide (i ≤ j))) := (ev_I0 ha hb).bool
theorem ev_gt {i j : Int} (ha : Ev K B ta σ H (.int i)) (hb : Ev K B tb σ H (.int j)) : Ev K B (tOp (rI0 fun i j => .bl (decide (j < i))) ta tb) σ H (.bool (decide (j < i))) := (ev_I0 ha hb).bool
theorem ev_ge {i j : Int} (ha : Ev K B ta σ H (.int i)) (hb : Ev K B tb σ H (.int j)) : Ev K B (tOp (rI0 fun i j => .bl (decide (j ≤ i))) ta tb) σ H (.bool (decide (j ≤ i))) := (ev_I0 ha hb).bool
theorem ex_eq {x y : V} (ha : EvX K B ta σ H x) (hb : EvX K B tb σ H y) (hs : scal x y = true) : Ev K B (tOp rEq ta tb) σ H (.bool (decide (x = y))) := (ex_op ha hb fun H1 _ Q q => ⟨hs, q⟩).bool
theorem ex_ne {x y : V} (ha : EvX K B ta σ H x) (hb : EvX K B tb σ H y) (hs : scal x y = true) : Ev K B (tOp rNe ta tb) σ H (.bool (!decide (x = y))) := (ex_op ha hb fun H1 _ Q q => ⟨hs, q⟩).bool
theorem ev_eqS {x y : Str} (ha : Ev K B ta σ H (.str x)) (hb : Ev K B tb σ H (.str y)) : Ev K B (tOp rEq ta tb) σ H (.bool (decide (x = y))) :=
  (ex_eq ha.xs hb.xs rfl).is (by congr 1; by_cases e : x = y <;> simp [e])
theorem ev_eqI {x y : Int} (ha : Ev K B ta σ H (.int x)) (hb : Ev K B tb σ H (.int y)) : Ev K B (tOp rEq ta tb) σ H (.bool (decide (x = y))) :=
  (ex_eq ha.x hb.x rfl).is (by congr 1; by_cases e : x = y <;> simp [e])
theorem ev_neB {x y : Bool} (ha : Ev K B ta σ H (.bool x)) (hb : Ev K B tb σ H (.bool y)) : Ev K B (tOp rNe ta tb) σ H (.bool (!decide (x = y))) :=
  (ex_ne ha.xb hb.xb rfl).is (by congr 2; by_cases e : x = y <;> simp [e])
theorem et_test {b : Bool} (h : Ev K B te σ H (.bool b)) : EvT K B (tTest te) σ H b := fun H1 u Q q => h H1 u _ fun v H2 s m => ⟨b, m.bool_inv, q H2 s⟩
theorem et_B {b : Bool} (h : Ev K B te σ H (.bool b)) : EvT K B (tB te) σ H b := fun H1 u Q q => h H1 u _ fun v H2 s m => ⟨b, m.bool_inv, q H2 s⟩
theorem et_and {a b : Bool} (h1 : EvT K B tt σ H a) (h2 : a = true → EvT K B tu σ H b) : EvT K B (tAnd tt tu) σ H (a && b) := fun H1 u Q q => h1 H1 u _ fun H2 s2 => by
  cases a with
  | true => exact h2 rfl H2 (u.then s2) Q fun H3 s3 => q H3 (s2.trans s3)
  | false => exact q H2 s2
theorem et_or {a b : Bool} (h1 : EvT K B tt σ H a) (h2 : a = false → EvT K B tu σ H b) : EvT K B (tOr tt tu) σ H (a || b) := fun H1 u Q q => h1 H1 u _ fun H2 s2 => by
  cases a with
  | true => exact q H2 s2
  | false => exact h2 rfl H2 (u.then s2) Q fun H3 s3 => q H3 (s2.trans s3)
theorem et_not {a : Bool} (h1 : EvT K B tt σ H a) : EvT K B (tNot tt) σ H (!a) := fun H1 u Q q => h1 H1 u _ fun H2 s2 => q H2 s2
theorem ev_andV {a b : Bool} (h1 : Ev K B ta σ H (.bool a)) (h2 : a = true → Ev K B tb σ H (.bool b)) : Ev K B (tAndV ta tb) σ H (.bool (a && b)) := fun H1 u Q q => h1 H1 u _ fun v H2 s2 m => ⟨a, m.bool_inv, by
  cases a with
  | true => exact h2 rfl H2 (u.then s2) Q fun v3 H3 s3 m3 => q v3 H3 (s2.trans s3) m3
  | false => exact q _ H2 s2 (.bl false)⟩
theorem ev_orV {a b : Bool} (h1 : Ev K B ta σ H (.bool a)) (h2 : a = false → Ev K B tb σ H (.bool b)) : Ev K B (tOrV ta tb) σ H (.bool (a || b)) := fun H1 u Q q => h1 H1 u _ fun v H2 s2 m => ⟨a, m.bool_inv, by
  cases a with
  | true => exact q _ H2 s2 (.bl true)
  | false => exact h2 rfl H2 (u.then s2) Q fun v3 H3 s3 m3 => q v3 H3 (s2.trans s3) m3⟩
theorem ev_notV {a : Bool} (h1 : Ev K B ta σ H (.bool a)) : Ev K B (tNotV ta) σ H (.bool (!a)) := fun H1 u Q q => h1 H1 u _ fun v H2 s2 m => ⟨a, m.bool_inv, q _ H2 s2 (.bl _)⟩
theorem ev_ite {b : Bool} (h : EvT K B tt σ H b) (h1 : b = true → Ev K B ta σ H d) (h2 : b = false → Ev K B tb σ H d) : Ev K B (tIf tt ta tb) σ H d := fun H1 u Q q => h H1 u _ fun H2 s2 => by
  cases b with
  | true => exact h1 rfl H2 (u.then s2) Q fun v3 H3 s3 m3 => q v3 H3 (s2.trans s3) m3
  | false => exact h2 rfl H2 (u.then s2) Q fun v3 H3 s3 m3 => q v3 H3 (s2.trans s3) m3
theorem ea_nil : EvA K B tNil σ H [] := fun H1 u Q q => q [] H1 (.refl _) .nil
theorem ea_cons {tr : TA} {ds : List PyData} (h : Ev K B ta σ H d) (hr : EvA K B tr σ H ds) : EvA K B (tCons ta tr) σ H (d :: ds) := fun H1 u Q q =>
  h H1 u _ fun v H2 s2 m => hr H2 (u.then s2) _ fun vs H3 s3 m3 => q (v :: vs) H3 (s2.trans s3) (.cons (m.keep (.of s3)) m3)
theorem sz_of {n : Nat} (h : n ≤ 100000) : n ≤ sizeLine := Nat.le_trans h (by decide)
theorem sz_lt {n : Nat} (h : n < 100000) : n < sizeLine := Nat.lt_of_lt_of_le h (by decide)
theorem ev_tup {ta : TA} {ds : List PyData} (h : EvA K B ta σ H ds) (hl : ds.length ≤ 100000) : Ev K B (tTup ta) σ H (.tuple ds) := fun H1 u Q q =>
  h H1 u _ fun vs H2 s2 m => ⟨by rw [m.length]; exact sz_of hl, fun p hp => q _ _ (s2.trans (same_new hp _)) (.tup (.inl (.inl upd_same)) (m.keep (.of (same_new hp _))))⟩
theorem el_lst {ta : TA} {ds : List PyData} (h : EvA K B ta σ H ds) (hl : ds.length ≤ 100000) : EvL K B (tLst ta) σ H ds := fun H1 u Q q =>
  h H1 u _ fun vs H2 s2 m => ⟨by rw [m.length]; exact sz_of hl, fun p hp => q p vs _ (s2.free hp) (s2.trans (same_new hp _)) upd_same (m.keep (.of (same_new hp _)))⟩
/-- an item of a tuple -/
theorem ev_ix {ds : List PyData} {i : Int} (ha : Ev K B ta σ H (.tuple ds)) (hi : Ev K B tb σ H (.int i)) (e : atI ds i = some d) : Ev K B (tOp (rIxT K) ta tb) σ H d := fun H1 u Q q =>
  ha H1 u _ fun v H2 s2 m => hi H2 (u.then s2) _ fun w H3 s3 n => by
    obtain ⟨a, xs, rfl, hs, hm⟩ := (m.keep (.of s3)).tup_inv
    obtain ⟨x, hx, hxm⟩ := hm.at e
    exact ⟨a, xs, i, x, rfl, n.int_inv, hs, hx, q x H3 (s2.trans s3) hxm⟩
/-- an item of a list that stands -/
theorem ev_ixL {p : Addr} {vs : List V} {ds : List PyData} {i : Int} (ha : EvX K B ta σ H (.ref p)) (hl : SqL K B p vs) (hm : ImAll K H vs ds) (hi : Ev K B tb σ H (.int i)) (e : atI ds i = some d) : Ev K B (tOp (rIxL K) ta tb) σ H d := fun H1 u Q q =>
  ha H1 u _ fun H2 s2 => hi H2 (u.then s2) _ fun w H3 s3 n => by
    obtain ⟨x, hx, hxm⟩ := hm.at e
    have u3 := (u.then s2).then s3
    exact ⟨p, vs, i, x, rfl, n.int_inv, u3.1.seq hl, hx, q x H3 (s2.trans s3) (hxm.keep u3.2)⟩
/-- an item of a list display -/
theorem ev_ixN {ds : List PyData} {i : Int} (ha : EvL K B ta σ H ds) (hi : Ev K B tb σ H (.int i)) (e : atI ds i = some d) : Ev K B (tOp (rIxL K) ta tb) σ H d := fun H1 u Q q =>
  ha H1 u _ fun p vs H2 _ s2 hp hm => hi H2 (u.then s2) _ fun w H3 s3 n => by
    obtain ⟨x, hx, hxm⟩ := hm.at e
    exact ⟨p, vs, i, x, rfl, n.int_inv, SqL.of (s3 _ _ hp), hx, q x H3 (s2.trans s3) (hxm.keep (.of s3))⟩
theorem ev_ixS {z : Str} {i : Int} {c : Nat} (ha : Ev K B ta σ H (.str z)) (hi : Ev K B tb σ H (.int i)) (hl : z.length ≤ 100000) (e : atI z.cps.toList i = some c) : Ev K B (tOp rIxS ta tb) σ H (.str ⟨#[c]⟩) :=
  (ex_op ha.xs hi.x fun H1 _ Q q => ⟨z, i, c, rfl, rfl, sz_of hl, e, q⟩).str
theorem inV_strs {s : Str} : ∀ {xs : List V} {ss : List Str}, ImAll K H xs (ss.map PyData.str) → xs.all flatV = true ∧ inV (.str s) xs = decide (s ∈ ss)
  | _, [], .nil => ⟨rfl, rfl⟩
  | _, t :: ss, .cons h q => by
    obtain ⟨h1, h2⟩ := inV_strs (s := s) (ss := ss) q
    cases h
    refine ⟨by rw [List.all_cons, h1]; rfl, ?_⟩
    show (eqV (.str t) (.str s) || inV (.str s) _) = _
    rw [h2]
    show ((t == s) || decide (s ∈ ss)) = _
    by_cases e : t = s
    · subst e; simp
    · have e' : ¬ s = t := fun z => e z.symm
      simp [e, e']
/-- in a tuple of texts -/
theorem ev_inT {s : Str} {ss : List Str} (ha : Ev K B ta σ H (.str s)) (hb : Ev K B tb σ H (.tuple (ss.map .str))) : Ev K B (tOp (rIn K false) ta tb) σ H (.bool (decide (s ∈ ss))) := fun H1 u Q q =>
  ha H1 u _ fun v H2 s2 m => hb H2 (u.then s2) _ fun w H3 s3 n => by
    obtain ⟨a, xs, rfl, hs, hm⟩ := n.tup_inv
    obtain ⟨h1, h2⟩ := inV_strs (s := s) hm
    have e := m.str_inv
    subst e
    refine ⟨a, xs, rfl, .inr hs, rfl, h1, ?_⟩
    rw [h2]
    exact q _ H3 (s2.trans s3) (.bl _)
/-- in a new list of texts -/
theorem ev_inL {s : Str} {ss : List Str} (ha : Ev K B ta σ H (.str s)) (hb : EvL K B tb σ H (ss.map .str)) : Ev K B (tOp (rIn K false) ta tb) σ H (.bool (decide (s ∈ ss))) := fun H1 u Q q =>
  ha H1 u _ fun v H2 s2 m => hb H2 (u.then s2) _ fun p xs H3 _ s3 hp hm => by
    obtain ⟨h1, h2⟩ := inV_strs (s := s) hm
    have e := m.str_inv
    subst e
    refine ⟨p, xs, rfl, .inl (SqL.of hp), rfl, h1, ?_⟩
    rw [h2]
    exact q _ H3 (s2.trans s3) (.bl _)
theorem ev_niL {s : Str} {ss : List Str} (ha : Ev K B ta σ H (.str s)) (hb : EvL K B tb σ H (ss.map .str)) : Ev K B (tOp (rIn K true) ta tb) σ H (.bool (!decide (s ∈ ss))) := fun H1 u Q q =>
  ha H1 u _ fun v H2 s2 m => hb H2 (u.then s2) _ fun p xs H3 _ s3 hp hm => by
    obtain ⟨h1, h2⟩ := inV_strs (s := s) hm
    have e := m.str_inv
    subst e
    refine ⟨p, xs, rfl, .inl (SqL.of hp), rfl, h1, ?_⟩
    rw [h2]
    exact q _ H3 (s2.trans s3) (.bl _)
/-- tuples put together -/
theorem ev_cat {xs ys : List PyData} (ha : Ev K B ta σ H (.tuple xs)) (hb : Ev K B tb σ H (.tuple ys)) (hl : xs.length + ys.length ≤ 100000) : Ev K B (tOp (rCatA K) ta tb) σ H (.tuple (xs ++ ys)) := fun H1 u Q q =>
  ha H1 u _ fun v H2 s2 m => hb H2 (u.then s2) _ fun w H3 s3 n => by
    obtain ⟨a, vs, rfl, hs, hm⟩ := (m.keep (.of s3)).tup_inv
    obtain ⟨b, ws, rfl, hs2, hm2⟩ := n.tup_inv
    refine ⟨a, b, vs, ws, rfl, rfl, hs, hs2, by rw [hm.length, hm2.length]; exact sz_of hl, fun e => ?_, fun _ e => ?_, fun _ _ p hp => ?_⟩
    · subst e
      cases hm
      exact q _ H3 (s2.trans s3) (.tup hs2 hm2)
    · subst e
      cases hm2
      rw [List.append_nil] at q
      exact q _ H3 (s2.trans s3) (.tup hs hm)
    · exact q _ _ ((s2.trans s3).trans (same_new hp _)) (.tup (.inl (.inl upd_same)) ((hm.append hm2).keep (.of (same_new hp _))))
theorem eo_none : EvO K B tNoPart σ H none := fun H1 u Q q => q H1 (.refl _)
theorem eo_some {i : Int} (h : Ev K B te σ H (.int i)) : EvO K B (tPart te) σ H (some i) := fun H1 u Q q => h H1 u _ fun v H2 s m => ⟨i, m.int_inv, q H2 s⟩
/-- a slice of a tuple -/
theorem ev_sl {tl th : TO} {xs : List PyData} {lo hi : Option Int} (ha : Ev K B ta σ H (.tuple xs)) (h1 : EvO K B tl σ H lo) (h2 : EvO K B th σ H hi) : Ev K B (tSl (rSlA K) ta tl th) σ H (.tuple (cutD xs lo hi)) := fun H1 u Q q =>
  ha H1 u _ fun v H2 s2 m => h1 H2 (u.then s2) _ fun H3 s3 => h2 H3 ((u.then s2).then s3) _ fun H4 s4 => by
    obtain ⟨a, vs, rfl, hs, hm⟩ := (m.keep (.of (s3.trans s4))).tup_inv
    refine ⟨a, vs, rfl, hs, fun e => ?_, fun _ p hp => ?_⟩
    · have z : cutD xs lo hi = xs := by
        unfold cutD
        rw [← hm.length, e.1, e.2, List.drop_zero, Nat.sub_zero, hm.length, List.take_length]
      rw [z] at q
      exact q _ H4 ((s2.trans s3).trans s4) (.tup hs hm)
    · exact q _ _ (((s2.trans s3).trans s4).trans (same_new hp _)) (.tup (.inl (.inl upd_same)) ((hm.cut lo hi).keep (.of (same_new hp _))))
/-- tuple(a new list) -/
theorem ev_tupOf {r : List V → Hp → VK → Prop} {ds : List PyData} (hr : ∀ p ys H Q, SqL K H p ys → (∀ l, H l = none → Q (.ref l) (upd H l (.tup ys))) → r [.ref p] H Q) (h : EvL K B ta σ H ds) : Ev K B (tCB r (tCons ta tNil)) σ H (.tuple ds) := fun H1 u Q q =>
  h H1 u _ fun p vs H2 _ s2 hp hm => hr p vs H2 Q (SqL.of hp) fun l hl => q _ _ (s2.trans (same_new hl _)) (.tup (.inl (.inl upd_same)) (hm.keep (.of (same_new hl _))))
/-- a call of values -/
theorem ev_cb {r : List V → Hp → VK → Prop} {ta : TA} {ds : List PyData} (h : EvA K B ta σ H ds) (hr : ∀ vs H1, Up K B H H1 → ImAll K H1 vs ds → ∀ Q : VK, (∀ v, Im K H1 v d → Q v H1) → r vs H1 Q) : Ev K B (tCB r ta) σ H d := fun H1 u Q q =>
  h H1 u _ fun vs H2 s2 m => hr vs H2 (u.then s2) m Q fun v hv => q v H2 s2 hv
/-- what a def is worth: from data to data -/
def spI (K : PySem.W.Frag) (rel : List PyData → PyData → Prop) : Sp := fun vs H Q _ => ∃ ds d, rel ds d ∧ ImAll K H vs ds ∧ ∀ v H', Same H H' → Im K H' v d → Q v H'
/-- .. to a new list of data -/
def spL (K : PySem.W.Frag) (rel : List PyData → List PyData → Prop) : Sp := fun vs H Q _ => ∃ ds d, rel ds d ∧ ImAll K H vs ds ∧ ∀ p ws H', H p = none → Same H H' → H' p = some (.lst ws) → ImAll K H' ws d → Q (.ref p) H'
theorem ev_call {rel : List PyData → PyData → Prop} {E : XK} {ta : TA} {ds : List PyData} (h : EvA K B ta σ H ds) (hr : rel ds d) : Ev K B (tCall (spI K rel) [] E ta) σ H d := fun H1 u Q q =>
  h H1 u _ fun vs H2 s2 m => by
    show spI K rel (vs ++ []) H2 Q E
    rw [List.append_nil]
    exact ⟨ds, d, hr, m, fun v H3 s3 m3 => q v H3 (s2.trans s3) m3⟩
theorem el_call {rel : List PyData → List PyData → Prop} {E : XK} {ta : TA} {ds rs : List PyData} (h : EvA K B ta σ H ds) (hr : rel ds rs) : EvL K B (tCall (spL K rel) [] E ta) σ H rs := fun H1 u Q q =>
  h H1 u _ fun vs H2 s2 m => by
    show spL K rel (vs ++ []) H2 Q E
    rw [List.append_nil]
    exact ⟨ds, rs, hr, m, fun p ws H3 hp s3 h3 m3 => q p ws H3 (s2.free hp) (s2.trans s3) h3 m3⟩
/-- tests of types -/
theorem isT_tup {a : Addr} {xs : List V} (h : SqT K H a xs) : TyX K H (.ref a) (.type "tuple") := by
  rcases h with (h | ⟨o, h⟩) | ⟨o, its, n, h1, h2, _⟩
  · exact .base (.tup h)
  · exact .fTuple h
  · exact .kTuple h1 h2
def tyD : PyData → String
  | .none => "NoneType"
  | .bool _ => "bool"
  | .int _ => "int"
  | .str _ => "str"
  | .tuple _ => "tuple"
  | .list _ => "list"
  | .dict _ => "dict"
theorem Im.ty {v : V} {d : PyData} (h : Im K H v d) : TyX K H v (.type (tyD d)) := by
  cases h with
  | non => exact .base .non
  | bl b => exact .base (.bl b)
  | int i => exact .base (.int i)
  | str x => exact .base (.str x)
  | tup h _ => exact isT_tup h
theorem ev_isi {T : String} {b : Bool} (h : Ev K B ta σ H d) (hk : kitB (tyD d) T = some b) : Ev K B (tCB (rIsi K) (tCons ta (tCons (tC (.ty T)) tNil))) σ H (.bool b) := fun H1 u Q q =>
  h H1 u _ fun v H2 s2 m => ⟨v, .ty T, .type (tyD d), .type T, b, rfl, .ty T, m.ty, kit_ty hk, q _ H2 s2 (.bl b)⟩

/-! ### statements -/
def Go (K : PySem.W.Frag) (B : Hp) (t : TS) (D : Ends) (σ : St) (H : Hp) : Prop := ∀ H1, Up K B H H1 → t D σ H1
variable {D : Ends} {t1 t2 : TS}
theorem go_if {b : Bool} (h : EvT K B tt σ H b) (h1 : b = true → Go K B t1 D σ H) (h2 : b = false → Go K B t2 D σ H) : Go K B (tIfS tt t1 t2) D σ H := fun H1 u => h H1 u _ fun H2 s2 => by
  cases b with
  | true => exact h1 rfl H2 (u.then s2)
  | false => exact h2 rfl H2 (u.then s2)
theorem go_ret (h : Ev K B te σ H d) (q : ∀ v H1, Up K B H H1 → Im K H1 v d → D.rt v H1) : Go K B (tRet te) D σ H := fun H1 u => h H1 u _ fun v H2 s2 m => q v H2 (u.then s2) m
theorem go_retL {ds : List PyData} (h : EvL K B te σ H ds) (q : ∀ p vs H1, B p = none → Up K B H H1 → H1 p = some (.lst vs) → ImAll K H1 vs ds → D.rt (.ref p) H1) : Go K B (tRet te) D σ H := fun H1 u => h H1 u _ fun p vs H2 hp s2 h2 m => q p vs H2 (u.1.free hp) (u.then s2) h2 m
theorem go_seq (h : Go K B t1 { D with nx := t2 D } σ H) : Go K B (tSeq t1 t2) D σ H := h
/-- a test without else, behind it the rest -/
theorem go_ifs {b : Bool} (h : EvT K B tt σ H b) (h1 : b = true → Go K B t1 { D with nx := t2 D } σ H) (h2 : b = false → Go K B t2 D σ H) : Go K B (tSeq (tIfS tt t1 tNext) t2) D σ H := fun H1 u => h H1 u _ fun H2 s2 => by
  cases b with
  | true => exact h1 rfl H2 (u.then s2)
  | false => exact h2 rfl H2 (u.then s2)
theorem go_set {i : Nat} (h : Ev K B te σ H d) (q : ∀ v H1, Up K B H H1 → Im K H1 v d → Go K B t2 D (σ.set i (some v)) H1) : Go K B (tSeq (tAsg te (gName i)) t2) D σ H := fun H1 u => h H1 u _ fun v H2 s2 m =>
  q v H2 (u.then s2) m H2 ⟨(u.then s2).1, .refl _⟩
theorem go_setL {i : Nat} {ds : List PyData} (h : EvL K B te σ H ds) (q : ∀ p vs H1, B p = none → Up K B H H1 → H1 p = some (.lst vs) → ImAll K H1 vs ds → t2 D (σ.set i (some (.ref p))) H1) : Go K B (tSeq (tAsg te (gName i)) t2) D σ H := fun H1 u => h H1 u _ fun p vs H2 hp s2 h2 m =>
  q p vs H2 (u.1.free hp) (u.then s2) h2 m
theorem Go.up {t : TS} (h : Go K B t D σ H) (u : Up K B H H1) : Go K B t D σ H1 := fun H2 u2 => h H2 ⟨u2.1, u.2.trans u2.2⟩
theorem go_of {t : TS} (h : t D σ H) (hs : Same B H) (g : Go K B t D σ H) : t D σ H := h
theorem Go.run {t : TS} (g : Go K B t D σ H) (hs : Same B H) : t D σ H := g H (.refl hs)

/-! ### comprehensions over a tuple, over a list that stands: each item by itself -/
theorem el_lcT {g : TG} {te : TE} {ti : TE} {vs : List Nat} {ds rs : List PyData} (hi : Ev K B ti σ H (.tuple ds)) (hl : ds.length < 100000) (hrl : rs.length = ds.length)
    (hg : ∀ v H1, ∃ σ2, g v (wipe σ vs) H1 = (fun Q => Q σ2 H1) ∧ wipe σ2 vs = wipe σ vs ∧ ∀ (i : Nat) d r, ds[i]? = some d → rs[i]? = some r → Up K B H H1 → Im K H1 v d → Ev K B te σ2 H1 r) :
    EvL K B (tLc (iTup K ti) g tYes te vs) σ H rs := fun H1 u Q q => hi H1 u _ fun v H2 s2 m => by
  obtain ⟨a, xs, rfl, hs, hm⟩ := m.tup_inv
  have u2 := u.then s2
  refine ⟨a, rfl, ⟨xs, hs⟩, fun E hE => lc_tup (K := K) (a := a) (xs := xs) (fun i H' => i ≤ xs.length ∧ Same H2 H' ∧ ∃ acc, H' E = some (.lst acc) ∧ ImAll K H' acc (rs.take i)) ⟨Nat.zero_le _, same_new hE _, [], upd_same, by rw [List.take_zero]; exact .nil⟩
    (fun i H' _ ⟨_, s, _⟩ => TK.of s _ _ hs) (fun i x H' hx ⟨hle, s, acc, hacc, ma⟩ => ?_) (fun H' ⟨_, s, acc, hacc, ma⟩ => ?_)⟩
  · have hlt : i < xs.length := (List.getElem?_eq_some_iff.mp hx).1
    obtain ⟨d, hd, hdm⟩ := hm.getV hx
    have hr : i < rs.length := by rw [hrl, ← hm.length]; exact hlt
    obtain ⟨σ2, e1, e2, e3⟩ := hg x H'
    rw [e1]
    refine ⟨e2, ?_⟩
    have u3 : Up K B H H' := u2.then s
    show te σ2 H' _
    refine e3 i d rs[i] hd (List.getElem?_eq_getElem hr) u3 (hdm.keep (.of s)) H' ⟨u3.1, .refl _⟩ _ fun y H4 s4 my => ⟨acc, s4 _ _ hacc, by rw [ma.length, List.length_take]; exact sz_lt (by omega), hlt, ?_, acc ++ [y], upd_same, ?_⟩
    · intro b o hb
      have hne : b ≠ E := ne_of_none hb hE
      rw [upd_ne hne]
      exact s4 _ _ (s _ _ hb)
    · rw [List.take_succ, List.getElem?_eq_getElem hr]
      have tk : TK K H4 (upd H4 E (.lst (acc ++ [y]))) := TK.upd (by rw [s4 _ _ hacc]; trivial)
      exact ((ma.keep (.of s4)).append (.one my)).keep tk
  · rw [List.take_of_length_le (by rw [hrl, ← hm.length]; exact Nat.le_refl _)] at ma
    exact q E acc H' (s2.free hE) (s2.trans s) hacc ma
theorem el_lcN {j : Nat} {te : TE} {ti : TE} {ds rs : List PyData} (hi : Ev K B ti σ H (.tuple ds)) (hl : ds.length < 100000) (hrl : rs.length = ds.length)
    (he : ∀ (i : Nat) d r v H1, ds[i]? = some d → rs[i]? = some r → Up K B H H1 → Im K H1 v d → Ev K B te ((σ.set j none).set j (some v)) H1 r) :
    EvL K B (tLc (iTup K ti) (gName j) tYes te [j]) σ H rs :=
  el_lcT hi hl hrl fun v H1 => ⟨(σ.set j none).set j (some v), rfl, by show ((σ.set j none).set j (some v)).set j none = σ.set j none; simp [List.set_set], fun i d r h1 h2 u m => he i d r v H1 h1 h2 u m⟩
end
end Fw
set_option Elab.async false
set_option linter.all false
set_option maxRecDepth 100000
namespace Fw
open PySem L2
section
variable {K : PySem.W.Frag} {B H H1 H2 : Hp} {σ : St} {ta tb tc te : TE} {tt tu : TT} {v : V} {d : PyData} {D : Ends} {t1 t2 : TS}

/-! ### comprehensions over anything: what stands behind i turns -/
theorem lcJ {J : It} {n : Nat} {ac : Nat → List PyData} {g : TG} {vs : List Nat} {E : Addr} {Qd : Hp → Prop} (hE : H E = none) (h0 : ac 0 = []) (hlen : ∀ i, i < n → (ac i).length < 100000)
    (hJ : ∀ H', Same H H' → (∀ i, i < n → J.go i H') ∧ J.stop n H')
    (hs : ∀ i x H' H'', i < n → Same H H' → J.yld i H' x H'' → H'' = H' ∧ ∃ σ2, (∀ P : St → Hp → Prop, P σ2 H' → g x (wipe σ vs) H' P) ∧ wipe σ2 vs = wipe σ vs ∧
      ∃ b, EvT K H tt σ2 H' b ∧ (b = true → ∃ r, ac (i + 1) = ac i ++ [r] ∧ Ev K H te σ2 H' r) ∧ (b = false → ac (i + 1) = ac i))
    (hd : ∀ H' acc, Same H H' → H' E = some (.lst acc) → ImAll K H' acc (ac n) → Qd H') :
    ∃ W : Nat → Nat → Hp → Prop, (∃ m, W 0 m (upd H E (.lst []))) ∧ ∀ i m H, W i m H →
      (J.stop i H ∧ Qd H) ∨ (J.go i H ∧ ∃ Nx : Hp → Prop, (∀ H', Nx H' → ∃ m', m' < m ∧ W (i + 1) m' H') ∧ ∀ x H', J.yld i H x H' → g x (wipe σ vs) H' fun σ2 H2 => wipe σ2 vs = wipe σ vs ∧ tt σ2 H2 fun b H3 =>
        if b = true then te σ2 H3 fun y H4 => ∃ acc, H4 E = some (.lst acc) ∧ acc.length < sizeLine ∧ Nx (upd H4 E (.lst (acc ++ [y]))) else Nx H3) := by
  let Pv : Nat → Hp → Prop := fun i H' => Same H H' ∧ ∃ acc, H' E = some (.lst acc) ∧ ImAll K H' acc (ac i)
  refine ⟨fun i m H' => m = n - i ∧ i ≤ n ∧ Pv i H', ⟨n, by simp, Nat.zero_le _, same_new hE _, [], upd_same, by rw [h0]; exact .nil⟩, ?_⟩
  rintro i m H' ⟨rfl, hi, s, acc, hacc, ma⟩
  by_cases hlt : i < n
  · refine .inr ⟨(hJ H' s).1 i hlt, Pv (i + 1), fun H'' p => ⟨n - (i + 1), by omega, rfl, hlt, p⟩, fun x H'' y => ?_⟩
    obtain ⟨e, σ2, g1, g2, b, hb, ht, hf⟩ := hs i x H' H'' hlt s y
    subst e
    refine g1 _ ⟨g2, hb H'' (Up.refl s) _ fun H3 s3 => ?_⟩
    cases b with
    | false =>
      show Pv (i + 1) H3
      refine ⟨s.trans s3, acc, s3 _ _ hacc, ?_⟩
      rw [hf rfl]
      exact ma.keep (.of s3)
    | true =>
      obtain ⟨r, e1, he⟩ := ht rfl
      refine he H3 ⟨s.trans s3, .of s3⟩ _ fun y H4 s4 my => ⟨acc, s4 _ _ (s3 _ _ hacc), by rw [ma.length]; exact sz_lt (hlen i hlt), ?_, acc ++ [y], upd_same, ?_⟩
      · intro b o hb'
        have hne : b ≠ E := ne_of_none hb' hE
        rw [upd_ne hne]
        exact s4 _ _ (s3 _ _ (s _ _ hb'))
      · rw [e1]
        have tk : TK K H4 (upd H4 E (.lst (acc ++ [y]))) := TK.upd (by rw [s4 _ _ (s3 _ _ hacc)]; trivial)
        exact ((ma.keep (.of (s3.trans s4))).append (.one my)).keep tk
  · have e : i = n := by omega
    subst e
    exact .inl ⟨(hJ H' s).2, hd H' acc s hacc ma⟩
theorem et_yes : EvT K B tYes σ H true := fun H1 u Q q => q H1 (.refl _)
/-- over a text, sign by sign -/
theorem el_lcS {j : Nat} {ti : TE} {x : Str} {rs : List PyData} (hi : Ev K B ti σ H (.str x)) (hl : x.cps.size < 100000) (hrl : rs.length = x.cps.size)
    (he : ∀ (i : Nat) c r H1, x.cps[i]? = some c → rs[i]? = some r → Up K B H H1 → Ev K B te ((σ.set j none).set j (some (.str ⟨#[c]⟩))) H1 r) :
    EvL K B (tLc (iStr ti) (gName j) tYes te [j]) σ H rs := fun H1 u Q q => hi H1 u _ fun v H2 s2 m => by
  have u2 := u.then s2
  refine ⟨x, m.str_inv, fun E hE => lcJ (K := K) (n := x.cps.size) (ac := fun i => rs.take i) hE (List.take_zero) (fun i hi => by rw [List.length_take]; omega) (fun H' s => ⟨fun i hi => hi, Nat.le_refl _⟩) (fun i y H' H'' hi' s hy => ?_) fun H' acc s hacc ma => ?_⟩
  · obtain ⟨e, c, hc, rfl⟩ := hy
    have hr : i < rs.length := by rw [hrl]; exact hi'
    refine ⟨e, (σ.set j none).set j (some (.str ⟨#[c]⟩)), fun P p => p, by show ((σ.set j none).set j _).set j none = σ.set j none; simp [List.set_set], true, et_yes, fun _ => ⟨rs[i], ?_, ?_⟩, fun z => nomatch z⟩
    · rw [List.take_succ, List.getElem?_eq_getElem hr]; rfl
    · intro H3 u3 Q3 q3
      exact he i c rs[i] H' hc (List.getElem?_eq_getElem hr) (u2.then s) H3 ⟨u2.1.trans u3.1, u3.2⟩ Q3 q3
  · rw [List.take_of_length_le (by rw [hrl]; exact Nat.le_refl _)] at ma
    exact q E acc H' (s2.free hE) (s2.trans s) hacc ma
/-- over a list that stands (its address known) -/
theorem el_lcL {j : Nat} {ti : TE} {p : Addr} {ws : List V} {ac : Nat → List PyData} {ds : List PyData} (hi : EvX K B ti σ H (.ref p)) (hp : SqL K B p ws) (hm : ImAll K H ws ds) (h0 : ac 0 = []) (hlen : ∀ i, i < ds.length → (ac i).length < 100000)
    (he : ∀ (i : Nat) d v H1, ds[i]? = some d → Up K B H H1 → Im K H1 v d → ∃ b, EvT K B tt ((σ.set j none).set j (some v)) H1 b ∧ (b = true → ∃ r, ac (i + 1) = ac i ++ [r] ∧ Ev K B te ((σ.set j none).set j (some v)) H1 r) ∧ (b = false → ac (i + 1) = ac i)) :
    EvL K B (tLc (iList K ti) (gName j) tt te [j]) σ H (ac ds.length) := fun H1 u Q q => hi H1 u _ fun H2 s2 => by
  have u2 := u.then s2
  have hp2 : SqL K H2 p ws := u2.1.seq hp
  refine ⟨p, rfl, ⟨ws, hp2⟩, fun E hE => lcJ (K := K) (n := ds.length) (ac := ac) hE h0 hlen (fun H' s => ⟨fun i hi => ⟨ws, ws[i]'(by rw [hm.length]; exact hi), s.seq hp2, by simp⟩, ws, s.seq hp2, by rw [hm.length]; exact Nat.le_refl _⟩) (fun i y H' H'' hi' s hy => ?_) fun H' acc s hacc ma => q E acc H' (s2.free hE) (s2.trans s) hacc ma⟩
  obtain ⟨e, hy⟩ := hy
  have hx := hy ws (s.seq hp2)
  obtain ⟨d, hd, hdm⟩ := hm.getV hx
  have u3 := u2.then s
  obtain ⟨b, hb, ht, hf⟩ := he i d y H' hd u3 (hdm.keep u3.2)
  refine ⟨e, (σ.set j none).set j (some y), fun P p => p, by show ((σ.set j none).set j _).set j none = σ.set j none; simp [List.set_set], b, fun H3 u4 Q3 q3 => hb H3 ⟨u2.1.trans u4.1, u4.2⟩ Q3 q3, fun z => ?_, hf⟩
  obtain ⟨r, e1, e2⟩ := ht z
  exact ⟨r, e1, fun H3 u4 Q3 q3 => e2 H3 ⟨u2.1.trans u4.1, u4.2⟩ Q3 q3⟩
/-- .. over a list just made -/
theorem el_lcM {j : Nat} {ti : TE} {ac : Nat → List PyData} {ds : List PyData} (hi : EvL K B ti σ H ds) (h0 : ac 0 = []) (hlen : ∀ i, i < ds.length → (ac i).length < 100000)
    (he : ∀ (i : Nat) d v H1, ds[i]? = some d → Up K B H H1 → Im K H1 v d → ∃ b, EvT K B tt ((σ.set j none).set j (some v)) H1 b ∧ (b = true → ∃ r, ac (i + 1) = ac i ++ [r] ∧ Ev K B te ((σ.set j none).set j (some v)) H1 r) ∧ (b = false → ac (i + 1) = ac i)) :
    EvL K B (tLc (iList K ti) (gName j) tt te [j]) σ H (ac ds.length) := fun H1 u Q q => hi H1 u _ fun p ws H2 _ s2 hp hm => by
  have u2 := u.then s2
  have hp2 : SqL K H2 p ws := SqL.of hp
  refine ⟨p, rfl, ⟨ws, hp2⟩, fun E hE => lcJ (K := K) (n := ds.length) (ac := ac) hE h0 hlen (fun H' s => ⟨fun i hi => ⟨ws, ws[i]'(by rw [hm.length]; exact hi), s.seq hp2, by simp⟩, ws, s.seq hp2, by rw [hm.length]; exact Nat.le_refl _⟩) (fun i y H' H'' hi' s hy => ?_) fun H' acc s hacc ma => q E acc H' (s2.free hE) (s2.trans s) hacc ma⟩
  obtain ⟨e, hy⟩ := hy
  have hx := hy ws (s.seq hp2)
  obtain ⟨d, hd, hdm⟩ := hm.getV hx
  have u3 := u2.then s
  obtain ⟨b, hb, ht, hf⟩ := he i d y H' hd u3 (hdm.keep (.of s))
  refine ⟨e, (σ.set j none).set j (some y), fun P p => p, by show ((σ.set j none).set j _).set j none = σ.set j none; simp [List.set_set], b, fun H3 u4 Q3 q3 => hb H3 ⟨u2.1.trans u4.1, u4.2⟩ Q3 q3, fun z => ?_, hf⟩
  obtain ⟨r, e1, e2⟩ := ht z
  exact ⟨r, e1, fun H3 u4 Q3 q3 => e2 H3 ⟨u2.1.trans u4.1, u4.2⟩ Q3 q3⟩
/-- [a for a, b in t], t a tuple of pairs -/
theorem el_lcP {j k : Nat} {ti : TE} {ds rs : List PyData} (hjk : j ≠ k) (hi : Ev K B ti σ H (.tuple ds)) (hl : ds.length < 100000) (hrl : rs.length = ds.length)
    (he : ∀ (i : Nat) d r H1, ds[i]? = some d → rs[i]? = some r → Up K B H H1 → ∃ a b, d = .tuple [a, b] ∧ ∀ x y, Im K H1 x a → Im K H1 y b → Ev K B te ((((σ.set k none).set j none).set j (some x)).set k (some y)) H1 r) :
    EvL K B (tLc (iTup K ti) (gTup K 2 (gCons (gName j) (gCons (gName k) gNil))) tYes te [j, k]) σ H rs := fun H1 u Q q => hi H1 u _ fun v H2 s2 m => by
  obtain ⟨p, ws, rfl, hp2, hm⟩ := m.tup_inv
  have u2 := u.then s2
  refine ⟨p, rfl, ⟨ws, hp2⟩, fun E hE => lcJ (K := K) (n := ds.length) (ac := fun i => rs.take i) hE (List.take_zero) (fun i hi => by rw [List.length_take]; omega) (fun H' s => ⟨fun i hi => ⟨ws, ws[i]'(by rw [hm.length]; exact hi), TK.of s _ _ hp2, by simp⟩, ws, TK.of s _ _ hp2, by rw [hm.length]; exact Nat.le_refl _⟩) (fun i y H' H'' hi' s hy => ?_) fun H' acc s hacc ma => ?_⟩
  · obtain ⟨e, hy⟩ := hy
    have hx := hy ws (TK.of s _ _ hp2)
    obtain ⟨d, hd, hdm⟩ := hm.getV hx
    have u3 := u2.then s
    have hr : i < rs.length := by rw [hrl]; exact hi'
    obtain ⟨a, b, rfl, hev⟩ := he i d rs[i] H' hd (List.getElem?_eq_getElem hr) u3
    obtain ⟨q2, zs, rfl, hq2, hz⟩ := (hdm.keep (.of s)).tup_inv
    obtain ⟨x1, y1, rfl, hx1, hy1⟩ : ∃ x y, zs = [x, y] ∧ Im K H' x a ∧ Im K H' y b := by
      cases hz with | cons h1 h2 => cases h2 with | cons h2 h3 => cases h3; exact ⟨_, _, rfl, h1, h2⟩
    refine ⟨e, (((σ.set k none).set j none).set j (some x1)).set k (some y1), fun P p => ⟨q2, [x1, y1], rfl, hq2, rfl, x1, [y1], rfl, y1, [], rfl, rfl, p⟩, ?_, true, et_yes, fun _ => ⟨rs[i], ?_, ?_⟩, fun z => nomatch z⟩
    · show (((((σ.set k none).set j none).set j (some x1)).set k (some y1)).set k none).set j none = (σ.set k none).set j none
      simp only [List.set_set]
      rw [List.set_comm _ _ hjk, List.set_set, List.set_set]
    · rw [List.take_succ, List.getElem?_eq_getElem hr]; rfl
    · intro H3 u4 Q3 q3
      exact hev x1 y1 hx1 hy1 H3 ⟨u2.1.trans u4.1, u4.2⟩ Q3 q3
  · rw [List.take_of_length_le (by rw [hrl]; exact Nat.le_refl _)] at ma
    exact q E acc H' (s2.free hE) (s2.trans s) hacc ma

/-! ### lists of truths, of numbers -/
theorem bools_of : ∀ {ws : List V} {bs : List Bool}, ImAll K H ws (bs.map .bool) → ws = bs.map V.bl
  | _, [], .nil => rfl
  | _, b :: bs, .cons h q => by cases h; rw [bools_of q]; rfl
theorem ints_of : ∀ {ws : List V} {ns : List Int}, ImAll K H ws (ns.map .int) → ws = ns.map V.int
  | _, [], .nil => rfl
  | _, b :: bs, .cons h q => by cases h; rw [ints_of q]; rfl
theorem ints_im : ∀ (ns : List Int), ImAll K H (ns.map V.int) (ns.map .int)
  | [] => .nil
  | n :: ns => .cons (.int n) (ints_im ns)
theorem strs_of : ∀ {ws : List V} {ss : List Str}, ImAll K H ws (ss.map .str) → ws = ss.map V.str
  | _, [], .nil => rfl
  | _, b :: bs, .cons h q => by cases h; rw [strs_of q]; rfl
theorem strs_im : ∀ (ss : List Str), ImAll K H (ss.map V.str) (ss.map .str)
  | [] => .nil
  | n :: ns => .cons (.str n) (strs_im ns)
theorem ev_all {bs : List Bool} (h : EvL K B ta σ H (bs.map .bool)) : Ev K B (tCB (rAll K) (tCons ta tNil)) σ H (.bool (bs.all id)) := fun H1 u Q q =>
  h H1 u _ fun p vs H2 _ s2 hp hm => ⟨p, bs, rfl, by rw [← bools_of hm]; exact SqL.of hp, q _ H2 s2 (.bl _)⟩
theorem ev_sum {ns : List Int} (h : EvL K B ta σ H (ns.map .int)) : Ev K B (tCB (rSum K) (tCons ta tNil)) σ H (.int ns.sum) := fun H1 u Q q =>
  h H1 u _ fun p vs H2 _ s2 hp hm => ⟨p, ns, rfl, by rw [← ints_of hm]; exact SqL.of hp, q _ H2 s2 (.int _)⟩
/-- len of a tuple, of a list just made, of a text -/
theorem ev_lenT {ds : List PyData} (h : Ev K B ta σ H (.tuple ds)) : Ev K B (tCB (fun xs H Q => ∃ p ys, xs = [V.ref p] ∧ (SqL K H p ys ∨ SqT K H p ys) ∧ Q (.int ys.length) H) (tCons ta tNil)) σ H (.int ds.length) := fun H1 u Q q =>
  h H1 u _ fun v H2 s2 m => by
    obtain ⟨p, ys, rfl, hs, hm⟩ := m.tup_inv
    refine ⟨p, ys, rfl, .inr hs, ?_⟩
    rw [hm.length]
    exact q _ H2 s2 (.int _)
theorem ev_lenL {ds : List PyData} (h : EvL K B ta σ H ds) : Ev K B (tCB (fun xs H Q => ∃ p ys, xs = [V.ref p] ∧ (SqL K H p ys ∨ SqT K H p ys) ∧ Q (.int ys.length) H) (tCons ta tNil)) σ H (.int ds.length) := fun H1 u Q q =>
  h H1 u _ fun p ys H2 _ s2 hp hm => by
    refine ⟨p, ys, rfl, .inl (SqL.of hp), ?_⟩
    rw [hm.length]
    exact q _ H2 s2 (.int _)
theorem ev_lenX {p : Addr} {ys : List V} (h : EvX K B ta σ H (.ref p)) (hp : SqL K B p ys) : Ev K B (tCB (fun xs H Q => ∃ p ys, xs = [V.ref p] ∧ (SqL K H p ys ∨ SqT K H p ys) ∧ Q (.int ys.length) H) (tCons ta tNil)) σ H (.int ys.length) := fun H1 u Q q =>
  h H1 u _ fun H2 s2 => ⟨p, ys, rfl, .inl ((u.then s2).1.seq hp), q _ H2 s2 (.int _)⟩
theorem ev_lenS {x : Str} (h : Ev K B ta σ H (.str x)) (hl : x.length ≤ 100000) : Ev K B (tCB (fun xs H Q => ∃ z, xs = [V.str z] ∧ z.length ≤ sizeLine ∧ Q (.int z.length) H) (tCons ta tNil)) σ H (.int x.length) := fun H1 u Q q =>
  h H1 u _ fun v H2 s2 m => ⟨x, by rw [m.str_inv], sz_of hl, q _ H2 s2 (.int _)⟩
/-- a chain of two comparisons of numbers, as a test -/
theorem et_chain {g1 g2 : Int → Int → Bool} {i j k : Int} (ha : Ev K B ta σ H (.int i)) (hb : Ev K B tb σ H (.int j)) (hc : Ev K B tc σ H (.int k)) :
    EvT K B (tTest (tChain (rI0 fun i j => .bl (g1 i j)) (rI0 fun i j => .bl (g2 i j)) ta tb tc)) σ H (g1 i j && g2 j k) := fun H1 u Q q =>
  ha H1 u _ fun v H2 s2 m => hb H2 (u.then s2) _ fun w H3 s3 n => ⟨i, j, m.int_inv, n.int_inv, g1 i j, rfl, by
    cases e : g1 i j with
    | false => exact ⟨false, rfl, by rw [e] at q; exact q H3 (s2.trans s3)⟩
    | true => exact hc H3 ((u.then s2).then s3) _ fun z H4 s4 o => ⟨j, k, n.int_inv, o.int_inv, g2 j k, rfl, by rw [e] at q; exact q H4 ((s2.trans s3).trans s4)⟩⟩
/-- a sign in a text -/
theorem ev_inSign {c : Nat} {z : Str} (ha : EvX K B ta σ H (.str ⟨#[c]⟩)) (hb : EvX K B tb σ H (.str z)) :
    Ev K B (tOp (fun x y H Q => ∃ (c : Nat) (z : Str), x = .str ⟨#[c]⟩ ∧ y = .str z ∧ Q (.bl (decide (c ∈ z.cps.toList))) H) ta tb) σ H (.bool (decide (c ∈ z.cps.toList))) :=
  (ex_op ha hb fun H1 _ Q q => ⟨c, z, rfl, rfl, q⟩).bool
/-- == and != of data -/
theorem ev_eqD {da db : PyData} {r : R2} (hr : r = rEqD K) (ha : Ev K B ta σ H da) (hb : Ev K B tb σ H db) (s1 : SeqAt.shaped da = true) (s2 : SeqAt.shaped db = true) : Ev K B (tOp r ta tb) σ H (.bool (PyData.eqv da db)) := by
  subst hr
  exact fun H1 u Q q => ha H1 u _ fun v H2 e2 m => hb H2 (u.then e2) _ fun w H3 e3 n => ⟨da, db, (m.keep (.of e3)).dp, n.dp, s1, s2, q _ H3 (e2.trans e3) (.bl _)⟩
theorem ev_neD {da db : PyData} {r : R2} (hr : r = rNeD K) (ha : Ev K B ta σ H da) (hb : Ev K B tb σ H db) (s1 : SeqAt.shaped da = true) (s2 : SeqAt.shaped db = true) : Ev K B (tOp r ta tb) σ H (.bool (!PyData.eqv da db)) := by
  subst hr
  exact fun H1 u Q q => ha H1 u _ fun v H2 e2 m => hb H2 (u.then e2) _ fun w H3 e3 n => ⟨da, db, (m.keep (.of e3)).dp, n.dp, s1, s2, q _ H3 (e2.trans e3) (.bl _)⟩
/-- is None, is not None, of data -/
theorem ev_isN (ha : Ev K B ta σ H d) : Ev K B (tIsN ta) σ H (.bool (match d with | .none => true | _ => false)) := fun H1 u Q q => ha H1 u _ fun v H2 s m => by
  cases m with
  | non => exact q _ H2 s (.bl true)
  | bl b => exact q _ H2 s (.bl false)
  | int i => exact q _ H2 s (.bl false)
  | str x => exact q _ H2 s (.bl false)
  | tup _ _ => exact q _ H2 s (.bl false)
theorem ev_notN (ha : Ev K B ta σ H d) : Ev K B (tNotN ta) σ H (.bool (match d with | .none => false | _ => true)) := fun H1 u Q q => ha H1 u _ fun v H2 s m => by
  cases m with
  | non => exact q _ H2 s (.bl false)
  | bl b => exact q _ H2 s (.bl true)
  | int i => exact q _ H2 s (.bl true)
  | str x => exact q _ H2 s (.bl true)
  | tup _ _ => exact q _ H2 s (.bl true)
/-- int(flag) -/
theorem ev_intB {b : Bool} (h : Ev K B ta σ H (.bool b)) : Ev K B (tCB (fun xs H Q => (∃ i, xs = [V.int i] ∧ Q (.int i) H) ∨ ∃ k, xs = [V.bl k] ∧ Q (.int (if k then 1 else 0)) H) (tCons ta tNil)) σ H (.int (if b then 1 else 0)) := fun H1 u Q q =>
  h H1 u _ fun v H2 s m => .inr ⟨b, by rw [m.bool_inv], q _ H2 s (.int _)⟩
end
end Fw
set_option Elab.async false
set_option linter.all false
set_option maxRecDepth 100000
namespace Fw
open PySem L2 Fd

/-! ### the text by places -/
def top (i : Nat) : Stmt := PySem.Challenge.pw_fitdeeds_k83_whole_grown_deeds.main.body.getD i (.Pass ⟨0, 0, 0, 0⟩)
/-- built-in names that the module leaves alone -/
structure Bi (mg : Str → Option Value) : Prop where
  isinstance_ : mg "isinstance" = none
  len_ : mg "len" = none
  all_ : mg "all" = none
  str_ : mg "str" = none
  int_ : mg "int" = none
  bool_ : mg "bool" = none
  tuple_ : mg "tuple" = none
  set_ : mg "set" = none
  dict_ : mg "dict" = none
  range_ : mg "range" = none
  sum_ : mg "sum" = none
  max_ : mg "max" = none
  min_ : mg "min" = none
  abs_ : mg "abs" = none
/-- a def of the text -/
def Dfn (K : PySem.W.Frag) (mg : Str → Option Value) (x : Str) (st : Stmt) (ps : List Str) : Prop :=
  ∃ f fd, Fun K x x st f fd ∧ mg x = some (.ref f) ∧ Binds K fd ps []
/-- a def that keeps a promise, by n calls one in another -/
def Cal (P : Program) (w : World) (K : PySem.W.Frag) (mg : Str → Option Value) (base : Heap) (n : Nat) (x : Str) (ps : List Str) (sp : Sp) : Prop :=
  ∃ f fd, FnOk P w K mg base CX0 n f fd ps sp ∧ mg x = some (.ref f) ∧ PySem.W.keepIn K (.ref f) = true ∧ Binds K fd ps []
theorem Cal.mono {P : Program} {w : World} {K : PySem.W.Frag} {mg : Str → Option Value} {base : Heap} {n m : Nat} {x : Str} {ps : List Str} {sp : Sp} (h : Cal P w K mg base n x ps sp) (hm : n ≤ m) : Cal P w K mg base m x ps sp := by
  obtain ⟨f, fd, F, r⟩ := h
  exact ⟨f, fd, F.mono hm, r⟩
theorem Cal.imp {P : Program} {w : World} {K : PySem.W.Frag} {mg : Str → Option Value} {base : Heap} {n : Nat} {x : Str} {ps : List Str} {sp sp' : Sp} (h : Cal P w K mg base n x ps sp) (hm : ∀ vs H Q E, sp' vs H Q E → sp vs H Q E) : Cal P w K mg base n x ps sp' := by
  obtain ⟨f, fd, F, r⟩ := h
  exact ⟨f, fd, F.imp hm, r⟩
theorem fn_none {P : Program} {w : World} {K : PySem.W.Frag} {mg : Str → Option Value} {base : Heap} {n : Nat} {f : Addr} {fd : FuncData} {ps : List Str} {sp : Sp} (no : ∀ vs H Q E, ¬ sp vs H Q E) : FnOk P w K mg base CX0 n f fd ps sp :=
  ⟨fun vs H Q E h => absurd h (no vs H Q E), fun A outer s H args us vs Q E _ _ _ _ h => absurd h (no vs H Q E)⟩
theorem spI_len {K : PySem.W.Frag} {rel : List PyData → PyData → Prop} {n : Nat} (h : ∀ ds d, rel ds d → ds.length = n) : ∀ vs H Q E, spI K rel vs H Q E → vs.length = n := fun vs H Q E ⟨ds, d, r, m, _⟩ => by
  rw [m.length]; exact h ds d r
theorem spL_len {K : PySem.W.Frag} {rel : List PyData → List PyData → Prop} {n : Nat} (h : ∀ ds d, rel ds d → ds.length = n) : ∀ vs H Q E, spL K rel vs H Q E → vs.length = n := fun vs H Q E ⟨ds, d, r, m, _⟩ => by
  rw [m.length]; exact h ds d r

/-! ### deeds and kinds as Python's data -/
def dd : Dd → PyData
  | .spot n => .tuple [.str "spot", .int n]
  | .book s => .tuple [.str "book", .str s]
  | .turn d => .tuple [.str "turn", dd d]
  | .dod f e => .tuple [.str "do", dd f, dd e]
  | .both f e => .tuple [.str "both", dd f, dd e]
  | .first d => .tuple [.str "first", dd d]
  | .second d => .tuple [.str "second", dd d]
def kd : Kd → PyData
  | .nm s => .str s
  | .num n => .int n
  | .way a b => .tuple [.str "way", kd a, kd b]
  | .pair a b => .tuple [.str "pair", kd a, kd b]
/-- a deed with parts: its word, its parts -/
inductive Nod : Dd → Str → List Dd → Prop
  | turn {d} : Nod (.turn d) "turn" [d]
  | first {d} : Nod (.first d) "first" [d]
  | second {d} : Nod (.second d) "second" [d]
  | dod {d e} : Nod (.dod d e) "do" [d, e]
  | both {d e} : Nod (.both d e) "both" [d, e]
theorem nod_cases (d : Dd) : (∃ n, d = .spot n) ∨ (∃ s, d = .book s) ∨ ∃ w ps, Nod d w ps := by
  cases d
  · exact .inl ⟨_, rfl⟩
  · exact .inr (.inl ⟨_, rfl⟩)
  · exact .inr (.inr ⟨_, _, .turn⟩)
  · exact .inr (.inr ⟨_, _, .dod⟩)
  · exact .inr (.inr ⟨_, _, .both⟩)
  · exact .inr (.inr ⟨_, _, .first⟩)
  · exact .inr (.inr ⟨_, _, .second⟩)
section
variable {d : Dd} {x : Str} {ps : List Dd}
theorem Nod.dd (h : Nod d x ps) : Fw.dd d = .tuple (.str x :: ps.map Fw.dd) := by cases h <;> rfl
theorem Nod.moved (h : Nod d x ps) (g m : Nat) : Fw.dd (d.moved g m) = .tuple (.str x :: ps.map fun p => Fw.dd (p.moved g m)) := by cases h <;> rfl
theorem Nod.depth (h : Nod d x ps) : ∀ p ∈ ps, p.depth + 1 ≤ d.depth := by
  cases h <;> intro p hp <;> simp only [List.mem_cons, List.not_mem_nil, or_false] at hp <;> (try rcases hp with rfl | rfl) <;> (try subst hp) <;> simp only [Dd.depth] <;> omega
theorem Nod.spot (h : Nod d x ps) : decide (x = "spot") = false := by cases h <;> decide +kernel
theorem Nod.book (h : Nod d x ps) : decide (x = "book") = false := by cases h <;> decide +kernel
theorem Nod.hole (h : Nod d x ps) : decide (x = "hole") = false := by cases h <;> decide +kernel
theorem Nod.bh (h : Nod d x ps) : decide (x ∈ (["book", "hole"] : List Str)) = false := by cases h <;> decide +kernel
theorem Nod.sb (h : Nod d x ps) : decide (x ∈ (["spot", "book"] : List Str)) = false := by cases h <;> decide +kernel
theorem Nod.sbh (h : Nod d x ps) : decide (x ∈ (["spot", "book", "hole"] : List Str)) = false := by cases h <;> decide +kernel
theorem Nod.len (h : Nod d x ps) : ps.length ≤ 2 := by cases h <;> simp
end
theorem inv1 {K : PySem.W.Frag} {H : Hp} {vs : List V} {a : PyData} (h : ImAll K H vs [a]) : ∃ x, vs = [x] ∧ Im K H x a := by
  cases h with | cons h1 h2 => cases h2; exact ⟨_, rfl, h1⟩
theorem inv2 {K : PySem.W.Frag} {H : Hp} {vs : List V} {a b : PyData} (h : ImAll K H vs [a, b]) : ∃ x y, vs = [x, y] ∧ Im K H x a ∧ Im K H y b := by
  cases h with | cons h1 h2 => obtain ⟨y, rfl, hy⟩ := inv1 h2; exact ⟨_, y, rfl, h1, hy⟩
theorem inv3 {K : PySem.W.Frag} {H : Hp} {vs : List V} {a b c : PyData} (h : ImAll K H vs [a, b, c]) : ∃ x y z, vs = [x, y, z] ∧ Im K H x a ∧ Im K H y b ∧ Im K H z c := by
  cases h with | cons h1 h2 => obtain ⟨y, z, rfl, hy, hz⟩ := inv2 h2; exact ⟨_, y, z, rfl, h1, hy, hz⟩
theorem inv4 {K : PySem.W.Frag} {H : Hp} {vs : List V} {a b c d : PyData} (h : ImAll K H vs [a, b, c, d]) : ∃ x y z u, vs = [x, y, z, u] ∧ Im K H x a ∧ Im K H y b ∧ Im K H z c ∧ Im K H u d := by
  cases h with | cons h1 h2 => obtain ⟨y, z, u, rfl, hy, hz, hu⟩ := inv3 h2; exact ⟨_, y, z, u, rfl, h1, hy, hz, hu⟩
section
variable {K : PySem.W.Frag} {B H : Hp} {σ : St} {ta tb te : TE} {v : V}
/-- deed[0] -/
theorem ev_word {i : Nat} {x : Str} {r : List PyData} (e : σ[i]? = some (some v)) (h : Im K H v (.tuple (.str x :: r))) : Ev K B (tOp (rIxT K) (tVar i) (tC (.int 0))) σ H (.str x) :=
  ev_ix (ev_var e h) ev_int (atI_nat (j := 0) rfl)
/-- deed[0] == 'word' -/
theorem et_word {i : Nat} {x : Str} {r : List PyData} {s : Str} {b : Bool} (e : σ[i]? = some (some v)) (h : Im K H v (.tuple (.str x :: r))) (hb : decide (x = s) = b) : EvT K B (tTest (tOp rEq (tOp (rIxT K) (tVar i) (tC (.int 0))) (tC (.str s)))) σ H b :=
  (et_test (ev_eqS (ev_word e h) ev_str)).is hb
theorem et_in2 {i : Nat} {x : Str} {r : List PyData} {s t : Str} {b : Bool} (e : σ[i]? = some (some v)) (h : Im K H v (.tuple (.str x :: r))) (hb : decide (x ∈ [s, t]) = b) :
    EvT K B (tTest (tOp (rIn K false) (tOp (rIxT K) (tVar i) (tC (.int 0))) (tTup (tCons (tC (.str s)) (tCons (tC (.str t)) tNil))))) σ H b :=
  (et_test (ev_inT (ss := [s, t]) (ev_word e h) (ev_tup (ea_cons ev_str (ea_cons ev_str ea_nil)) (by simp)))).is hb
/-- deed[1:] -/
theorem ev_tail {i : Nat} {x : PyData} {r : List PyData} (e : σ[i]? = some (some v)) (h : Im K H v (.tuple (x :: r))) : Ev K B (tSl (rSlA K) (tVar i) (tPart (tC (.int 1))) tNoPart) σ H (.tuple r) := by
  have z := ev_sl (K := K) (B := B) (ev_var e h) (eo_some (i := 1) ev_int) eo_none
  refine z.is ?_
  congr 1
  unfold cutD
  rw [show HT.sIx (x :: r).length 0 (some 1) = 1 by rw [show (1 : Int) = ((1 : Nat) : Int) from rfl, HT.sIx_nat]; simp, HT.sIx_none]
  simp
/-- tuple([f(part) for part in deed[1:]]) -/
theorem ev_tupL {ds : List PyData} (h : EvL K B ta σ H ds) : Ev K B (tCB (fun xs H Q => ∃ p ys, xs = [V.ref p] ∧ ((SqL K H p ys ∧ ∀ l, H l = none → Q (.ref l) (upd H l (.tup ys))) ∨ (SqT K H p ys ∧ Q (.ref p) H))) (tCons ta tNil)) σ H (.tuple ds) :=
  ev_tupOf (fun p ys H Q a b => ⟨p, ys, rfl, .inl ⟨a, b⟩⟩) h
end
/-! ### moved -/
abbrev s_moved : Stmt := top 15
abbrev nm_moved : List Str := ["deed", "given", "by", "part"]
theorem sc_moved : FnScope nm_moved ["deed", "given", "by"] (defScope s_moved) := ⟨rfl, rfl, rfl, by decide +kernel, rfl, by decide +kernel, by decide +kernel⟩
def rMoved (n : Nat) : List PyData → PyData → Prop := fun ds r => ∃ (d : Dd) (g m : Nat), d.depth ≤ n ∧ ds = [dd d, .int g, .int m] ∧ r = dd (d.moved g m)
section
variable {P : Program} {w : World} {K : PySem.W.Frag} {mg : Str → Option Value} {base : Heap}
theorem moved_ok (T : Bi mg) (D : Dfn K mg "moved" s_moved ["deed", "given", "by"]) : ∀ n, Cal P w K mg base n "moved" ["deed", "given", "by"] (spI K (rMoved n)) := by
  obtain ⟨f, fd, F, m_moved, b_moved⟩ := D
  have k_moved := F.kp
  intro n
  refine ⟨f, fd, ?_, m_moved, k_moved, b_moved⟩
  induction n with
  | zero => exact fn_none fun vs H Q E ⟨ds, d, ⟨x, _, _, hx, _⟩, _⟩ => absurd hx (by have := x.depth_pos; omega)
  | succ n G_moved =>
    refine F.ok sc_moved (spI_len fun ds d ⟨_, _, _, _, e, _⟩ => by rw [e]; rfl) (fun cdv A outer s H vs Q E hr h => ?_)
    obtain ⟨ds, r, ⟨d, g, m, hd, rfl, rfl⟩, hm, q⟩ := h
    obtain ⟨v, vg, vm, rfl, h0, h1, h2⟩ := inv3 hm
    refine ⟨_, (pss_cons (ps_if (pt_cmpR op_eq (pe_ix ix_tup (pv 0) pe_int (fun _ _ => rfl)) pe_str (nomark _))
 (pss_cons (ps_if (pt_cmpR op_lt (pe_ix ix_tup (pv 0) pe_int (fun _ _ => rfl)) (pv 1) (nomark _))
 (pss_one (ps_ret (pv 0)))
 pss_nil)
 (pss_one (ps_ret (pe_tup (pa_cons pe_str (pa_cons (pe_op op_add (pe_ix ix_tup (pv 0) pe_int (fun _ _ => rfl)) (pv 2)) pa_nil))))))
 pss_nil)
 (pss_cons (ps_if (pt_cmpR op_in_seq (pe_ix ix_tup (pv 0) pe_int (fun _ _ => rfl)) (pe_tup (pa_cons pe_str (pa_cons pe_str pa_nil))) rfl)
 (pss_one (ps_ret (pv 0)))
 pss_nil)
 (pss_one (ps_ret (pe_op op_catA (pe_tup (pa_cons (pe_ix ix_tup (pv 0) pe_int (fun _ _ => rfl)) pa_nil)) (pe_callTy call_tuple_of rfl T.tuple_ (by decide +kernel) (pa_cons (pe_lc (own := [("part", 3)]) (g := gName 3) (tt := tYes) rfl sc_moved.nd (pi_tup (pe_slice sl_tupA (pv 0) (po_some pe_int) po_none)) (blkOk_by (own := [("part", 3)]) (N := nm_moved) (sc := defScope s_moved) (by decide +kernel)) (fun _ _ _ _ _ => (pg_name (i := 3) sc_moved.nd rfl (Or.inl rfl))) (fun _ _ _ _ _ => pts_nil) (fun _ _ _ _ _ => (pe_call G_moved hr rfl m_moved k_moved b_moved .nil pass0 (pa_cons (pv 3) (pa_cons (pv 1) (pa_cons (pv 2) pa_nil)))))) pa_nil))))))), ?_⟩
    refine Go.run (K := K) (B := H) ?_ (.refl H)
    have fin : ∀ v H1, Up K H H H1 → Im K H1 v (dd (d.moved g m)) → Q v H1 := fun v H1 u hv => q v H1 u.1 hv
    rcases nod_cases d with ⟨n, rfl⟩ | ⟨x, rfl⟩ | ⟨x, ps, hn⟩
    · refine go_ifs (et_word rfl h0 (b := true) (by decide +kernel)) (fun _ => ?_) (fun z => nomatch z)
      refine go_ifs (et_test (ev_lt (ev_ix (ev_var rfl h0) ev_int rfl) (ev_var rfl h1))) (fun z => ?_) (fun z => ?_)
      · refine go_ret (ev_var rfl h0) ?_
        rw [Dd.moved, if_pos (by have := of_decide_eq_true z; omega)] at fin
        exact fin
      · refine go_ret (ev_tup (ea_cons ev_str (ea_cons (ev_add (ev_ix (ev_var rfl h0) ev_int rfl) (ev_var rfl h2)) ea_nil)) (by simp)) ?_
        rw [Dd.moved, if_neg (by have := of_decide_eq_false z; omega)] at fin
        exact fin
    · refine go_ifs (et_word rfl h0 (b := false) (by decide +kernel)) (fun z => nomatch z) (fun _ => ?_)
      refine go_ifs (et_in2 rfl h0 (b := true) (by decide +kernel)) (fun _ => ?_) (fun z => nomatch z)
      exact go_ret (ev_var rfl h0) fin
    · rw [hn.dd] at h0
      rw [hn.moved] at fin
      refine go_ifs (et_word rfl h0 hn.spot) (fun z => nomatch z) (fun _ => ?_)
      refine go_ifs (et_in2 rfl h0 hn.bh) (fun z => nomatch z) (fun _ => ?_)
      refine go_ret (ev_cat (ev_tup (ea_cons (ev_word rfl h0) ea_nil) (by simp)) (ev_tupL (el_lcN (ev_tail rfl h0) ?_ ?_ fun i d' r v' H1 h1' h2' u m' => ?_)) ?_) fin
      · have := hn.len; simp; omega
      · simp
      · rw [List.getElem?_map] at h1' h2'
        cases e : ps[i]? with
        | none => rw [e] at h1'; cases h1'
        | some p =>
          rw [e] at h1' h2'
          cases h1'
          cases h2'
          exact ev_call (ea_cons (ev_var rfl m') (ea_cons (ev_var rfl (h1.keep u.2)) (ea_cons (ev_var rfl (h2.keep u.2)) ea_nil))) ⟨p, g, m, by have := hn.depth p (List.mem_of_getElem? e); omega, rfl, rfl⟩
      · have := hn.len; simp; omega
end
end Fw
set_option Elab.async false
set_option linter.all false
set_option maxRecDepth 100000
set_option maxHeartbeats 1000000
namespace Fw
open PySem L2 Fd

/-! ### the module's constants -/
def strsT (K : PySem.W.Frag) (mg : Str → Option Value) (x : Str) (ss : List Str) : Prop := ∃ a, mg x = some (.ref a) ∧ ∀ H, SqT K H a (ss.map V.str)
structure Tx (K : PySem.W.Frag) (mg : Str → Option Value) : Prop extends Bi mg where
  SMALL : ∃ t, mg "SMALL" = some (.str "abcdefghijklmnopqrstuvwxyz" t)
  GREAT : ∃ t, mg "GREAT" = some (.str "ABCDEFGHIJKLMNOPQRSTUVWXYZ" t)
  LETTERS : ∃ t, mg "LETTERS" = some (.str "ABCDEFGHIJKLMNOPQRSTUVWXYZ" t)
  MOST_LETTERS : ∃ t, mg "MOST_LETTERS" = some (.int 8 t)
  ONE_PART : strsT K mg "ONE_PART" ["turn", "first", "second"]
  TWO_PARTS : strsT K mg "TWO_PARTS" ["do", "both"]
  ENDS : strsT K mg "ENDS" ["spot", "book", "hole"]
theorem ev_strsT {K : PySem.W.Frag} {B H : Hp} {σ : St} {a : Addr} {ss : List Str} (h : ∀ H, SqT K H a (ss.map V.str)) : Ev K B (tC (.ref a)) σ H (.tuple (ss.map .str)) := fun H1 u Q q => q _ H1 (.refl _) (.tup (h H1) (strs_im ss))

/-! ### types of data -/
theorem k_ss : kitB "str" "str" = some true := by decide +kernel
theorem k_ii : kitB "int" "int" = some true := by decide +kernel
theorem k_ib : kitB "int" "bool" = some false := by decide +kernel
theorem k_tt : kitB "tuple" "tuple" = some true := by decide +kernel
theorem k_ts : kitB "tuple" "str" = some false := by decide +kernel
theorem k_ti : kitB "tuple" "int" = some false := by decide +kernel
theorem k_si : kitB "str" "int" = some false := by decide +kernel
theorem k_st : kitB "str" "tuple" = some false := by decide +kernel
theorem k_is : kitB "int" "str" = some false := by decide +kernel
theorem k_it : kitB "int" "tuple" = some false := by decide +kernel
theorem k_bb : kitB "bool" "bool" = some true := by decide +kernel
/-! ### names -/
def PN (s : Str) : Prop := 1 ≤ s.length ∧ s.length ≤ 8 ∧ ∀ c ∈ s.cps.toList, 97 ≤ c ∧ c ≤ 122
theorem small_mem {c : Nat} (h : 97 ≤ c ∧ c ≤ 122) : decide (c ∈ ("abcdefghijklmnopqrstuvwxyz" : Str).cps.toList) = true := by
  have : ∀ k : Fin 26, decide ((k.val + 97) ∈ ("abcdefghijklmnopqrstuvwxyz" : Str).cps.toList) = true := by decide +kernel
  have z := this ⟨c - 97, by omega⟩
  rw [show (c - 97) + 97 = c by omega] at z
  exact z
theorem great_mem {c : Nat} (h : 97 ≤ c ∧ c ≤ 122) : decide (c ∈ ("ABCDEFGHIJKLMNOPQRSTUVWXYZ" : Str).cps.toList) = false := by
  have : ∀ k : Fin 26, decide ((k.val + 97) ∈ ("ABCDEFGHIJKLMNOPQRSTUVWXYZ" : Str).cps.toList) = false := by decide +kernel
  have z := this ⟨c - 97, by omega⟩
  rw [show (c - 97) + 97 = c by omega] at z
  exact z
def namesD (p : Str → Prop) : Dd → Prop
  | .spot _ => True
  | .book s => p s
  | .turn d => namesD p d
  | .dod f e => namesD p f ∧ namesD p e
  | .both f e => namesD p f ∧ namesD p e
  | .first d => namesD p d
  | .second d => namesD p d
def namesK (p : Str → Prop) : Kd → Prop
  | .nm s => p s
  | .num _ => True
  | .way a b => namesK p a ∧ namesK p b
  | .pair a b => namesK p a ∧ namesK p b
theorem Nod.names {d : Dd} {x : Str} {ps : List Dd} (h : Nod d x ps) {p : Str → Prop} (hd : namesD p d) : ∀ q ∈ ps, namesD p q := by
  cases h <;> intro q hq <;> simp only [List.mem_cons, List.not_mem_nil, or_false] at hq
  · subst hq; exact hd
  · subst hq; exact hd
  · subst hq; exact hd
  · rcases hq with rfl | rfl; exact hd.1; exact hd.2
  · rcases hq with rfl | rfl; exact hd.1; exact hd.2

variable {P : Program} {w : World} {K : PySem.W.Frag} {mg : Str → Option Value} {base : Heap}
abbrev s_is_plain_name : Stmt := top 4
abbrev nm_is_plain_name : List Str := ["thing", "sign"]
theorem sc_is_plain_name : FnScope nm_is_plain_name ["thing"] (defScope s_is_plain_name) := ⟨rfl, rfl, rfl, by decide +kernel, rfl, by decide +kernel, by decide +kernel⟩
def rPlain : List PyData → PyData → Prop := fun ds r => ∃ s, PN s ∧ ds = [.str s] ∧ r = .bool true
theorem plain_ok (T : Tx K mg) (D : Dfn K mg "is_plain_name" s_is_plain_name ["thing"]) : Cal P w K mg base 1 "is_plain_name" ["thing"] (spI K rPlain) := by
  obtain ⟨f, fd, F, m, b⟩ := D
  obtain ⟨tS, g_SMALL⟩ := T.SMALL
  obtain ⟨tM, g_MOST_LETTERS⟩ := T.MOST_LETTERS
  refine ⟨f, fd, F.ok sc_is_plain_name (spI_len fun ds d ⟨_, _, e, _⟩ => by rw [e]; rfl) (fun cdv A outer s H vs Q E hr h => ?_), m, F.kp, b⟩
  obtain ⟨ds, r, ⟨x, ⟨n1, n2, n3⟩, rfl, rfl⟩, hm, q⟩ := h
  obtain ⟨v, rfl, h0⟩ := inv1 hm
  refine ⟨_, (pss_cons (ps_if (PW.pt (pw_or (pt_not (pt_val (pe_callB call_isi rfl T.isinstance_ (by decide +kernel) (pa_cons (pv 0) (pa_cons (pe_bltn (v := .ty "str") rfl T.str_ (by decide +kernel) rfl) pa_nil))))) (pw_or1 (pt_not (pt_chain op_le op_le pe_int (pe_callB call_len_str rfl T.len_ (by decide +kernel) (pa_cons (pv 0) pa_nil)) (pe_glob (v := .int 8) rfl g_MOST_LETTERS ⟨_, rfl⟩))))))
 (pss_one (ps_ret pe_bl))
 pss_nil)
 (pss_one (ps_ret (pe_callB (cr_all rfl) rfl T.all_ (by decide +kernel) (pa_cons (pe_lc (own := [("sign", 1)]) (g := gName 1) (tt := tYes) rfl sc_is_plain_name.nd (pi_str (pv 0)) (blkOk_by (own := [("sign", 1)]) (N := nm_is_plain_name) (sc := defScope s_is_plain_name) (by decide +kernel)) (fun _ _ _ _ _ => (pg_name (i := 1) sc_is_plain_name.nd rfl (Or.inl rfl))) (fun _ _ _ _ _ => pts_nil) (fun _ _ _ _ _ => (pe_cmpR (op_in_sign) (pv 1) (pe_glob (v := .str "abcdefghijklmnopqrstuvwxyz") rfl g_SMALL ⟨_, rfl⟩) rfl))) pa_nil))))), ?_⟩
  refine Go.run (K := K) (B := H) ?_ (.refl H)
  refine go_ifs (b := false) ((et_or (et_not (et_B (ev_isi (ev_var rfl h0) k_ss))) fun _ => et_not (et_chain (g1 := fun i j => decide (i ≤ j)) (g2 := fun i j => decide (i ≤ j)) ev_int (ev_lenS (ev_var rfl h0) (by omega)) (ex_c.int))).is ?_) (fun z => nomatch z) (fun _ => ?_)
  · show (!true || !(decide ((1 : Int) ≤ (x.length : Int)) && decide ((x.length : Int) ≤ 8))) = false
    rw [decide_eq_true (by omega), decide_eq_true (by omega)]; rfl
  · refine go_ret (ev_all (bs := List.replicate x.cps.size true) (el_lcS (ev_var rfl h0) (by show x.length < 100000; omega) (by simp) fun i c r H1 hc hr u => ?_)) fun v H1 u hv => q v H1 u.1 ?_
    · have hr' : r = .bool true := by
        rw [List.map_replicate, List.getElem?_replicate] at hr
        split at hr <;> cases hr
        rfl
      subst hr'
      have hcm : c ∈ x.cps.toList := by
        rw [← Array.getElem?_toList] at hc
        exact List.mem_of_getElem? hc
      exact (ev_inSign (ex_var rfl) ex_c).is (by rw [small_mem (n3 c hcm)])
    · have e : (List.replicate x.cps.size true).all id = true := by simp
      rw [e] at hv
      exact hv
abbrev s_is_any_name : Stmt := top 5
abbrev nm_is_any_name : List Str := ["thing"]
theorem sc_is_any_name : FnScope nm_is_any_name ["thing"] (defScope s_is_any_name) := ⟨rfl, rfl, rfl, by decide +kernel, rfl, by decide +kernel, by decide +kernel⟩
def rAny : List PyData → PyData → Prop := fun ds r => ∃ s, PN s ∧ ds = [.str s] ∧ r = .bool false
theorem any_ok (T : Tx K mg) (D : Dfn K mg "is_any_name" s_is_any_name ["thing"]) : Cal P w K mg base 1 "is_any_name" ["thing"] (spI K rAny) := by
  obtain ⟨f, fd, F, m, b⟩ := D
  obtain ⟨tG, g_GREAT⟩ := T.GREAT
  refine ⟨f, fd, F.ok sc_is_any_name (spI_len fun ds d ⟨_, _, e, _⟩ => by rw [e]; rfl) (fun cdv A outer s H vs Q E hr h => ?_), m, F.kp, b⟩
  obtain ⟨ds, r, ⟨x, ⟨n1, n2, n3⟩, rfl, rfl⟩, hm, q⟩ := h
  obtain ⟨v, rfl, h0⟩ := inv1 hm
  refine ⟨_, (pss_one (ps_ret (pe_and (pe_callB call_isi rfl T.isinstance_ (by decide +kernel) (pa_cons (pv 0) (pa_cons (pe_bltn (v := .ty "str") rfl T.str_ (by decide +kernel) rfl) pa_nil))) (pe_and (pe_cmpR op_eq (pe_callB call_len_str rfl T.len_ (by decide +kernel) (pa_cons (pv 0) pa_nil)) pe_int (nomark _)) (pe_one (pe_cmpR (op_in_sign) (pv 0) (pe_glob (v := .str "ABCDEFGHIJKLMNOPQRSTUVWXYZ") rfl g_GREAT ⟨_, rfl⟩) rfl)))))), ?_⟩
  refine Go.run (K := K) (B := H) ?_ (.refl H)
  refine go_ret (d := .bool false) ((ev_andV (b := false) (ev_isi (ev_var rfl h0) k_ss) fun _ => (ev_andV (b := false) (ev_eqI (ev_lenS (ev_var rfl h0) (by omega)) ev_int) fun z => ?_).is (by rw [Bool.and_false])).is (by rfl)) fun v H1 u hv => q v H1 u.1 hv
  have hl : x.length = 1 := by have := of_decide_eq_true z; omega
  have ⟨c, hc⟩ : ∃ c, x = ⟨#[c]⟩ := by
    obtain ⟨⟨l⟩⟩ := x
    match l, hl with
    | [c], _ => exact ⟨c, rfl⟩
  subst hc
  have hv := h0.str_inv
  subst hv
  exact (ev_inSign (ex_var rfl) ex_c).is (by rw [great_mem (n3 c (by simp))])
abbrev s_is_number : Stmt := top 9
abbrev nm_is_number : List Str := ["thing"]
theorem sc_is_number : FnScope nm_is_number ["thing"] (defScope s_is_number) := ⟨rfl, rfl, rfl, by decide +kernel, rfl, by decide +kernel, by decide +kernel⟩
def rNumber : List PyData → PyData → Prop := fun ds r => ∃ n : Nat, ds = [.int n] ∧ r = .bool true
theorem number_ok (T : Tx K mg) (D : Dfn K mg "is_number" s_is_number ["thing"]) : Cal P w K mg base 1 "is_number" ["thing"] (spI K rNumber) := by
  obtain ⟨f, fd, F, m, b⟩ := D
  refine ⟨f, fd, F.ok sc_is_number (spI_len fun ds d ⟨_, e, _⟩ => by rw [e]; rfl) (fun cdv A outer s H vs Q E hr h => ?_), m, F.kp, b⟩
  obtain ⟨ds, r, ⟨n, rfl, rfl⟩, hm, q⟩ := h
  obtain ⟨v, rfl, h0⟩ := inv1 hm
  refine ⟨_, (pss_one (ps_ret (pe_and (pe_callB call_isi rfl T.isinstance_ (by decide +kernel) (pa_cons (pv 0) (pa_cons (pe_bltn (v := .ty "int") rfl T.int_ (by decide +kernel) rfl) pa_nil))) (pe_and (pe_not (pe_callB call_isi rfl T.isinstance_ (by decide +kernel) (pa_cons (pv 0) (pa_cons (pe_bltn (v := .ty "bool") rfl T.bool_ (by decide +kernel) rfl) pa_nil)))) (pe_one (pe_cmpR op_ge (pv 0) pe_int (nomark _))))))), ?_⟩
  refine Go.run (K := K) (B := H) ?_ (.refl H)
  refine go_ret (d := .bool true) ((ev_andV (b := true) (ev_isi (ev_var rfl h0) k_ii) fun _ => (ev_andV (b := true) (ev_notV (ev_isi (ev_var rfl h0) k_ib)) fun _ => (ev_ge (ev_var rfl h0) ev_int).is ?_).is rfl).is rfl) fun v H1 u hv => q v H1 u.1 hv
  rw [decide_eq_true (by omega)]
abbrev s_is_begun : Stmt := top 10
abbrev nm_is_begun : List Str := ["thing", "size", "words"]
theorem sc_is_begun : FnScope nm_is_begun ["thing", "size", "words"] (defScope s_is_begun) := ⟨rfl, rfl, rfl, by decide +kernel, rfl, by decide +kernel, by decide +kernel⟩
def rBegun : List PyData → PyData → Prop := fun ds r => ∃ (x : Str) (t : List PyData) (n : Int) (ss : List Str), ds = [.tuple (.str x :: t), .int n, .tuple (ss.map .str)] ∧ r = .bool (decide ((t.length : Int) + 1 = n) && decide (x ∈ ss))
theorem begun_ok (T : Tx K mg) (D : Dfn K mg "is_begun" s_is_begun ["thing", "size", "words"]) : Cal P w K mg base 1 "is_begun" ["thing", "size", "words"] (spI K rBegun) := by
  obtain ⟨f, fd, F, m, b⟩ := D
  refine ⟨f, fd, F.ok sc_is_begun (spI_len fun ds d ⟨_, _, _, _, e, _⟩ => by rw [e]; rfl) (fun cdv A outer s H vs Q E hr h => ?_), m, F.kp, b⟩
  obtain ⟨ds, r, ⟨x, t, n, ss, rfl, rfl⟩, hm, q⟩ := h
  obtain ⟨v, v1, v2, rfl, h0, h1, h2⟩ := inv3 hm
  refine ⟨_, (pss_one (ps_ret (pe_and (pe_callB call_isi rfl T.isinstance_ (by decide +kernel) (pa_cons (pv 0) (pa_cons (pe_bltn (v := .ty "tuple") rfl T.tuple_ (by decide +kernel) rfl) pa_nil))) (pe_and (pe_cmpR op_eq (pe_callB call_len_seq rfl T.len_ (by decide +kernel) (pa_cons (pv 0) pa_nil)) (pv 1) (nomark _)) (pe_and (pe_callB call_isi rfl T.isinstance_ (by decide +kernel) (pa_cons (pe_ix ix_tup (pv 0) pe_int (fun _ _ => rfl)) (pa_cons (pe_bltn (v := .ty "str") rfl T.str_ (by decide +kernel) rfl) pa_nil))) (pe_one (pe_cmpR op_in_seq (pe_ix ix_tup (pv 0) pe_int (fun _ _ => rfl)) (pv 2) rfl))))))), ?_⟩
  refine Go.run (K := K) (B := H) ?_ (.refl H)
  refine go_ret (ev_andV (ev_isi (ev_var rfl h0) k_tt) fun _ => ev_andV (ev_eqI (ev_lenT (ev_var rfl h0)) (ev_var rfl h1)) fun _ => ev_andV (ev_isi (ev_word rfl h0) k_ss) fun _ => ev_inT (ev_word rfl h0) (ev_var rfl h2)) fun v H1 u hv => q v H1 u.1 ?_
  rw [Bool.true_and, Bool.true_and] at hv
  have e : decide ((((PyData.str x :: t).length : Nat) : Int) = n) = decide ((t.length : Int) + 1 = n) := by rw [List.length_cons]; rfl
  rw [e] at hv
  exact hv
end Fw
set_option Elab.async false
set_option linter.all false
namespace Fw
open PySem Fd Kd

/-! ### small kinds all along -/
structure KOk (N : Nat) (k : Kd) : Prop where
  dp : k.depth ≤ 50
  nm : namesK PN k
  lo : Fd.lo N k
structure SOk (N : Nat) (S : Bec) : Prop where
  each : ∀ p ∈ S, KOk N p.2 ∧ p.1 ≤ N
  nd : (S.map Prod.fst).Nodup
theorem KOk.mono {N M : Nat} (h : N ≤ M) {k : Kd} (a : KOk N k) : KOk M k := ⟨a.dp, a.nm, a.lo.mono h⟩
theorem SOk.mono {N M : Nat} (h : N ≤ M) {S : Bec} (a : SOk N S) : SOk M S := ⟨fun p hp => ⟨(a.each p hp).1.mono h, Nat.le_trans (a.each p hp).2 h⟩, a.nd⟩
theorem SOk.nil {N : Nat} : SOk N [] := ⟨(fun p hp => nomatch hp), List.nodup_nil⟩
theorem KOk.way {N : Nat} {a b : Kd} (h : KOk N (.way a b)) : KOk N a ∧ KOk N b := ⟨⟨by have := h.dp; simp only [Kd.depth] at this; omega, h.nm.1, h.lo.1⟩, ⟨by have := h.dp; simp only [Kd.depth] at this; omega, h.nm.2, h.lo.2⟩⟩
theorem KOk.pair {N : Nat} {a b : Kd} (h : KOk N (.pair a b)) : KOk N a ∧ KOk N b := ⟨⟨by have := h.dp; simp only [Kd.depth] at this; omega, h.nm.1, h.lo.1⟩, ⟨by have := h.dp; simp only [Kd.depth] at this; omega, h.nm.2, h.lo.2⟩⟩
theorem Sn.ok {N : Nat} {S : Bec} (s : SOk N S) {m : Nat} {k k' : Kd} (h : Sn S m k k') : KOk N k → KOk N k' := by
  induction h with
  | stop _ => exact id
  | go e _ ih => intro _; exact ih (s.each _ (lookup_in e)).1
theorem lookup_none_mem {S : Bec} {n : Nat} (h : S.lookup n = none) : n ∉ S.map Prod.fst := by
  induction S with
  | nil => intro z; cases z
  | cons p r ih =>
    obtain ⟨a, b⟩ := p
    rw [List.lookup_cons] at h
    intro z
    split at h
    · cases h
    · rename_i q
      rcases List.mem_cons.mp z with z | z
      · subst z; simp at q
      · exact ih h z
theorem SOk.snoc {N : Nat} {S : Bec} (s : SOk N S) {n : Nat} {t : Kd} (hn : S.lookup n = none) (h1 : n ≤ N) (h2 : KOk N t) : SOk N (S ++ [(n, t)]) := by
  refine ⟨fun p hp => ?_, ?_⟩
  · rcases List.mem_append.mp hp with hp | hp
    · exact s.each p hp
    · rw [List.mem_singleton.mp hp]; exact ⟨h2, h1⟩
  · rw [List.map_append, List.nodup_append]
    refine ⟨s.nd, by simp, fun a ha b hb e => ?_⟩
    simp at hb
    subst e hb
    exact lookup_none_mem hn ha
theorem nodup_le : ∀ (n : Nat) (l : List Nat), l.Nodup → (∀ x ∈ l, x ≤ n) → l.length ≤ n + 1
  | 0, l, hn, h => by
    match l, hn, h with
    | [], _, _ => exact Nat.zero_le _
    | [x], _, _ => exact Nat.le_refl _
    | x :: y :: r, hn, h =>
      have h1 := h x (by simp)
      have h2 := h y (by simp)
      rw [List.nodup_cons] at hn
      exact absurd (by simp; omega) hn.1
  | n + 1, l, hn, h => by
    have e1 : (l.erase (n + 1)).length ≤ n + 1 := nodup_le n _ (hn.erase _) fun x hx => by
      have := (List.Nodup.mem_erase_iff hn).mp hx
      have := h x this.2
      omega
    have : l.length ≤ (l.erase (n + 1)).length + 1 := by
      rw [List.length_erase]
      split <;> omega
    omega
theorem SOk.len {N : Nat} {S : Bec} (s : SOk N S) : S.length ≤ N + 1 := by
  have := nodup_le N (S.map Prod.fst) s.nd fun x hx => by
    obtain ⟨p, hp, rfl⟩ := List.mem_map.mp hx
    exact (s.each p hp).2
  rwa [List.length_map] at this
theorem Al.ok {N c m : Nat} {S S' : Bec} {rows : Rows} {r : Bool} (h : Al c m S rows r S') : SOk N S → (∀ r ∈ rows, KOk N r.1 ∧ KOk N r.2) → SOk N S' := by
  induction h with
  | nil => intro s _; exact s
  | same _ _ _ ih => intro s hr; exact ih s fun r h => hr r (List.mem_cons_of_mem _ h)
  | left h1 h2 h3 h4 _ ih =>
    intro s hr
    have a := Sn.ok s h1 (hr _ List.mem_cons_self).1
    have b := Sn.ok s h2 (hr _ List.mem_cons_self).2
    exact ih (s.snoc (h1.last _ rfl) a.lo b) fun r h => hr r (List.mem_cons_of_mem _ h)
  | right h1 h2 h3 h4 _ ih =>
    intro s hr
    have a := Sn.ok s h1 (hr _ List.mem_cons_self).1
    have b := Sn.ok s h3 (hr _ List.mem_cons_self).2
    exact ih (s.snoc (h3.last _ rfl) b.lo a) fun r h => hr r (List.mem_cons_of_mem _ h)
  | way h1 h2 _ _ ih =>
    intro s hr
    have a := (Sn.ok s h1 (hr _ List.mem_cons_self).1).way
    have b := (Sn.ok s h2 (hr _ List.mem_cons_self).2).way
    refine ih s fun r h => ?_
    rcases List.mem_cons.mp h with rfl | h
    · exact ⟨a.1, b.1⟩
    · rcases List.mem_cons.mp h with rfl | h
      · exact ⟨a.2, b.2⟩
      · exact hr r (List.mem_cons_of_mem _ h)
  | pair h1 h2 _ _ ih =>
    intro s hr
    have a := (Sn.ok s h1 (hr _ List.mem_cons_self).1).pair
    have b := (Sn.ok s h2 (hr _ List.mem_cons_self).2).pair
    refine ih s fun r h => ?_
    rcases List.mem_cons.mp h with rfl | h
    · exact ⟨a.1, b.1⟩
    · rcases List.mem_cons.mp h with rfl | h
      · exact ⟨a.2, b.2⟩
      · exact hr r (List.mem_cons_of_mem _ h)
  | name _ _ _ ih => intro s hr; exact ih s fun r h => hr r (List.mem_cons_of_mem _ h)
  | clash _ _ _ _ _ => intro s _; exact s
/-- how many turns and boths stand on top of each other -/
def chain : Dd → Nat
  | .turn d => chain d + 1
  | .both a b => max (chain a) (chain b) + 1
  | _ => 0
def Chs (B : Nat) : Dd → Prop
  | .spot _ => True
  | .book _ => True
  | .turn d => chain d + 1 ≤ B ∧ Chs B d
  | .both a b => max (chain a) (chain b) + 1 ≤ B ∧ Chs B a ∧ Chs B b
  | .dod f e => Chs B f ∧ Chs B e
  | .first d => Chs B d
  | .second d => Chs B d
theorem has_chs {bk : Bk} {c : Nat} {Γ : List Kd} {d : Dd} {K : Kd} (h : Has (fun k => Kd.depth k < c) bk Γ d K) : chain d ≤ K.depth ∧ Chs c d := by
  induction h with
  | spot _ _ => exact ⟨Nat.zero_le _, trivial⟩
  | book _ _ => exact ⟨Nat.zero_le _, trivial⟩
  | turn _ _ h2 ih =>
    simp only [Kd.depth] at h2
    refine ⟨?_, ?_, ih.2⟩
    · simp only [chain, Kd.depth]; omega
    · omega
  | dod _ _ _ i1 i2 => exact ⟨Nat.zero_le _, i1.2, i2.2⟩
  | both _ _ h2 i1 i2 =>
    simp only [Kd.depth] at h2
    refine ⟨?_, ?_, i1.2, i2.2⟩
    · simp only [chain, Kd.depth]; omega
    · omega
  | first _ _ _ ih => exact ⟨Nat.zero_le _, ih.2⟩
  | second _ _ _ ih => exact ⟨Nat.zero_le _, ih.2⟩
theorem chs_chain {B : Nat} {d : Dd} (h : Chs B d) : chain d ≤ B := by
  cases d <;> simp only [chain, Chs] at * <;> omega
end Fw
set_option Elab.async false
set_option linter.all false
namespace Fw
open PySem Fd Kd
/-- fine kinds in the book, for running -/
def BOk (bk : Bk) : Prop := ∀ s k, (s, k) ∈ bk → Kd.depth k ≤ 2 ∧ Kd.settled k ∧ namesK PN k
theorem lookup_in_bk {bk : Bk} {s : Str} {k : Kd} (h : bk.lookup s = some k) : (s, k) ∈ bk := by
  induction bk with
  | nil => cases h
  | cons r t ih =>
    obtain ⟨x, k'⟩ := r
    rw [List.lookup_cons] at h
    split at h
    · rename_i e
      have e' : s = x := by simpa using e
      cases h
      rw [e']
      exact List.mem_cons_self
    · exact List.mem_cons_of_mem _ (ih h)
def NumsTo (n : Nat) (Γ : List Kd) : Prop := ∀ k ∈ Γ, ∃ i, k = .num i ∧ i ≤ n
theorem NumsTo.mono {n m : Nat} (h : n ≤ m) {Γ : List Kd} (a : NumsTo n Γ) : NumsTo m Γ := fun k hk => by
  obtain ⟨i, e, hi⟩ := a k hk
  exact ⟨i, e, Nat.le_trans hi h⟩
theorem NumsTo.snoc {n : Nat} {Γ : List Kd} (a : NumsTo n Γ) : NumsTo (n + 1) (Γ ++ [.num (n + 1)]) := fun k hk => by
  rcases List.mem_append.mp hk with hk | hk
  · exact a.mono (Nat.le_succ _) k hk
  · rw [List.mem_singleton.mp hk]; exact ⟨n + 1, rfl, Nat.le_refl _⟩
theorem knum {n i : Nat} (h : i ≤ n) : KOk n (.num i) := ⟨by simp [Kd.depth], trivial, h⟩
theorem Inf.ok {bk : Bk} {c : Nat} (hb : BOk bk) {S n Γ d k S' n'} (h : Inf bk c S n Γ d k S' n') : Chs 40 d → NumsTo n Γ → SOk n S → SOk n' S' ∧ KOk n' k ∧ k.depth ≤ chain d + 2 ∧ n ≤ n' ∧ n' ≤ n + 2 * d.size := by
  induction h with
  | @spot S n Γ i k e =>
    intro _ g s
    obtain ⟨j, rfl, hj⟩ := g _ (List.mem_of_getElem? e)
    exact ⟨s, knum hj, by simp [Kd.depth], Nat.le_refl _, Nat.le_add_right _ _⟩
  | @book S n Γ x k e =>
    intro _ g s
    obtain ⟨h1, h2, h3⟩ := hb _ _ (lookup_in_bk e)
    exact ⟨s, ⟨by omega, h3, lo_settled h2⟩, by omega, Nat.le_refl _, Nat.le_add_right _ _⟩
  | @turn S n Γ d k S' n' _ ih =>
    intro hc g s
    obtain ⟨a1, a2, a3, a4, a5⟩ := ih hc.2 g.snoc (s.mono (Nat.le_succ _))
    have h1 := hc.1
    have h2 := chs_chain hc.2
    refine ⟨a1, ⟨?_, ⟨trivial, a2.nm⟩, ⟨(by show n + 1 ≤ n'; omega), a2.lo⟩⟩, ?_, by omega, ?_⟩
    · simp only [Kd.depth]; omega
    · simp only [Kd.depth, chain]; omega
    · simp only [Dd.size]; omega
  | @dod S n Γ f e k1 S1 n1 k2 S2 n2 m S3 _ _ ha i1 i2 =>
    intro hc g s
    obtain ⟨a1, a2, a3, a4, a5⟩ := i1 hc.1 g s
    obtain ⟨b1, b2, b3, b4, b5⟩ := i2 hc.2 (g.mono a4) a1
    have h2 := chs_chain hc.2
    have s3 := Al.ok (N := n2 + 1) ha (b1.mono (Nat.le_succ _)) fun r hr => by
      rw [List.mem_singleton.mp hr]
      exact ⟨a2.mono (by omega), ⟨by simp only [Kd.depth]; omega, ⟨b2.nm, trivial⟩, ⟨b2.lo.mono (Nat.le_succ _), Nat.le_refl _⟩⟩⟩
    exact ⟨s3, knum (Nat.le_refl _), by simp [Kd.depth], by omega, by simp only [Dd.size]; omega⟩
  | @both S n Γ f e k1 S1 n1 k2 S2 n2 _ _ i1 i2 =>
    intro hc g s
    obtain ⟨a1, a2, a3, a4, a5⟩ := i1 hc.2.1 g s
    obtain ⟨b1, b2, b3, b4, b5⟩ := i2 hc.2.2 (g.mono a4) a1
    have h1 := hc.1
    refine ⟨b1, ⟨?_, ⟨a2.nm, b2.nm⟩, ⟨a2.lo.mono b4, b2.lo⟩⟩, ?_, by omega, ?_⟩
    · simp only [Kd.depth]; omega
    · simp only [Kd.depth, chain]; omega
    · simp only [Dd.size]; omega
  | @first S n Γ d k S1 n1 m S2 _ ha ih =>
    intro hc g s
    obtain ⟨a1, a2, a3, a4, a5⟩ := ih hc g s
    have s3 := Al.ok (N := n1 + 2) ha (a1.mono (by omega)) fun r hr => by
      rw [List.mem_singleton.mp hr]
      exact ⟨a2.mono (by omega), ⟨by simp [Kd.depth], ⟨trivial, trivial⟩, ⟨(by show n1 + 1 ≤ n1 + 2; omega), Nat.le_refl _⟩⟩⟩
    exact ⟨s3, knum (by omega), by simp [Kd.depth], by omega, by simp only [Dd.size]; omega⟩
  | @second S n Γ d k S1 n1 m S2 _ ha ih =>
    intro hc g s
    obtain ⟨a1, a2, a3, a4, a5⟩ := ih hc g s
    have s3 := Al.ok (N := n1 + 2) ha (a1.mono (by omega)) fun r hr => by
      rw [List.mem_singleton.mp hr]
      exact ⟨a2.mono (by omega), ⟨by simp [Kd.depth], ⟨trivial, trivial⟩, ⟨(by show n1 + 1 ≤ n1 + 2; omega), Nat.le_refl _⟩⟩⟩
    exact ⟨s3, knum (by omega), by simp [Kd.depth], by omega, by simp only [Dd.size]; omega⟩
end Fw
set_option Elab.async false
set_option linter.all false
set_option maxRecDepth 100000
namespace Fw
open PySem L2 PySem.Spec PyProof.Rows
section
variable {X : Cx}
/-- tuple(a list): the new object has no dict of its own -/
theorem call_tupF : CallR X (.type "tuple") (fun xs H Q => ∃ p ys, xs = [V.ref p] ∧ SqL X.K H p ys ∧ ∀ (l : Addr) (o : Obj), o.dict = none → H l = none → Q (.ref l) (upd H l (.frz o (.tup ys)))) := by
  intro pins s σ H xs us Q I r h
  obtain ⟨p, ys, rfl, hq, q⟩ := h
  obtain ⟨u, rfl, rx⟩ := vals1 r
  cases rx
  obtain ⟨its, r', pl, hz⟩ := I.list hq
  have hlen := r'.length
  refine call_tuple_list pl.isList (fun h' kp => ?_) (by simp only [List.size_toArray] <;> omega)
  have I1 : Inv X pins σ H { s with heap := h' } := I.kept (t' := s.toks) kp
  have hg : (h'.push { cls := .type "tuple", data := .seq its.toArray }).get? h'.objs.size = some { cls := .type "tuple", data := .seq its.toArray } := Heap.get?_push_size _ rfl
  have I2 : Inv X pins σ (upd H h'.objs.size (.frz { cls := .type "tuple", data := .seq its.toArray } (.tup ys))) { s with heap := h'.push { cls := .type "tuple", data := .seq its.toArray } } :=
    I1.laid (t' := s.toks) (fun b o e => Heap.get?_push_of_some _ e) (Nat.le_refl _) (show ObjOk X.prog X.w _ _ _ (.frz _ (.tup ys)) from ⟨hg, hz, its, r', IsTup.new _ _⟩)
  exact ⟨.ref h'.objs.size, _, I2, rfl, q _ _ rfl (I1.hok.fresh (Nat.le_refl _))⟩
theorem pairs_of2 {pins : List (Addr × Obj)} {σ : L2.St} {H : Hp} {s : Shared} (I : Inv X pins σ H s) : ∀ {ps : List Addr} {kvs : List (Key × V)}, Paired (fun p kv => SqT X.K H p [kV kv.1, kv.2]) ps kvs →
    ∃ (prs : List (Key × Value)) (ws : List (Value × Value)), KV kvs prs ∧ prs.length = ps.length ∧ ws.length = ps.length ∧ ∀ (j : Nat) (q : Value × Value), ws[j]? = some q → ∃ (b : Addr) (k : Key), ps[j]? = some b ∧ prs[j]? = some (k, q.2) ∧ IsTup s.heap b #[q.1, q.2] ∧ keyIs k q.1 = true
  | _, _, .nil => ⟨[], [], .nil, rfl, rfl, fun j q e => by simp at e⟩
  | _, _, .cons (a := p) (b := kv) h t => by
    obtain ⟨prs, ws, r, hl, hl2, hp⟩ := pairs_of2 I t
    obtain ⟨its, rv, ht, _⟩ := I.tuple h
    obtain ⟨u, y, ei, ru, ry⟩ := vals2 rv
    subst ei
    refine ⟨(kv.1, y) :: prs, (u, y) :: ws, .cons ⟨rfl, ry⟩ r, by rw [List.length_cons, List.length_cons, hl], by rw [List.length_cons, List.length_cons, hl2], fun j q e => ?_⟩
    cases j with
    | zero =>
      have e' : (u, y) = q := Option.some.inj e
      subst e'
      exact ⟨p, kv.1, rfl, rfl, ht, kV_is (P := X.prog) (w := X.w) ru⟩
    | succ j =>
      obtain ⟨b, k, e1, e2, e3, e4⟩ := hp j q (by simpa using e)
      exact ⟨b, k, by simpa using e1, by simpa using e2, e3, e4⟩
/-- dict(a tuple of pairs) -/
def rDictT (K : PySem.W.Frag) : List V → Hp → VK → Prop := fun xs H Q => ∃ (a : Addr) (o : Obj) (ps : List Addr) (kvs : List (Key × V)), xs = [.ref a] ∧ H a = some (.frz o (.tup (ps.map V.ref))) ∧ o.dict = none ∧ Paired (fun p kv => SqT K H p [kV kv.1, kv.2]) ps kvs ∧
    ∀ p, H p = none → Q (.ref p) (upd H p (.dK (mergeK [] kvs)))
theorem call_dictT (hcalm : X.calm = true) : CallR X (.type "dict") (rDictT X.K) := by
  intro pins s σ H xs us Q I r q
  obtain ⟨a, o, ps, kvs, ex, hq, hod, hp, q⟩ := q
  subst ex
  obtain ⟨u, eu, rx⟩ := vals1 r
  subst eu
  cases rx
  obtain ⟨hg, hz, its, rv, hit⟩ := I.hok _ _ hq
  have ei := refs_at rv
  subst ei
  rw [List.length_map] at hz
  obtain ⟨prs, ws, rel, hl, hl2, hpr⟩ := pairs_of2 I hp
  obtain ⟨o', ho', hc', n, hd'⟩ := hit
  rw [hg] at ho'
  cases ho'
  have P := PairArg.tuple (prog := X.prog) (w := X.w) a (ps.map Value.ref).toArray (fun j => ps.getD j 0) ws
  refine PySem.call_dict_pairs (knd := mixKind X.prog X.w) (kvs := prs) P (I.ok.hd hcalm) ⟨⟨o, n, hg, hc', hod, hd'⟩, by simp [hl2], fun j k v e => ?_⟩ ⟨by rw [hl, hl2], fun j key v e => ?_⟩ (by rw [hl2]; exact hz) fun h' tk hdd k => ?_
  · obtain ⟨b, k', e1, e2, e3, e4⟩ := hpr j _ e
    refine ⟨by simp [e1, List.getD_eq_getElem?_getD], .inl ?_⟩
    show s.heap.IsTuple (ps.getD j 0) #[k, v]
    rw [List.getD_eq_getElem?_getD, e1]
    exact e3
  · obtain ⟨b, k', e1, e2, e3, e4⟩ := hpr j _ e
    exact ⟨k', e2, e4⟩
  · have hm : (s.heap.objs.size == sysModules) = false := beq_eq_false_iff_ne.mpr (Nat.ne_of_gt I.big)
    have hlen : (mergeK [] kvs).length ≤ sizeLine := by
      refine Nat.le_trans (length_mergeK kvs []) ?_
      rw [List.length_nil, Nat.zero_add, rel.length, hl]
      exact hz
    exact ⟨.ref s.heap.objs.size, upd H s.heap.objs.size (.dK (mergeK [] kvs)), I.laid (t' := tk) (fun b o e => k b o (fun z => nomatch z) e) (Nat.le_refl _) (show ObjOk X.prog X.w _ _ _ (.dK (mergeK [] kvs)) from ⟨hlen, hm, merged [] prs, KV.merge rel .nil, hdd⟩), rfl, q _ (I.hok.fresh (Nat.le_refl _))⟩
end
end Fw
set_option Elab.async false
set_option linter.all false
set_option maxRecDepth 100000
set_option maxHeartbeats 1000000
namespace Fw
open PySem L2 Fd
section
variable {K : PySem.W.Frag} {B H H1 H2 : Hp} {σ : St} {ta tb tc te ti : TE} {tt tu : TT} {v : V} {d : PyData} {D : Ends} {t1 t2 tb' : TS} {g : TG}
/-- a loop over a tuple -/
theorem go_forT {ds : List PyData} (hi : Ev K B ti σ H (.tuple ds))
    (h : ∀ H2, Up K B H H2 → ∃ Pv : Nat → St → Hp → Prop, Pv 0 σ H2 ∧ (∀ i σ' H', Pv i σ' H' → TK K H2 H') ∧
      (∀ i d x σ' H', ds[i]? = some d → Pv i σ' H' → Im K H' x d → g x σ' H' fun σ2 H3 => tb' { D with nx := Pv (i + 1), ct := Pv (i + 1), bk := D.nx } σ2 H3) ∧ ∀ σ' H', Pv ds.length σ' H' → D.nx σ' H') :
    Go K B (tFor (iTup K ti) g tb') D σ H := fun H1 u => hi H1 u _ fun v H2 s2 m => by
  obtain ⟨p, ws, rfl, hp, hm⟩ := m.tup_inv
  obtain ⟨Pv, p0, pk, ps, pd⟩ := h H2 (u.then s2)
  refine ⟨p, rfl, ⟨ws, hp⟩, for_tup (K := K) (a := p) (xs := ws) Pv p0 (fun i σ' H' _ z => pk i σ' H' z _ _ hp) (fun i x σ' H' hx z => ?_) (fun σ' H' z => pd σ' H' (by rw [← hm.length]; exact z))⟩
  obtain ⟨d, hd, hdm⟩ := hm.getV hx
  exact ps i d x σ' H' hd z (hdm.keep (pk i σ' H' z))
end
variable {P : Program} {w : World} {K : PySem.W.Frag} {mg : Str → Option Value} {base : Heap}
abbrev s_is_deed : Stmt := top 11
abbrev nm_is_deed : List Str := ["thing"]
theorem sc_is_deed : FnScope nm_is_deed ["thing"] (defScope s_is_deed) := ⟨rfl, rfl, rfl, by decide +kernel, rfl, by decide +kernel, by decide +kernel⟩
def rIsDeed (n : Nat) : List PyData → PyData → Prop := fun ds r => ∃ d : Dd, d.depth ≤ n ∧ namesD PN d ∧ ds = [dd d] ∧ r = .bool true
theorem Nod.one (x : Str) (d : Dd) {ps : List Dd} (h : Nod d x ps) : (ps.length = 1 ∧ decide (x ∈ (["turn", "first", "second"] : List Str)) = true) ∨ (ps.length = 2 ∧ decide (x ∈ (["turn", "first", "second"] : List Str)) = false ∧ decide (x ∈ (["do", "both"] : List Str)) = true) := by
  cases h
  · exact .inl ⟨rfl, by decide +kernel⟩
  · exact .inl ⟨rfl, by decide +kernel⟩
  · exact .inl ⟨rfl, by decide +kernel⟩
  · exact .inr ⟨rfl, by decide +kernel, by decide +kernel⟩
  · exact .inr ⟨rfl, by decide +kernel, by decide +kernel⟩
theorem is_deed_ok (T : Tx K mg) (D : Dfn K mg "is_deed" s_is_deed ["thing"]) (CB : Cal P w K mg base 1 "is_begun" ["thing", "size", "words"] (spI K rBegun)) (CN : Cal P w K mg base 1 "is_number" ["thing"] (spI K rNumber)) (CP : Cal P w K mg base 1 "is_plain_name" ["thing"] (spI K rPlain)) :
    ∀ n, Cal P w K mg base (n + 1) "is_deed" ["thing"] (spI K (rIsDeed n)) := by
  obtain ⟨f, fd, F, m_is_deed, b_is_deed⟩ := D
  obtain ⟨a_ONE_PART, g_ONE_PART, sO⟩ := T.ONE_PART
  obtain ⟨a_TWO_PARTS, g_TWO_PARTS, sT⟩ := T.TWO_PARTS
  have k_is_deed := F.kp
  intro n
  refine ⟨f, fd, ?_, m_is_deed, k_is_deed, b_is_deed⟩
  induction n with
  | zero => exact fn_none fun vs H Q E ⟨ds, d, ⟨x, hx, _⟩, _⟩ => absurd hx (by have := x.depth_pos; omega)
  | succ n G_is_deed =>
    obtain ⟨_, _, G_is_begun, m_is_begun, k_is_begun, b_is_begun⟩ := CB.mono (show 1 ≤ n + 1 by omega)
    obtain ⟨_, _, G_is_number, m_is_number, k_is_number, b_is_number⟩ := CN.mono (show 1 ≤ n + 1 by omega)
    obtain ⟨_, _, G_is_plain_name, m_is_plain_name, k_is_plain_name, b_is_plain_name⟩ := CP.mono (show 1 ≤ n + 1 by omega)
    refine F.ok sc_is_deed (spI_len fun ds d ⟨_, _, _, e, _⟩ => by rw [e]; rfl) (fun cdv A outer s H vs Q E hr h => ?_)
    obtain ⟨ds, r, ⟨d, hd, hnm, rfl, rfl⟩, hm, q⟩ := h
    obtain ⟨v, rfl, h0⟩ := inv1 hm
    have bg : ∀ {B : Hp} {H1 : Hp} {te : TE} {x : Str} {t : List PyData} {n : Int} {ss : List Str} {b : Bool} {E : XK}, Im K H1 v (.tuple (.str x :: t)) → Ev K B te (L2.start nm_is_deed [v]) H1 (.tuple (ss.map .str)) → (decide ((t.length : Int) + 1 = n) && decide (x ∈ ss)) = b →
        Ev K B (tCall (spI K rBegun) [] E (tCons (tVar 0) (tCons (tC (.int n)) (tCons te tNil)))) (L2.start nm_is_deed [v]) H1 (.bool b) := fun {B H1 te x t n ss b E} hv ht e =>
      ev_call (ea_cons (ev_var rfl hv) (ea_cons ev_int (ea_cons ht ea_nil))) ⟨x, t, n, ss, rfl, by rw [e]⟩
    have t1 : ∀ {B H1 : Hp} {x : Str}, Ev K B (tTup (tCons (tC (.str x)) tNil)) (L2.start nm_is_deed [v]) H1 (.tuple ([x].map .str)) := fun {B H1 x} => ev_tup (ea_cons ev_str ea_nil) (by simp)
    have t2 : ∀ {B H1 : Hp} {x y : Str}, Ev K B (tTup (tCons (tC (.str x)) (tCons (tC (.str y)) tNil))) (L2.start nm_is_deed [v]) H1 (.tuple ([x, y].map .str)) := fun {B H1 x y} => ev_tup (ea_cons ev_str (ea_cons ev_str ea_nil)) (by simp)
    refine ⟨_, (pss_cons (ps_if (pt_val (pe_call G_is_begun hr rfl m_is_begun k_is_begun b_is_begun .nil pass0 (pa_cons (pv 0) (pa_cons pe_int (pa_cons (pe_tup (pa_cons pe_str pa_nil)) pa_nil)))))
 (pss_one (ps_ret (pe_call G_is_number hr rfl m_is_number k_is_number b_is_number .nil pass0 (pa_cons (pe_ix ix_tup (pv 0) pe_int (fun _ _ => rfl)) pa_nil))))
 pss_nil)
 (pss_cons (ps_if (pt_val (pe_call G_is_begun hr rfl m_is_begun k_is_begun b_is_begun .nil pass0 (pa_cons (pv 0) (pa_cons pe_int (pa_cons (pe_tup (pa_cons pe_str (pa_cons pe_str pa_nil))) pa_nil)))))
 (pss_one (ps_ret (pe_call G_is_plain_name hr rfl m_is_plain_name k_is_plain_name b_is_plain_name .nil pass0 (pa_cons (pe_ix ix_tup (pv 0) pe_int (fun _ _ => rfl)) pa_nil))))
 pss_nil)
 (pss_cons (ps_if (pt_val (pe_call G_is_begun hr rfl m_is_begun k_is_begun b_is_begun .nil pass0 (pa_cons (pv 0) (pa_cons pe_int (pa_cons (pe_glob (v := .ref a_ONE_PART) rfl g_ONE_PART rfl) pa_nil)))))
 (pss_one (ps_ret (pe_call G_is_deed hr rfl m_is_deed k_is_deed b_is_deed .nil pass0 (pa_cons (pe_ix ix_tup (pv 0) pe_int (fun _ _ => rfl)) pa_nil))))
 pss_nil)
 (pss_one (ps_ret (pe_and (pe_call G_is_begun hr rfl m_is_begun k_is_begun b_is_begun .nil pass0 (pa_cons (pv 0) (pa_cons pe_int (pa_cons (pe_glob (v := .ref a_TWO_PARTS) rfl g_TWO_PARTS rfl) pa_nil)))) (pe_and (pe_call G_is_deed hr rfl m_is_deed k_is_deed b_is_deed .nil pass0 (pa_cons (pe_ix ix_tup (pv 0) pe_int (fun _ _ => rfl)) pa_nil)) (pe_one (pe_call G_is_deed hr rfl m_is_deed k_is_deed b_is_deed .nil pass0 (pa_cons (pe_ix ix_tup (pv 0) pe_int (fun _ _ => rfl)) pa_nil)))))))))), ?_⟩
    refine Go.run (K := K) (B := H) ?_ (.refl H)
    have fin : ∀ v H1, Up K H H H1 → Im K H1 v (.bool true) → Q v H1 := fun v H1 u hv => q v H1 u.1 hv
    rcases nod_cases d with ⟨n, rfl⟩ | ⟨x, rfl⟩ | ⟨x, ps, hn⟩
    · refine go_ifs (b := true) (et_B (bg h0 t1 (by show (decide (((1 : Nat) : Int) + 1 = 2) && decide (("spot" : Str) ∈ [("spot" : Str)])) = true; decide +kernel))) (fun _ => ?_) (fun z => nomatch z)
      exact go_ret (ev_call (ea_cons (ev_ix (ev_var rfl h0) ev_int rfl) ea_nil) ⟨n, rfl, rfl⟩) fin
    · refine go_ifs (b := false) (et_B (bg h0 t1 (by show (decide (((1 : Nat) : Int) + 1 = 2) && decide (("book" : Str) ∈ [("spot" : Str)])) = false; decide +kernel))) (fun z => nomatch z) (fun _ => ?_)
      refine go_ifs (b := true) (et_B (bg h0 t2 (by show (decide (((1 : Nat) : Int) + 1 = 2) && decide (("book" : Str) ∈ [("book" : Str), "hole"])) = true; decide +kernel))) (fun _ => ?_) (fun z => nomatch z)
      exact go_ret (ev_call (ea_cons (ev_ix (ev_var rfl h0) ev_int rfl) ea_nil) ⟨x, hnm, rfl, rfl⟩) fin
    · rw [hn.dd] at h0
      have nospot : decide (x ∈ [("spot" : Str)]) = false := by have := hn.spot; simpa using this
      refine go_ifs (b := false) (et_B (bg h0 t1 (by rw [nospot, Bool.and_false]))) (fun z => nomatch z) (fun _ => ?_)
      refine go_ifs (b := false) (et_B (bg h0 t2 (by rw [hn.bh, Bool.and_false]))) (fun z => nomatch z) (fun _ => ?_)
      have rec_ : ∀ {B H1 : Hp} {te : TE} {p : Dd} {E : XK}, p ∈ ps → Ev K B te (L2.start nm_is_deed [v]) H1 (dd p) → Ev K B (tCall (spI K (rIsDeed n)) [] E (tCons te tNil)) (L2.start nm_is_deed [v]) H1 (.bool true) := fun {B H1 te p E} hp he =>
        ev_call (ea_cons he ea_nil) ⟨p, by have := hn.depth p hp; omega, hn.names hnm p hp, rfl, rfl⟩
      rcases hn.one x d with ⟨l1, c1⟩ | ⟨l2, c1, c2⟩
      · refine go_ifs (b := true) (et_B (bg h0 (ev_strsT sO) (by rw [c1, List.length_map, l1]; rfl))) (fun _ => ?_) (fun z => nomatch z)
        obtain ⟨p, rfl⟩ : ∃ p, ps = [p] := by
          match ps, l1 with
          | [p], _ => exact ⟨p, rfl⟩
        exact go_ret (rec_ (p := p) List.mem_cons_self (ev_ix (ev_var rfl h0) ev_int rfl)) fin
      · refine go_ifs (b := false) (et_B (bg h0 (ev_strsT sO) (by rw [c1, Bool.and_false]))) (fun z => nomatch z) (fun _ => ?_)
        obtain ⟨p, p', rfl⟩ : ∃ p p', ps = [p, p'] := by
          match ps, l2 with
          | [p, p'], _ => exact ⟨p, p', rfl⟩
        refine go_ret (d := .bool true) ((ev_andV (bg h0 (ev_strsT sT) (b := true) (by rw [c2]; rfl)) fun _ => ev_andV (rec_ (p := p) (by simp) (ev_ix (ev_var rfl h0) ev_int rfl)) fun _ => rec_ (p := p') (by simp) (ev_ix (ev_var rfl h0) ev_int rfl)).is rfl) fin
abbrev s_holes_in : Stmt := top 12
abbrev nm_holes_in : List Str := ["deed", "found", "part"]
theorem sc_holes_in : FnScope nm_holes_in ["deed"] (defScope s_holes_in) := ⟨rfl, rfl, rfl, by decide +kernel, rfl, by decide +kernel, by decide +kernel⟩
def rHoles (n : Nat) : List PyData → List PyData → Prop := fun ds r => ∃ d : Dd, d.depth ≤ n ∧ ds = [dd d] ∧ r = []
theorem holes_ok (T : Tx K mg) (D : Dfn K mg "holes_in" s_holes_in ["deed"]) : ∀ n, Cal P w K mg base n "holes_in" ["deed"] (spL K (rHoles n)) := by
  obtain ⟨f, fd, F, m_holes_in, b_holes_in⟩ := D
  have k_holes_in := F.kp
  intro n
  refine ⟨f, fd, ?_, m_holes_in, k_holes_in, b_holes_in⟩
  induction n with
  | zero => exact fn_none fun vs H Q E ⟨ds, d, ⟨x, hx, _⟩, _⟩ => absurd hx (by have := x.depth_pos; omega)
  | succ n G_holes_in =>
    refine F.ok sc_holes_in (spL_len fun ds d ⟨_, _, e, _⟩ => by rw [e]; rfl) (fun cdv A outer s H vs Q E hr h => ?_)
    obtain ⟨ds, r, ⟨d, hd, rfl, rfl⟩, hm, q⟩ := h
    obtain ⟨v, rfl, h0⟩ := inv1 hm
    refine ⟨_, (pss_cons (ps_if (pt_cmpR op_eq (pe_ix ix_tup (pv 0) pe_int (fun _ _ => rfl)) pe_str (nomark _))
 (pss_one (ps_ret (pe_lst (pa_cons (pe_ix ix_tup (pv 0) pe_int (fun _ _ => rfl)) pa_nil))))
 pss_nil)
 (pss_cons (ps_if (pt_cmpR op_in_seq (pe_ix ix_tup (pv 0) pe_int (fun _ _ => rfl)) (pe_tup (pa_cons pe_str (pa_cons pe_str pa_nil))) rfl)
 (pss_one (ps_ret (pe_lst pa_nil)))
 pss_nil)
 (pss_cons (ps_set (i := 1) sc_holes_in.nd rfl (Or.inl rfl) (pe_lst pa_nil))
 (pss_cons (ps_for PassesOwn.never rfl (pi_tup (pe_slice sl_tupA (pv 0) (po_some pe_int) po_none)) (pg_name (i := 2) sc_holes_in.nd rfl (Or.inl rfl))
 (pss_one (ps_expr (pe_bm PySem.F.plainAttrs_list PySem.F.slot_list_extend PySem.F.type_list_extend mt_extend (pv 1) (pa_cons (pe_call G_holes_in hr rfl m_holes_in k_holes_in b_holes_in .nil pass0 (pa_cons (pv 2) pa_nil)) pa_nil)))))
 (pss_one (ps_ret (pv 1))))))), ?_⟩
    refine Go.run (K := K) (B := H) ?_ (.refl H)
    have fin : ∀ p vs H1, H p = none → Up K H H H1 → H1 p = some (.lst vs) → ImAll K H1 vs [] → Q (.ref p) H1 := fun p vs H1 hp u h1 h2 => q p vs H1 hp u.1 h1 h2
    rcases nod_cases d with ⟨n, rfl⟩ | ⟨x, rfl⟩ | ⟨x, ps, hn⟩
    · refine go_ifs (et_word rfl h0 (b := false) (by decide +kernel)) (fun z => nomatch z) (fun _ => ?_)
      refine go_ifs (et_in2 rfl h0 (b := true) (by decide +kernel)) (fun _ => ?_) (fun z => nomatch z)
      exact go_retL (el_lst ea_nil (by simp)) fin
    · refine go_ifs (et_word rfl h0 (b := false) (by decide +kernel)) (fun z => nomatch z) (fun _ => ?_)
      refine go_ifs (et_in2 rfl h0 (b := true) (by decide +kernel)) (fun _ => ?_) (fun z => nomatch z)
      exact go_retL (el_lst ea_nil (by simp)) fin
    · rw [hn.dd] at h0
      refine go_ifs (et_word rfl h0 hn.hole) (fun z => nomatch z) (fun _ => ?_)
      refine go_ifs (et_in2 rfl h0 hn.sb) (fun z => nomatch z) (fun _ => ?_)
      refine go_setL (el_lst ea_nil (by simp)) fun l vs0 H1 hl u hl1 m0 => ?_
      cases m0
      have s01 : Same H H1 := u.1
      refine go_seq (go_forT (B := H1) (H := H) (ev_tail rfl h0) fun H2 u2 => ⟨fun i σ' H' => (∃ x, σ' = [some v, some (.ref l), x]) ∧ Same H H' ∧ H' l = some (.lst []) ∧ TK K H2 H', ⟨⟨none, rfl⟩, s01.trans u2.1, u2.1 _ _ hl1, .refl _⟩, fun i σ' H' z => z.2.2.2, fun i d x σ' H' hd' ⟨⟨y, e⟩, s, hl', tk⟩ hx => ?_, fun σ' H' ⟨⟨y, e⟩, s, hl', tk⟩ => ?_⟩) H1 ⟨.refl _, u.2⟩
      · subst e
        rw [List.getElem?_map] at hd'
        cases e : ps[i]? with
        | none => rw [e] at hd'; cases hd'
        | some p =>
          rw [e] at hd'
          cases hd'
          refine ⟨_, rfl, .inl ⟨rfl, _, SqL.of hl'⟩, ?_⟩
          refine ⟨x, rfl, ?_⟩
          refine ⟨[dd p], [], ⟨p, by have := hn.depth p (List.mem_of_getElem? e); omega, rfl, rfl⟩, .one hx, fun b ws H3 hb s3 hb3 m3 => ?_⟩
          cases m3
          refine ⟨l, b, [], [], rfl, rfl, s3 _ _ hl', hb3, Nat.zero_le _, ⟨_, rfl⟩, fun a o ha => ?_, upd_same, ?_⟩
          · have hne : a ≠ l := ne_of_none ha hl
            rw [upd_ne hne]
            exact s3 _ _ (s _ _ ha)
          · exact (tk.trans (.of s3)).trans (TK.upd (by rw [s3 _ _ hl']; trivial))
      · subst e
        exact ⟨_, rfl, fin l [] H' hl ⟨s, .of s⟩ hl' .nil⟩
abbrev s_spots_held : Stmt := top 13
abbrev nm_spots_held : List Str := ["deed", "given", "part"]
theorem sc_spots_held : FnScope nm_spots_held ["deed", "given"] (defScope s_spots_held) := ⟨rfl, rfl, rfl, by decide +kernel, rfl, by decide +kernel, by decide +kernel⟩
def rHeld (n : Nat) : List PyData → PyData → Prop := fun ds r => ∃ (d : Dd) (g : Nat), d.depth ≤ n ∧ held g d ∧ ds = [dd d, .int g] ∧ r = .bool true
theorem held_ok (T : Tx K mg) (D : Dfn K mg "spots_held" s_spots_held ["deed", "given"]) : ∀ n, Cal P w K mg base n "spots_held" ["deed", "given"] (spI K (rHeld n)) := by
  obtain ⟨f, fd, F, m_spots_held, b_spots_held⟩ := D
  have k_spots_held := F.kp
  intro n
  refine ⟨f, fd, ?_, m_spots_held, k_spots_held, b_spots_held⟩
  induction n with
  | zero => exact fn_none fun vs H Q E ⟨ds, d, ⟨x, _, hx, _⟩, _⟩ => absurd hx (by have := x.depth_pos; omega)
  | succ n G_spots_held =>
    refine F.ok sc_spots_held (spI_len fun ds d ⟨_, _, _, _, e, _⟩ => by rw [e]; rfl) (fun cdv A outer s H vs Q E hr h => ?_)
    obtain ⟨ds, r, ⟨d, g, hd, hh, rfl, rfl⟩, hm, q⟩ := h
    obtain ⟨v, vg, rfl, h0, h1⟩ := inv2 hm
    refine ⟨_, (pss_cons (ps_if (pt_cmpR op_eq (pe_ix ix_tup (pv 0) pe_int (fun _ _ => rfl)) pe_str (nomark _))
 (pss_one (ps_ret (pe_cmpR op_lt (pe_ix ix_tup (pv 0) pe_int (fun _ _ => rfl)) (pv 1) (nomark _))))
 pss_nil)
 (pss_cons (ps_if (pt_cmpR op_in_seq (pe_ix ix_tup (pv 0) pe_int (fun _ _ => rfl)) (pe_tup (pa_cons pe_str (pa_cons pe_str pa_nil))) rfl)
 (pss_one (ps_ret pe_bl))
 pss_nil)
 (pss_cons (ps_if (pt_cmpR op_eq (pe_ix ix_tup (pv 0) pe_int (fun _ _ => rfl)) pe_str (nomark _))
 (pss_one (ps_ret (pe_call G_spots_held hr rfl m_spots_held k_spots_held b_spots_held .nil pass0 (pa_cons (pe_ix ix_tup (pv 0) pe_int (fun _ _ => rfl)) (pa_cons (pe_op op_add (pv 1) pe_int) pa_nil)))))
 pss_nil)
 (pss_one (ps_ret (pe_callB (cr_all rfl) rfl T.all_ (by decide +kernel) (pa_cons (pe_lc (own := [("part", 2)]) (g := gName 2) (tt := tYes) rfl sc_spots_held.nd (pi_tup (pe_slice sl_tupA (pv 0) (po_some pe_int) po_none)) (blkOk_by (own := [("part", 2)]) (N := nm_spots_held) (sc := defScope s_spots_held) (by decide +kernel)) (fun _ _ _ _ _ => (pg_name (i := 2) sc_spots_held.nd rfl (Or.inl rfl))) (fun _ _ _ _ _ => pts_nil) (fun _ _ _ _ _ => (pe_call G_spots_held hr rfl m_spots_held k_spots_held b_spots_held .nil pass0 (pa_cons (pv 2) (pa_cons (pv 1) pa_nil))))) pa_nil))))))), ?_⟩
    refine Go.run (K := K) (B := H) ?_ (.refl H)
    have fin : ∀ v H1, Up K H H H1 → Im K H1 v (.bool true) → Q v H1 := fun v H1 u hv => q v H1 u.1 hv
    rcases nod_cases d with ⟨n, rfl⟩ | ⟨x, rfl⟩ | ⟨x, ps, hn⟩
    · refine go_ifs (et_word rfl h0 (b := true) (by decide +kernel)) (fun _ => ?_) (fun z => nomatch z)
      have hh' : n < g := hh
      exact go_ret ((ev_lt (ev_ix (ev_var rfl h0) ev_int rfl) (ev_var rfl h1)).is (by rw [decide_eq_true (by omega)])) fin
    · refine go_ifs (et_word rfl h0 (b := false) (by decide +kernel)) (fun z => nomatch z) (fun _ => ?_)
      refine go_ifs (et_in2 rfl h0 (b := true) (by decide +kernel)) (fun _ => ?_) (fun z => nomatch z)
      exact go_ret ev_bl fin
    · by_cases ht : ∃ b, d = .turn b
      · obtain ⟨b, rfl⟩ := ht
        refine go_ifs (et_word rfl h0 (b := false) (by decide +kernel)) (fun z => nomatch z) (fun _ => ?_)
        refine go_ifs (et_in2 rfl h0 (b := false) (by decide +kernel)) (fun z => nomatch z) (fun _ => ?_)
        refine go_ifs (et_word rfl h0 (b := true) (by decide +kernel)) (fun _ => ?_) (fun z => nomatch z)
        exact go_ret (ev_call (ea_cons (ev_ix (ev_var rfl h0) ev_int rfl) (ea_cons (ev_add (ev_var rfl h1) ev_int) ea_nil)) ⟨b, g + 1, by simp only [Dd.depth] at hd; omega, hh, rfl, rfl⟩) fin
      have ht' : decide (x = "turn") = false := by
        cases hn <;> first | exact absurd ⟨_, rfl⟩ ht | decide +kernel
      have hps : ∀ p ∈ ps, held g p := by
        cases hn
        · exact absurd ⟨_, rfl⟩ ht
        · intro p hp; rw [List.mem_singleton.mp hp]; exact hh
        · intro p hp; rw [List.mem_singleton.mp hp]; exact hh
        · intro p hp
          simp only [List.mem_cons, List.not_mem_nil, or_false] at hp
          rcases hp with rfl | rfl
          · exact hh.1
          · exact hh.2
        · intro p hp
          simp only [List.mem_cons, List.not_mem_nil, or_false] at hp
          rcases hp with rfl | rfl
          · exact hh.1
          · exact hh.2
      rw [hn.dd] at h0
      refine go_ifs (et_word rfl h0 hn.spot) (fun z => nomatch z) (fun _ => ?_)
      refine go_ifs (et_in2 rfl h0 hn.bh) (fun z => nomatch z) (fun _ => ?_)
      refine go_ifs (et_word rfl h0 ht') (fun z => nomatch z) (fun _ => ?_)
      refine go_ret ((ev_all (bs := List.replicate ps.length true) (el_lcN (ev_tail rfl h0) (by have := hn.len; simp; omega) (by simp) fun i d' r v' H1 h1' h2' u m' => ?_)).is (by simp)) fin
      rw [List.getElem?_map] at h1'
      rw [List.map_replicate, List.getElem?_replicate] at h2'
      cases e : ps[i]? with
      | none => rw [e] at h1'; cases h1'
      | some p =>
        rw [e] at h1'
        cases h1'
        split at h2' <;> cases h2'
        exact ev_call (ea_cons (ev_var rfl m') (ea_cons (ev_var rfl (h1.keep u.2)) ea_nil)) ⟨p, g, by have := hn.depth p (List.mem_of_getElem? e); omega, hps p (List.mem_of_getElem? e), rfl, rfl⟩
abbrev s_is_whole : Stmt := top 14
abbrev nm_is_whole : List Str := ["thing", "given", "names"]
theorem sc_is_whole : FnScope nm_is_whole ["thing", "given"] (defScope s_is_whole) := ⟨rfl, rfl, rfl, by decide +kernel, rfl, by decide +kernel, by decide +kernel⟩
def rWhole (n : Nat) : List PyData → PyData → Prop := fun ds r => ∃ d : Dd, d.depth ≤ n ∧ namesD PN d ∧ held 0 d ∧ ds = [dd d, .int 0] ∧ r = .bool true
/-- the rule for a def with defaults -/
theorem funD_ok {x qual : Str} {params : Arguments} {body : List Stmt} {scope : Scope} {dvs : List V} {kws : List (Str × V)} {f : Addr} {fd : FuncData} {N ps : List Str} {k : Nat} {sp : Sp} (F : FunD K x qual params body scope dvs kws f fd) (S : FnScope N ps scope) (len : ∀ vs H Q E, sp vs H Q E → vs.length = ps.length)
    (hbody : ∀ (cdv : Value) (A : Around) (outer : List Env) (s : Shared) (H : Hp) (vs : List V) (Q : VK) (E : XK), Room k (A.deeper (PyProof.Rows.envOfC qual scope s.heap.objs.size f cdv)) → sp vs H Q E →
      ∃ t, PSs (cxOf CX0 P w K mg base N qual scope f cdv A outer s H E).nox body t ∧ t { nx := fun _ H' => Q .non H', rt := Q } (L2.start N vs) H) : FnOk P w K mg base CX0 (k + 1) f fd ps sp :=
  F.ok S len fun cdv A outer s H vs Q E hr hsp => by
    obtain ⟨t, h, q⟩ := hbody cdv A outer s H vs Q E hr hsp
    exact ⟨t, h.nox, q⟩
theorem whole_ok (T : Tx K mg) {f : Addr} {fd : FuncData} (F : FunD K "is_whole" "is_whole" (defArgs s_is_whole) (defBody s_is_whole) (defScope s_is_whole) [.int 0] [] f fd) (n : Nat) (CD : Cal P w K mg base (n + 1) "is_deed" ["thing"] (spI K (rIsDeed n))) (CS : Cal P w K mg base n "spots_held" ["deed", "given"] (spI K (rHeld n)))
    (CH : Cal P w K mg base n "holes_in" ["deed"] (spL K (rHoles n))) : FnOk P w K mg base CX0 (n + 2) f fd ["thing", "given"] (spI K (rWhole n)) := by
  obtain ⟨_, _, G_is_deed, m_is_deed, k_is_deed, b_is_deed⟩ := CD
  obtain ⟨_, _, G_spots_held, m_spots_held, k_spots_held, b_spots_held⟩ := CS.mono (show n ≤ n + 1 by omega)
  obtain ⟨_, _, G_holes_in, m_holes_in, k_holes_in, b_holes_in⟩ := CH.mono (show n ≤ n + 1 by omega)
  refine funD_ok F sc_is_whole (spI_len fun ds d ⟨_, _, _, _, e, _⟩ => by rw [e]; rfl) (fun cdv A outer s H vs Q E hr h => ?_)
  obtain ⟨ds, r, ⟨d, hd, hnm, hh, rfl, rfl⟩, hm, q⟩ := h
  obtain ⟨v, vg, rfl, h0, h1⟩ := inv2 hm
  refine ⟨_, (pss_cons (ps_if (PW.pt (pw_or (pt_not (pt_val (pe_call G_is_deed hr rfl m_is_deed k_is_deed b_is_deed .nil pass0 (pa_cons (pv 0) pa_nil)))) (pw_or1 (pt_not (pt_val (pe_call G_spots_held hr rfl m_spots_held k_spots_held b_spots_held .nil pass0 (pa_cons (pv 0) (pa_cons (pv 1) pa_nil))))))))
 (pss_one (ps_ret pe_bl))
 pss_nil)
 (pss_cons (ps_set (i := 2) sc_is_whole.nd rfl (Or.inl rfl) (pe_call G_holes_in hr rfl m_holes_in k_holes_in b_holes_in .nil pass0 (pa_cons (pv 0) pa_nil)))
 (pss_one (ps_ret (pe_cmpR op_eq (RZ.pe_lenSetI rfl T.len_ rfl T.set_ (pv 2)) (pe_callB call_len_seq rfl T.len_ (by decide +kernel) (pa_cons (pv 2) pa_nil)) (nomark _)))))), ?_⟩
  refine Go.run (K := K) (B := H) ?_ (.refl H)
  refine go_ifs (b := false) ((et_or (et_not (et_B (ev_call (ea_cons (ev_var rfl h0) ea_nil) ⟨d, hd, hnm, rfl, rfl⟩))) fun _ => et_not (et_B (ev_call (ea_cons (ev_var rfl h0) (ea_cons (ev_var rfl h1) ea_nil)) ⟨d, 0, hd, hh, rfl, rfl⟩))).is rfl) (fun z => nomatch z) (fun _ => ?_)
  refine go_setL (el_call (ea_cons (ev_var rfl h0) ea_nil) ⟨d, hd, rfl, rfl⟩) fun p vs0 H1 hp u hp1 m0 => ?_
  cases m0
  refine ⟨_, rfl, p, [], rfl, SqL.of hp1, List.nodup_nil, Nat.zero_le _, _, rfl, p, [], rfl, .inl (SqL.of hp1), rfl, ?_⟩
  exact q _ H1 u.1 (.bl true)
end Fw
set_option Elab.async false
set_option linter.all false
set_option maxRecDepth 100000
set_option maxHeartbeats 1000000
namespace Fw
open PySem L2 Fd
section
variable {K : PySem.W.Frag} {B H H1 H2 : Hp} {σ : St} {ta tb tc te ti : TE} {tt tu : TT} {v : V} {d : PyData} {D : Ends} {t1 t2 tb' : TS} {g : TG}
theorem go_aug {i : Nat} {k j : Int} (e : σ[i]? = some (some (.int k))) (h : Ev K B te σ H (.int j)) (q : ∀ H1, Up K B H H1 → D.nx (σ.set i (some (.int (k + j)))) H1) : Go K B (tAug i te (ipI fun i j => i + j)) D σ H := fun H1 u =>
  ⟨.int k, e, h H1 u _ fun v H2 s m => ⟨k, j, rfl, m.int_inv, q H2 (u.then s)⟩⟩
/-- a loop over range(a, b) -/
theorem go_forR2 {lo hi : Int} {n : Nat} (ha : Ev K B ta σ H (.int lo)) (hb : Ev K B tb σ H (.int hi)) (hn : (hi - lo).toNat = n) (b1 : -(2 ^ 62) ≤ lo ∧ lo < 2 ^ 62 ∧ -(2 ^ 62) ≤ hi ∧ hi < 2 ^ 62)
    (h : ∀ H2, Up K B H H2 → ∃ Pv : Nat → St → Hp → Prop, Pv 0 σ H2 ∧ (∀ i σ' H', i < n → Pv i σ' H' → g (.int (lo + i)) σ' H' fun σ2 H3 => tb' { D with nx := Pv (i + 1), ct := Pv (i + 1), bk := D.nx } σ2 H3) ∧ ∀ σ' H', Pv n σ' H' → D.nx σ' H') :
    Go K B (tFor (iRng2 (tCons ta (tCons tb tNil))) g tb') D σ H := fun H1 u => ha H1 u _ fun v H2 s2 m => hb H2 (u.then s2) _ fun w H3 s3 m3 => by
  obtain ⟨Pv, p0, ps, pd⟩ := h H3 ((u.then s2).then s3)
  refine ⟨lo, hi, by rw [m.int_inv, m3.int_inv], b1, ?_⟩
  rw [hn]
  exact for_range Pv p0 ps pd
theorem go_forR1 {hi : Int} {n : Nat} (ha : Ev K B ta σ H (.int hi)) (hn : hi.toNat = n) (b1 : -(2 ^ 62) ≤ hi ∧ hi < 2 ^ 62)
    (h : ∀ H2, Up K B H H2 → ∃ Pv : Nat → St → Hp → Prop, Pv 0 σ H2 ∧ (∀ i σ' H', i < n → Pv i σ' H' → g (.int (0 + i)) σ' H' fun σ2 H3 => tb' { D with nx := Pv (i + 1), ct := Pv (i + 1), bk := D.nx } σ2 H3) ∧ ∀ σ' H', Pv n σ' H' → D.nx σ' H') :
    Go K B (tFor (iRng1 (tCons ta tNil)) g tb') D σ H := fun H1 u => ha H1 u _ fun v H2 s2 m => by
  obtain ⟨Pv, p0, ps, pd⟩ := h H2 (u.then s2)
  refine ⟨hi, by rw [m.int_inv], b1.1, b1.2, ?_⟩
  rw [hn]
  exact for_range Pv p0 ps pd
end
/-- a deed's word -/
def wd : Dd → Str
  | .spot _ => "spot"
  | .book _ => "book"
  | .turn _ => "turn"
  | .dod _ _ => "do"
  | .both _ _ => "both"
  | .first _ => "first"
  | .second _ => "second"
theorem dd_wd (d : Dd) : ∃ r, dd d = .tuple (.str (wd d) :: r) := by cases d <;> exact ⟨_, rfl⟩
theorem Nod.ends {d : Dd} {x : Str} {ps : List Dd} (h : Nod d x ps) : decide (x ∈ (["spot", "book", "hole"] : List Str)) = false := by cases h <;> decide +kernel
/-- the word of a deed with parts that is no turn -/
theorem Nod.noturn {d : Dd} {x : Str} {ps : List Dd} (h : Nod d x ps) (ht : ¬ ∃ b, d = .turn b) : decide (x = "turn") = false := by
  cases h <;> first | exact absurd ⟨_, rfl⟩ ht | decide +kernel
theorem Nod.put {d : Dd} {x : Str} {ps : List Dd} (h : Nod d x ps) (ht : ¬ ∃ b, d = .turn b) (l : Nat) (e : Dd) (a : Nat) : Fw.dd (Dd.put l e a d) = .tuple (.str x :: ps.map fun p => Fw.dd (Dd.put l e a p)) := by
  cases h <;> first | exact absurd ⟨_, rfl⟩ ht | rfl
abbrev rTupOf (K : PySem.W.Frag) : List V → Hp → VK → Prop := fun xs H Q => ∃ p ys, xs = [V.ref p] ∧ ((SqL K H p ys ∧ ∀ l, H l = none → Q (.ref l) (upd H l (.tup ys))) ∨ (SqT K H p ys ∧ Q (.ref p) H))
/-- (word,) + tuple([f(part) for part in deed[1:]]) -/
theorem go_map {K : PySem.W.Frag} {B H : Hp} {σ : St} {tw te : TE} {v : V} {D : Ends} {d : Dd} {x : Str} {ps : List Dd} {i j : Nat} (hn : Nod d x ps) (hw : Ev K B tw σ H (.str x)) (e : σ[i]? = some (some v)) (h0 : Im K H v (.tuple (.str x :: ps.map dd))) (f : Dd → PyData)
    (he : ∀ p ∈ ps, ∀ v' H1, Up K B H H1 → Im K H1 v' (dd p) → Ev K B te ((σ.set j none).set j (some v')) H1 (f p)) (fin : ∀ v H1, Up K B H H1 → Im K H1 v (.tuple (.str x :: ps.map f)) → D.rt v H1) :
    Go K B (tRet (tOp (rCatA K) (tTup (tCons tw tNil)) (tCB (rTupOf K) (tCons (tLc (iTup K (tSl (rSlA K) (tVar i) (tPart (tC (.int 1))) tNoPart)) (gName j) tYes te [j]) tNil)))) D σ H := by
  refine go_ret (ev_cat (ev_tup (ea_cons hw ea_nil) (by simp)) (ev_tupL (el_lcN (rs := ps.map f) (ev_tail e h0) ?_ ?_ fun k d' r v' H1 h1' h2' u m' => ?_)) ?_) fin
  · have := hn.len; simp; omega
  · simp
  · rw [List.getElem?_map] at h1' h2'
    cases e : ps[k]? with
    | none => rw [e] at h1'; cases h1'
    | some p =>
      rw [e] at h1' h2'
      cases h1'
      cases h2'
      exact he p (List.mem_of_getElem? e) v' H1 u m'
  · have := hn.len; simp; omega
variable {P : Program} {w : World} {K : PySem.W.Frag} {mg : Str → Option Value} {base : Heap}
abbrev s_put_at : Stmt := top 35
abbrev nm_put_at : List Str := ["deed", "level", "other", "around", "word", "part"]
theorem sc_put_at : FnScope nm_put_at ["deed", "level", "other", "around"] (defScope s_put_at) := ⟨rfl, rfl, rfl, by decide +kernel, rfl, by decide +kernel, by decide +kernel⟩
def rPut (n m : Nat) : List PyData → PyData → Prop := fun ds r => ∃ (d e : Dd) (l a : Nat), d.depth ≤ n ∧ e.depth ≤ m ∧ l ≤ a ∧ ds = [dd d, .int l, dd e, .int a] ∧ r = dd (Dd.put l e a d)
theorem put_at_ok (T : Tx K mg) (m : Nat) (D : Dfn K mg "put_at" s_put_at ["deed", "level", "other", "around"]) (CM : Cal P w K mg base m "moved" ["deed", "given", "by"] (spI K (rMoved m))) :
    ∀ n, Cal P w K mg base (m + n) "put_at" ["deed", "level", "other", "around"] (spI K (rPut n m)) := by
  obtain ⟨f, fd, F, m_put_at, b_put_at⟩ := D
  obtain ⟨a_ENDS, g_ENDS, sE⟩ := T.ENDS
  have k_put_at := F.kp
  intro n
  refine ⟨f, fd, ?_, m_put_at, k_put_at, b_put_at⟩
  induction n with
  | zero => exact fn_none fun vs H Q E ⟨ds, d, ⟨x, _, _, _, hx, _⟩, _⟩ => absurd hx (by have := x.depth_pos; omega)
  | succ n G_put_at =>
    obtain ⟨_, _, G_moved, m_moved, k_moved, b_moved⟩ := CM.mono (show m ≤ m + n by omega)
    refine F.ok sc_put_at (spI_len fun ds d ⟨_, _, _, _, _, _, _, e, _⟩ => by rw [e]; rfl) (fun cdv A outer s H vs Q E hr h => ?_)
    obtain ⟨ds, r, ⟨d, e, l, a, hd, he, hla, rfl, rfl⟩, hm, q⟩ := h
    obtain ⟨v, vl, ve, va, rfl, h0, h1, h2, h3⟩ := inv4 hm
    have ea := h3.int_inv
    subst ea
    refine ⟨_, (pss_cons (ps_set (i := 4) sc_put_at.nd rfl (Or.inl rfl) (pe_ix ix_tup (pv 0) pe_int (fun _ _ => rfl)))
 (pss_cons (ps_if (pt_cmpR op_eq (pv 4) pe_str (nomark _))
 (pss_cons (ps_if (pt_cmpR op_eq (pe_ix ix_tup (pv 0) pe_int (fun _ _ => rfl)) (pv 1) (nomark _))
 (pss_one (ps_ret (pe_call G_moved hr rfl m_moved k_moved b_moved .nil pass0 (pa_cons (pv 2) (pa_cons (pv 1) (pa_cons (pe_op op_sub (pv 3) (pv 1)) pa_nil))))))
 pss_nil)
 (pss_cons (ps_if (pt_cmpR op_gt (pe_ix ix_tup (pv 0) pe_int (fun _ _ => rfl)) (pv 1) (nomark _))
 (pss_one (ps_ret (pe_tup (pa_cons pe_str (pa_cons (pe_op op_sub (pe_ix ix_tup (pv 0) pe_int (fun _ _ => rfl)) pe_int) pa_nil)))))
 pss_nil)
 (pss_one (ps_ret (pv 0)))))
 pss_nil)
 (pss_cons (ps_if (pt_cmpR op_in_seq (pv 4) (pe_glob (v := .ref a_ENDS) rfl g_ENDS rfl) rfl)
 (pss_one (ps_ret (pv 0)))
 pss_nil)
 (pss_cons (ps_if (pt_cmpR op_eq (pv 4) pe_str (nomark _))
 (pss_one (ps_aug (i := 3) sc_put_at.nd rfl (Or.inr rfl) pe_int ip_add))
 pss_nil)
 (pss_one (ps_ret (pe_op op_catA (pe_tup (pa_cons (pv 4) pa_nil)) (pe_callTy call_tuple_of rfl T.tuple_ (by decide +kernel) (pa_cons (pe_lc (own := [("part", 5)]) (g := gName 5) (tt := tYes) rfl sc_put_at.nd (pi_tup (pe_slice sl_tupA (pv 0) (po_some pe_int) po_none)) (blkOk_by (own := [("part", 5)]) (N := nm_put_at) (sc := defScope s_put_at) (by decide +kernel)) (fun _ _ _ _ _ => (pg_name (i := 5) sc_put_at.nd rfl (Or.inl rfl))) (fun _ _ _ _ _ => pts_nil) (fun _ _ _ _ _ => (pe_call G_put_at hr rfl m_put_at k_put_at b_put_at .nil pass0 (pa_cons (pv 5) (pa_cons (pv 1) (pa_cons (pv 2) (pa_cons (pv 3) pa_nil))))))) pa_nil))))))))), ?_⟩
    refine Go.run (K := K) (B := H) ?_ (.refl H)
    have fin : ∀ v H1, Up K H H H1 → Im K H1 v (dd (Dd.put l e a d)) → Q v H1 := fun v H1 u hv => q v H1 u.1 hv
    rcases nod_cases d with ⟨n, rfl⟩ | ⟨x, rfl⟩ | ⟨x, ps, hn⟩
    · refine go_set (ev_word rfl h0) fun vw H1 u hw => ?_
      refine go_ifs (b := true) ((et_test (ev_eqS (ev_var rfl hw) ev_str)).is (by decide +kernel)) (fun _ => ?_) (fun z => nomatch z)
      have h0' := h0.keep u.2
      have h1' := h1.keep u.2
      have fin' : ∀ v H2, Up K H H1 H2 → Im K H2 v (dd (Dd.put l e a (.spot n))) → Q v H2 := fun v H2 u2 hv => fin v H2 ⟨u2.1, u.2.trans u2.2⟩ hv
      refine go_ifs (et_test (ev_eqI (ev_ix (ev_var rfl h0') ev_int rfl) (ev_var rfl h1'))) (fun z => ?_) (fun z => ?_)
      · have hz : n = l := by have := of_decide_eq_true z; omega
        rw [Dd.put, if_pos hz] at fin'
        exact go_ret (ev_call (ea_cons (ev_var rfl (h2.keep u.2)) (ea_cons (ev_var rfl h1') (ea_cons ((ev_sub (ev_var rfl (.int a)) (ev_var rfl h1')).is (show PyData.int ((a : Int) - (l : Int)) = .int ((a - l : Nat) : Int) by congr 1; omega)) ea_nil))) ⟨e, l, a - l, he, rfl, rfl⟩) fin'
      · have hz : ¬ n = l := by have := of_decide_eq_false z; omega
        rw [Dd.put, if_neg hz] at fin'
        refine go_ifs (et_test (ev_gt (ev_ix (ev_var rfl h0') ev_int rfl) (ev_var rfl h1'))) (fun z2 => ?_) (fun z2 => ?_)
        · have hz2 : l < n := by have := of_decide_eq_true z2; omega
          rw [if_pos hz2] at fin'
          exact go_ret ((ev_tup (ea_cons ev_str (ea_cons (ev_sub (ev_ix (ev_var rfl h0') ev_int rfl) ev_int) ea_nil)) (by simp)).is (show PyData.tuple [.str "spot", .int ((n : Int) - 1)] = .tuple [.str "spot", .int ((n - 1 : Nat) : Int)] by congr 4; omega)) fin'
        · have hz2 : ¬ l < n := by have := of_decide_eq_false z2; omega
          rw [if_neg hz2] at fin'
          exact go_ret (ev_var rfl h0') fin'
    · refine go_set (ev_word rfl h0) fun vw H1 u hw => ?_
      refine go_ifs (b := false) ((et_test (ev_eqS (ev_var rfl hw) ev_str)).is (by decide +kernel)) (fun z => nomatch z) (fun _ => ?_)
      refine go_ifs (b := true) ((et_test (ev_inT (ev_var rfl hw) (ev_strsT sE))).is (by decide +kernel)) (fun _ => ?_) (fun z => nomatch z)
      exact go_ret (ev_var rfl (h0.keep u.2)) fun v H2 u2 hv => fin v H2 ⟨u2.1, u.2.trans u2.2⟩ hv
    · have h0d := h0
      rw [hn.dd] at h0
      refine go_set (ev_word rfl h0) fun vw H1 u hw => ?_
      refine go_ifs ((et_test (ev_eqS (ev_var rfl hw) ev_str)).is hn.spot) (fun z => nomatch z) (fun _ => ?_)
      refine go_ifs ((et_test (ev_inT (ev_var rfl hw) (ev_strsT sE))).is hn.ends) (fun z => nomatch z) (fun _ => ?_)
      have he' : ∀ (b : Nat) (H2 : Hp), l ≤ b → Up K H H1 H2 → ∀ p ∈ ps, ∀ v' H3, Up K H H2 H3 → Im K H3 v' (dd p) →
          Ev K H (tCall (spI K (rPut n m)) [] E0 (tCons (tVar 5) (tCons (tVar 1) (tCons (tVar 2) (tCons (tVar 3) tNil))))) [some v, some vl, some ve, some (.int b), some vw, some v'] H3 (dd (Dd.put l e b p)) := fun b H2 hb u2 p hp v' H3 u3 m' => by
        have k3 : TK K H H3 := (u.2.trans u2.2).trans u3.2
        exact ev_call (ea_cons (ev_var (i := 5) rfl m') (ea_cons (ev_var (i := 1) rfl (h1.keep k3)) (ea_cons (ev_var (i := 2) rfl (h2.keep k3)) (ea_cons (ev_var (i := 3) rfl (.int b)) ea_nil)))) ⟨p, e, l, b, by have := hn.depth p hp; omega, he, hb, rfl, rfl⟩
      by_cases ht : ∃ b, d = .turn b
      · obtain ⟨b, rfl⟩ := ht
        cases hn
        refine go_ifs (b := true) ((et_test (ev_eqS (ev_var rfl hw) ev_str)).is (by decide +kernel)) (fun _ => ?_) (fun z => nomatch z)
        refine go_aug (i := 3) rfl ev_int fun H2 u2 => ?_
        have u02 : Up K H H H2 := ⟨u2.1, u.2.trans u2.2⟩
        exact (go_map .turn (i := 0) (ev_var (i := 4) rfl (hw.keep u2.2)) rfl (h0.keep u02.2) (fun p => dd (Dd.put l e (a + 1) p)) (he' (a + 1) H2 (by omega) u2) fun v H3 u3 hv => fin v H3 ⟨u3.1, u02.2.trans u3.2⟩ hv).run u2.1
      · refine go_ifs ((et_test (ev_eqS (ev_var rfl hw) ev_str)).is (hn.noturn ht)) (fun z => nomatch z) (fun _ => ?_)
        rw [hn.put ht l e a] at fin
        exact go_map hn (i := 0) (ev_var (i := 4) rfl hw) rfl (h0.keep u.2) (fun p => dd (Dd.put l e a p)) (he' a H1 hla (.refl u.1)) fun v H3 u3 hv => fin v H3 ⟨u3.1, u.2.trans u3.2⟩ hv
end Fw
set_option Elab.async false
set_option linter.all false
set_option maxRecDepth 100000
set_option maxHeartbeats 1000000
namespace Fw
open PySem L2 Fd
section
variable {K : PySem.W.Frag} {B H : Hp} {σ : St} {v : V}
theorem et_word1 {i : Nat} {x : Str} {f : Dd} {r : List PyData} {s : Str} {b : Bool} (e : σ[i]? = some (some v)) (h : Im K H v (.tuple (.str x :: dd f :: r))) (hb : decide (wd f = s) = b) :
    EvT K B (tTest (tOp rEq (tOp (rIxT K) (tOp (rIxT K) (tVar i) (tC (.int 1))) (tC (.int 0))) (tC (.str s)))) σ H b := by
  obtain ⟨r', hr⟩ := dd_wd f
  rw [hr] at h
  exact (et_test (ev_eqS (ev_ix (ev_ix (ev_var e h) ev_int (atI_nat (j := 1) rfl)) ev_int (atI_nat (j := 0) rfl)) ev_str)).is hb
end
theorem cutD_lo (xs : List PyData) (k : Nat) (h : k ≤ xs.length) : cutD xs none (some (k : Int)) = xs.take k := by
  unfold cutD
  rw [HT.sIx_none, HT.sIx_nat, List.drop_zero, Nat.sub_zero, Nat.min_eq_left h]
theorem cutD_hi (xs : List PyData) (k : Nat) : cutD xs (some (k : Int)) none = xs.drop k := by
  unfold cutD
  rw [HT.sIx_none, HT.sIx_nat]
  by_cases h : k ≤ xs.length
  · rw [Nat.min_eq_left h, List.take_of_length_le (by rw [List.length_drop]; exact Nat.le_refl _)]
  · rw [Nat.min_eq_right (by omega), List.drop_eq_nil_of_le (by omega : xs.length ≤ k), List.drop_eq_nil_of_le (Nat.le_refl _), List.take_nil]
theorem wd_turn {f : Dd} (h : ∀ b, f ≠ .turn b) : decide (wd f = "turn") = false := by
  cases f with
  | spot n => exact (by decide +kernel : decide (("spot" : Str) = "turn") = false)
  | book n => exact (by decide +kernel : decide (("book" : Str) = "turn") = false)
  | turn n => exact absurd rfl (h _)
  | dod a b => exact (by decide +kernel : decide (("do" : Str) = "turn") = false)
  | both a b => exact (by decide +kernel : decide (("both" : Str) = "turn") = false)
  | first n => exact (by decide +kernel : decide (("first" : Str) = "turn") = false)
  | second n => exact (by decide +kernel : decide (("second" : Str) = "turn") = false)
theorem wd_both {f : Dd} (h : ∀ a b, f ≠ .both a b) : decide (wd f = "both") = false := by
  cases f with
  | spot n => exact (by decide +kernel : decide (("spot" : Str) = "both") = false)
  | book n => exact (by decide +kernel : decide (("book" : Str) = "both") = false)
  | turn n => exact (by decide +kernel : decide (("turn" : Str) = "both") = false)
  | dod a b => exact (by decide +kernel : decide (("do" : Str) = "both") = false)
  | both a b => exact absurd rfl (h _ _)
  | first n => exact (by decide +kernel : decide (("first" : Str) = "both") = false)
  | second n => exact (by decide +kernel : decide (("second" : Str) = "both") = false)
def od : Option Dd → PyData
  | none => .none
  | some d => dd d
/-- the level of the parts -/
def lev (d : Dd) (g : Nat) : Nat := match d with
  | .turn _ => g + 1
  | _ => g
theorem step_none {d : Dd} {x : Str} {ps : List Dd} {g : Nat} (hn : Nod d x ps) (hh : Dd.here g d = none) (h : ∀ p ∈ ps, Dd.step (lev d g) p = none) : Dd.step g d = none := by
  cases hn with
  | turn =>
    have h1 := h _ List.mem_cons_self
    rw [Dd.step]
    show (Dd.step (g + 1) _).map Dd.turn = none
    rw [show Dd.step (g + 1) _ = none from h1]; rfl
  | first =>
    have h1 := h _ List.mem_cons_self
    rw [Dd.step, hh]
    show (Dd.step g _).map Dd.first = none
    rw [show Dd.step g _ = none from h1]; rfl
  | second =>
    have h1 := h _ List.mem_cons_self
    rw [Dd.step, hh]
    show (Dd.step g _).map Dd.second = none
    rw [show Dd.step g _ = none from h1]; rfl
  | dod =>
    have h1 : Dd.step g _ = none := h _ List.mem_cons_self
    have h2 : Dd.step g _ = none := h _ (List.mem_cons_of_mem _ List.mem_cons_self)
    rw [Dd.step, hh]
    simp only [h1, h2, Option.map_none]
  | both =>
    have h1 : Dd.step g _ = none := h _ List.mem_cons_self
    have h2 : Dd.step g _ = none := h _ (List.mem_cons_of_mem _ List.mem_cons_self)
    rw [Dd.step, h1]
    simp only [h2, Option.map_none]
theorem step_some {d : Dd} {x : Str} {ps : List Dd} {g : Nat} (hn : Nod d x ps) (hh : Dd.here g d = none) {i : Nat} {p r : Dd} (hi : ps[i]? = some p) (hr : Dd.step (lev d g) p = some r) (hb : ∀ j q, j < i → ps[j]? = some q → Dd.step (lev d g) q = none) :
    ∃ d', Dd.step g d = some d' ∧ dd d' = .tuple (.str x :: ((ps.map dd).take i ++ [dd r] ++ (ps.map dd).drop (i + 1))) := by
  cases hn with
  | turn =>
    match i, hi with
    | 0, hi =>
      cases hi
      refine ⟨.turn r, ?_, rfl⟩
      rw [Dd.step]
      show (Dd.step (g + 1) _).map Dd.turn = _
      rw [show Dd.step (g + 1) _ = some r from hr]; rfl
  | first =>
    match i, hi with
    | 0, hi =>
      cases hi
      refine ⟨.first r, ?_, rfl⟩
      rw [Dd.step, hh]
      show (Dd.step g _).map Dd.first = _
      rw [show Dd.step g _ = some r from hr]; rfl
  | second =>
    match i, hi with
    | 0, hi =>
      cases hi
      refine ⟨.second r, ?_, rfl⟩
      rw [Dd.step, hh]
      show (Dd.step g _).map Dd.second = _
      rw [show Dd.step g _ = some r from hr]; rfl
  | @dod f e =>
    match i, hi with
    | 0, hi =>
      cases hi
      refine ⟨.dod r e, ?_, rfl⟩
      have hr' : Dd.step g p = some r := hr
      rw [Dd.step, hh]
      simp only [hr']
    | 1, hi =>
      cases hi
      have hf : Dd.step g f = none := hb 0 f (by omega) rfl
      have hr' : Dd.step g p = some r := hr
      refine ⟨.dod f r, ?_, rfl⟩
      rw [Dd.step, hh]
      simp only [hf, hr', Option.map_some]
  | @both f e =>
    match i, hi with
    | 0, hi =>
      cases hi
      refine ⟨.both r e, ?_, rfl⟩
      have hr' : Dd.step g p = some r := hr
      rw [Dd.step, hr']
    | 1, hi =>
      cases hi
      have hf : Dd.step g f = none := hb 0 f (by omega) rfl
      have hr' : Dd.step g p = some r := hr
      refine ⟨.both f r, ?_, rfl⟩
      rw [Dd.step, hf]
      simp only [hr', Option.map_some]
variable {P : Program} {w : World} {K : PySem.W.Frag} {mg : Str → Option Value} {base : Heap}
abbrev s_put_for : Stmt := top 34
abbrev nm_put_for : List Str := ["deed", "level", "other"]
theorem sc_put_for : FnScope nm_put_for ["deed", "level", "other"] (defScope s_put_for) := ⟨rfl, rfl, rfl, by decide +kernel, rfl, by decide +kernel, by decide +kernel⟩
def rPutFor (n m : Nat) : List PyData → PyData → Prop := fun ds r => ∃ (d e : Dd) (l : Nat), d.depth ≤ n ∧ e.depth ≤ m ∧ ds = [dd d, .int l, dd e] ∧ r = dd (Dd.put l e l d)
theorem put_for_ok (n m : Nat) (D : Dfn K mg "put_for" s_put_for ["deed", "level", "other"]) (CP : Cal P w K mg base (m + n) "put_at" ["deed", "level", "other", "around"] (spI K (rPut n m))) : Cal P w K mg base (m + n + 1) "put_for" ["deed", "level", "other"] (spI K (rPutFor n m)) := by
  obtain ⟨f, fd, F, m_, b_⟩ := D
  obtain ⟨_, _, G_put_at, m_put_at, k_put_at, b_put_at⟩ := CP
  refine ⟨f, fd, F.ok sc_put_for (spI_len fun ds d ⟨_, _, _, _, _, e, _⟩ => by rw [e]; rfl) (fun cdv A outer s H vs Q E hr h => ?_), m_, F.kp, b_⟩
  obtain ⟨ds, r, ⟨d, e, l, hd, he, rfl, rfl⟩, hm, q⟩ := h
  obtain ⟨v, vl, ve, rfl, h0, h1, h2⟩ := inv3 hm
  refine ⟨_, (pss_one (ps_ret (pe_call G_put_at hr rfl m_put_at k_put_at b_put_at .nil pass0 (pa_cons (pv 0) (pa_cons (pv 1) (pa_cons (pv 2) (pa_cons (pv 1) pa_nil))))))), ?_⟩
  exact (go_ret (K := K) (B := H) (ev_call (ea_cons (ev_var rfl h0) (ea_cons (ev_var rfl h1) (ea_cons (ev_var rfl h2) (ea_cons (ev_var rfl h1) ea_nil)))) ⟨d, e, l, l, hd, he, Nat.le_refl _, rfl, rfl⟩) fun v H1 u hv => q v H1 u.1 hv).run (.refl H)
abbrev s_done_here : Stmt := top 36
abbrev nm_done_here : List Str := ["deed", "given"]
theorem sc_done_here : FnScope nm_done_here ["deed", "given"] (defScope s_done_here) := ⟨rfl, rfl, rfl, by decide +kernel, rfl, by decide +kernel, by decide +kernel⟩
def rHere (n : Nat) : List PyData → PyData → Prop := fun ds r => ∃ (d : Dd) (g : Nat), d.depth ≤ n ∧ ds = [dd d, .int g] ∧ r = od (Dd.here g d)
theorem done_here_ok (n : Nat) (D : Dfn K mg "done_here" s_done_here ["deed", "given"]) (CP : Cal P w K mg base (n + n + 1) "put_for" ["deed", "level", "other"] (spI K (rPutFor n n))) : Cal P w K mg base (n + n + 2) "done_here" ["deed", "given"] (spI K (rHere n)) := by
  obtain ⟨f, fd, F, m_, b_⟩ := D
  obtain ⟨_, _, G_put_for, m_put_for, k_put_for, b_put_for⟩ := CP
  refine ⟨f, fd, F.ok sc_done_here (spI_len fun ds d ⟨_, _, _, e, _⟩ => by rw [e]; rfl) (fun cdv A outer s H vs Q E hr h => ?_), m_, F.kp, b_⟩
  obtain ⟨ds, r, ⟨d, g, hd, rfl, rfl⟩, hm, q⟩ := h
  obtain ⟨v, vg, rfl, h0, h1⟩ := inv2 hm
  refine ⟨_, (pss_cons (ps_if (PW.pt (pw_and (pt_cmpR op_eq (pe_ix ix_tup (pv 0) pe_int (fun _ _ => rfl)) pe_str (nomark _)) (pw_and1 (pt_cmpR op_eq (pe_ix ix_tup (pe_ix ix_tup (pv 0) pe_int (fun _ _ => rfl)) pe_int (fun _ _ => rfl)) pe_str (nomark _)))))
 (pss_one (ps_ret (pe_call G_put_for hr rfl m_put_for k_put_for b_put_for .nil pass0 (pa_cons (pe_ix ix_tup (pe_ix ix_tup (pv 0) pe_int (fun _ _ => rfl)) pe_int (fun _ _ => rfl)) (pa_cons (pv 1) (pa_cons (pe_ix ix_tup (pv 0) pe_int (fun _ _ => rfl)) pa_nil))))))
 pss_nil)
 (pss_cons (ps_if (PW.pt (pw_and (pt_cmpR op_eq (pe_ix ix_tup (pv 0) pe_int (fun _ _ => rfl)) pe_str (nomark _)) (pw_and1 (pt_cmpR op_eq (pe_ix ix_tup (pe_ix ix_tup (pv 0) pe_int (fun _ _ => rfl)) pe_int (fun _ _ => rfl)) pe_str (nomark _)))))
 (pss_one (ps_ret (pe_ix ix_tup (pe_ix ix_tup (pv 0) pe_int (fun _ _ => rfl)) pe_int (fun _ _ => rfl))))
 pss_nil)
 (pss_cons (ps_if (PW.pt (pw_and (pt_cmpR op_eq (pe_ix ix_tup (pv 0) pe_int (fun _ _ => rfl)) pe_str (nomark _)) (pw_and1 (pt_cmpR op_eq (pe_ix ix_tup (pe_ix ix_tup (pv 0) pe_int (fun _ _ => rfl)) pe_int (fun _ _ => rfl)) pe_str (nomark _)))))
 (pss_one (ps_ret (pe_ix ix_tup (pe_ix ix_tup (pv 0) pe_int (fun _ _ => rfl)) pe_int (fun _ _ => rfl))))
 pss_nil)
 (pss_one (ps_ret pe_non))))), ?_⟩
  refine Go.run (K := K) (B := H) ?_ (.refl H)
  have fin : ∀ v H1, Up K H H H1 → Im K H1 v (od (Dd.here g d)) → Q v H1 := fun v H1 u hv => q v H1 u.1 hv
  have no : ∀ {x : Str} {r : List PyData} {s : Str} {tu : TT} (h : Im K H v (.tuple (.str x :: r))) (hb : decide (x = s) = false), EvT K H (tAnd (tTest (tOp rEq (tOp (rIxT K) (tVar 0) (tC (.int 0))) (tC (.str s)))) tu) (L2.start nm_done_here [v, vg]) H false :=
    fun {x r s tu} h hb => (et_and (b := false) (et_word rfl h hb) fun z => nomatch z).is rfl
  cases d with
  | spot m =>
    refine go_ifs (no h0 (by decide +kernel)) (fun z => nomatch z) (fun _ => ?_)
    refine go_ifs (no h0 (by decide +kernel)) (fun z => nomatch z) (fun _ => ?_)
    refine go_ifs (no h0 (by decide +kernel)) (fun z => nomatch z) (fun _ => ?_)
    exact go_ret ev_non fin
  | book m =>
    refine go_ifs (no h0 (by decide +kernel)) (fun z => nomatch z) (fun _ => ?_)
    refine go_ifs (no h0 (by decide +kernel)) (fun z => nomatch z) (fun _ => ?_)
    refine go_ifs (no h0 (by decide +kernel)) (fun z => nomatch z) (fun _ => ?_)
    exact go_ret ev_non fin
  | turn m =>
    refine go_ifs (no h0 (by decide +kernel)) (fun z => nomatch z) (fun _ => ?_)
    refine go_ifs (no h0 (by decide +kernel)) (fun z => nomatch z) (fun _ => ?_)
    refine go_ifs (no h0 (by decide +kernel)) (fun z => nomatch z) (fun _ => ?_)
    exact go_ret ev_non fin
  | both x y =>
    refine go_ifs (no h0 (by decide +kernel)) (fun z => nomatch z) (fun _ => ?_)
    refine go_ifs (no h0 (by decide +kernel)) (fun z => nomatch z) (fun _ => ?_)
    refine go_ifs (no h0 (by decide +kernel)) (fun z => nomatch z) (fun _ => ?_)
    exact go_ret ev_non fin
  | dod f e =>
    by_cases ht : ∃ b, f = .turn b
    · obtain ⟨b, rfl⟩ := ht
      simp only [Dd.depth] at hd
      refine go_ifs (b := true) ((et_and (et_word rfl h0 (b := true) (by decide +kernel)) fun _ => et_word1 rfl h0 (b := true) (by show decide (("turn" : Str) = "turn") = true; decide +kernel)).is rfl) (fun _ => ?_) (fun z => nomatch z)
      exact go_ret (ev_call (ea_cons (ev_ix (ev_ix (ev_var rfl h0) ev_int rfl) ev_int rfl) (ea_cons (ev_var rfl h1) (ea_cons (ev_ix (ev_var rfl h0) ev_int rfl) ea_nil))) ⟨b, e, g, by omega, by omega, rfl, rfl⟩) fin
    · have hw : decide (wd f = "turn") = false := wd_turn fun b q => ht ⟨b, q⟩
      have hh : Dd.here g (.dod f e) = none := here_ne fun b q => ht ⟨b, q⟩
      rw [hh] at fin
      refine go_ifs (b := false) ((et_and (et_word rfl h0 (b := true) (by decide +kernel)) fun _ => et_word1 rfl h0 hw).is rfl) (fun z => nomatch z) (fun _ => ?_)
      refine go_ifs (no h0 (by decide +kernel)) (fun z => nomatch z) (fun _ => ?_)
      refine go_ifs (no h0 (by decide +kernel)) (fun z => nomatch z) (fun _ => ?_)
      exact go_ret ev_non fin
  | first f =>
    refine go_ifs (no h0 (by decide +kernel)) (fun z => nomatch z) (fun _ => ?_)
    by_cases ht : ∃ a b, f = .both a b
    · obtain ⟨a, b, rfl⟩ := ht
      refine go_ifs (b := true) ((et_and (et_word rfl h0 (b := true) (by decide +kernel)) fun _ => et_word1 rfl h0 (b := true) (by show decide (("both" : Str) = "both") = true; decide +kernel)).is rfl) (fun _ => ?_) (fun z => nomatch z)
      exact go_ret (ev_ix (ev_ix (ev_var rfl h0) ev_int rfl) ev_int rfl) fin
    · have hw : decide (wd f = "both") = false := wd_both fun a b q => ht ⟨a, b, q⟩
      have hh : Dd.here g (.first f) = none := here_nf fun a b q => ht ⟨a, b, q⟩
      rw [hh] at fin
      refine go_ifs (b := false) ((et_and (et_word rfl h0 (b := true) (by decide +kernel)) fun _ => et_word1 rfl h0 hw).is rfl) (fun z => nomatch z) (fun _ => ?_)
      refine go_ifs (no h0 (by decide +kernel)) (fun z => nomatch z) (fun _ => ?_)
      exact go_ret ev_non fin
  | second f =>
    refine go_ifs (no h0 (by decide +kernel)) (fun z => nomatch z) (fun _ => ?_)
    refine go_ifs (no h0 (by decide +kernel)) (fun z => nomatch z) (fun _ => ?_)
    by_cases ht : ∃ a b, f = .both a b
    · obtain ⟨a, b, rfl⟩ := ht
      refine go_ifs (b := true) ((et_and (et_word rfl h0 (b := true) (by decide +kernel)) fun _ => et_word1 rfl h0 (b := true) (by show decide (("both" : Str) = "both") = true; decide +kernel)).is rfl) (fun _ => ?_) (fun z => nomatch z)
      exact go_ret (ev_ix (ev_ix (ev_var rfl h0) ev_int rfl) ev_int rfl) fin
    · have hw : decide (wd f = "both") = false := wd_both fun a b q => ht ⟨a, b, q⟩
      have hh : Dd.here g (.second f) = none := here_ns fun a b q => ht ⟨a, b, q⟩
      rw [hh] at fin
      refine go_ifs (b := false) ((et_and (et_word rfl h0 (b := true) (by decide +kernel)) fun _ => et_word1 rfl h0 hw).is rfl) (fun z => nomatch z) (fun _ => ?_)
      exact go_ret ev_non fin
end Fw
set_option Elab.async false
set_option linter.all false
set_option maxRecDepth 100000
set_option maxHeartbeats 1000000
namespace Fw
open PySem L2 Fd
section
variable {K : PySem.W.Frag} {B H : Hp} {σ : St} {v : V} {D : Ends}
theorem go_next (q : ∀ H1, Up K B H H1 → D.nx σ H1) : Go K B tNext D σ H := fun H1 u => q H1 u
def isN : PyData → Bool
  | .none => true
  | _ => false
variable {ta : TE} {d : PyData}
theorem ev_isN' (ha : Ev K B ta σ H d) : Ev K B (tIsN ta) σ H (.bool (isN d)) := fun H1 u Q q => ha H1 u _ fun v H2 s m => by
  cases m with
  | non => exact q _ H2 s (.bl true)
  | bl b => exact q _ H2 s (.bl false)
  | int i => exact q _ H2 s (.bl false)
  | str x => exact q _ H2 s (.bl false)
  | tup _ _ => exact q _ H2 s (.bl false)
theorem ev_notN' (ha : Ev K B ta σ H d) : Ev K B (tNotN ta) σ H (.bool (!isN d)) := fun H1 u Q q => ha H1 u _ fun v H2 s m => by
  cases m with
  | non => exact q _ H2 s (.bl false)
  | bl b => exact q _ H2 s (.bl true)
  | int i => exact q _ H2 s (.bl true)
  | str x => exact q _ H2 s (.bl true)
  | tup _ _ => exact q _ H2 s (.bl true)
theorem isN_dd (d : Dd) : isN (dd d) = false := by cases d <;> rfl
theorem et_found {d : Dd} (ha : Ev K B ta σ H (dd d)) : EvT K B (tB (tNotN ta)) σ H true := (et_B (ev_notN' ha)).is (by rw [isN_dd]; rfl)
theorem et_lost (ha : Ev K B ta σ H .none) : EvT K B (tB (tNotN ta)) σ H false := et_B (ev_notN' ha)
end
theorem here_step {g : Nat} {d r : Dd} (h : Dd.here g d = some r) : Dd.step g d = some r := by
  cases d with
  | dod f e => rw [Dd.step, h]
  | first f => rw [Dd.step, h]
  | second f => rw [Dd.step, h]
  | _ => cases h
theorem at_part {x : Str} {ps : List Dd} {i : Nat} {p : Dd} (h : ps[i]? = some p) : atI (PyData.str x :: ps.map dd) (1 + (i : Int)) = some (dd p) := by
  rw [show (1 + (i : Int)) = ((i + 1 : Nat) : Int) by omega]
  refine atI_nat ?_
  rw [List.getElem?_cons_succ, List.getElem?_map, h]; rfl
variable {P : Program} {w : World} {K : PySem.W.Frag} {mg : Str → Option Value} {base : Heap}
abbrev s_step_at : Stmt := top 37
abbrev nm_step_at : List Str := ["deed", "given", "found", "place"]
theorem sc_step_at : FnScope nm_step_at ["deed", "given"] (defScope s_step_at) := ⟨rfl, rfl, rfl, by decide +kernel, rfl, by decide +kernel, by decide +kernel⟩
def rStep (n : Nat) : List PyData → PyData → Prop := fun ds r => ∃ (d : Dd) (g : Nat), d.depth ≤ n ∧ ds = [dd d, .int g] ∧ r = od (Dd.step g d)
theorem step_at_ok (T : Tx K mg) (D : Dfn K mg "step_at" s_step_at ["deed", "given"]) (CH : ∀ n, Cal P w K mg base (n + n + 2) "done_here" ["deed", "given"] (spI K (rHere n))) : ∀ n, Cal P w K mg base (n + n + 3) "step_at" ["deed", "given"] (spI K (rStep n)) := by
  obtain ⟨f, fd, F, m_step_at, b_step_at⟩ := D
  obtain ⟨a_ENDS, g_ENDS, sE⟩ := T.ENDS
  have k_step_at := F.kp
  intro n
  refine ⟨f, fd, ?_, m_step_at, k_step_at, b_step_at⟩
  induction n with
  | zero => exact fn_none fun vs H Q E ⟨ds, d, ⟨x, _, hx, _⟩, _⟩ => absurd hx (by have := x.depth_pos; omega)
  | succ n G0 =>
    have G_step_at := G0.mono (show n + n + 3 ≤ n + 1 + (n + 1) + 2 by omega)
    obtain ⟨_, _, G_done_here, m_done_here, k_done_here, b_done_here⟩ := CH (n + 1)
    refine F.ok sc_step_at (spI_len fun ds d ⟨_, _, _, e, _⟩ => by rw [e]; rfl) (fun cdv A outer s H vs Q E hr h => ?_)
    obtain ⟨ds, r, ⟨d, g, hd, rfl, rfl⟩, hm, q⟩ := h
    obtain ⟨v, vg, rfl, h0, h1⟩ := inv2 hm
    have eg := h1.int_inv
    subst eg
    refine ⟨_, (pss_cons (ps_set (i := 2) sc_step_at.nd rfl (Or.inl rfl) (pe_call G_done_here hr rfl m_done_here k_done_here b_done_here .nil pass0 (pa_cons (pv 0) (pa_cons (pv 1) pa_nil))))
 (pss_cons (ps_if (PW.pt (pw_or (pt_cmp (pc_notN (pv 2))) (pw_or1 (pt_cmpR op_in_seq (pe_ix ix_tup (pv 0) pe_int (fun _ _ => rfl)) (pe_glob (v := .ref a_ENDS) rfl g_ENDS rfl) rfl))))
 (pss_one (ps_ret (pv 2)))
 pss_nil)
 (pss_cons (ps_if (pt_cmpR op_eq (pe_ix ix_tup (pv 0) pe_int (fun _ _ => rfl)) pe_str (nomark _))
 (pss_one (ps_aug (i := 1) sc_step_at.nd rfl (Or.inl rfl) pe_int ip_add))
 pss_nil)
 (pss_cons (ps_for PassesOwn.never rfl (pi_range2 rfl T.range_ (pa_cons pe_int (pa_cons (pe_callB call_len_seq rfl T.len_ (by decide +kernel) (pa_cons (pv 0) pa_nil)) pa_nil))) (pg_name (i := 3) sc_step_at.nd rfl (Or.inl rfl))
 (pss_cons (ps_set (i := 2) sc_step_at.nd rfl (Or.inl rfl) (pe_call G_step_at hr rfl m_step_at k_step_at b_step_at .nil pass0 (pa_cons (pe_ix ix_tup (pv 0) (pv 3) (fun _ _ => rfl)) (pa_cons (pv 1) pa_nil))))
 (pss_one (ps_if (pt_cmp (pc_notN (pv 2)))
 (pss_one (ps_ret (pe_op op_catA (pe_op op_catA (pe_slice sl_tupA (pv 0) po_none (po_some (pv 3))) (pe_tup (pa_cons (pv 2) pa_nil))) (pe_slice sl_tupA (pv 0) (po_some (pe_op op_add (pv 3) pe_int)) po_none))))
 pss_nil))))
 (pss_one (ps_ret pe_non)))))), ?_⟩
    refine Go.run (K := K) (B := H) ?_ (.refl H)
    have fin : ∀ v H1, Up K H H H1 → Im K H1 v (od (Dd.step g d)) → Q v H1 := fun v H1 u hv => q v H1 u.1 hv
    refine go_set (ev_call (ea_cons (ev_var rfl h0) (ea_cons (ev_var rfl h1) ea_nil)) ⟨d, g, hd, rfl, rfl⟩) fun vf H1 u hf => ?_
    have fin' : ∀ v H2, Up K H H1 H2 → Im K H2 v (od (Dd.step g d)) → Q v H2 := fun v H2 u2 hv => fin v H2 ⟨u2.1, u.2.trans u2.2⟩ hv
    have h0' := h0.keep u.2
    cases hh : Dd.here g d with
    | some r =>
      rw [hh] at hf
      refine go_ifs (b := true) ((et_or (et_found (d := r) (ev_var rfl hf)) fun z => nomatch z).is (b := true || false) rfl) (fun _ => ?_) (fun z => nomatch z)
      rw [here_step hh] at fin'
      exact go_ret (ev_var rfl hf) fin'
    | none =>
    rw [hh] at hf
    have isn : EvT K H (tB (tNotN (tVar 2))) [some v, some (.int (g : Int)), some vf, none] H1 false := et_lost (ev_var (i := 2) rfl hf)
    rcases nod_cases d with ⟨m, rfl⟩ | ⟨x, rfl⟩ | ⟨x, ps, hn⟩
    · refine go_ifs (b := true) ((et_or isn fun _ => (et_test (ev_inT (ev_word rfl h0') (ev_strsT sE))).is (b' := true) (by decide +kernel)).is rfl) (fun _ => ?_) (fun z => nomatch z)
      exact go_ret (ev_var rfl hf) fin'
    · refine go_ifs (b := true) ((et_or isn fun _ => (et_test (ev_inT (ev_word rfl h0') (ev_strsT sE))).is (b' := true) (by decide +kernel)).is rfl) (fun _ => ?_) (fun z => nomatch z)
      exact go_ret (ev_var rfl hf) fin'
    · have h0d := h0'
      rw [hn.dd] at h0'
      refine go_ifs (b := false) ((et_or isn fun _ => (et_test (ev_inT (ev_word rfl h0') (ev_strsT sE))).is hn.ends).is rfl) (fun z => nomatch z) (fun _ => ?_)
      have loop : ∀ (H2 : Hp), Up K H H1 H2 → Go K H (tSeq (tFor (iRng2 (tCons (tC (.int 1)) (tCons (tCB (fun xs H Q => ∃ p ys, xs = [V.ref p] ∧ (SqL K H p ys ∨ SqT K H p ys) ∧ Q (.int ys.length) H) (tCons (tVar 0) tNil)) tNil))) (gName 3)
          (tSeq (tAsg (tCall (spI K (rStep n)) [] E0 (tCons (tOp (rIxT K) (tVar 0) (tVar 3)) (tCons (tVar 1) tNil))) (gName 2))
            (tIfS (tB (tNotN (tVar 2))) (tRet (tOp (rCatA K) (tOp (rCatA K) (tSl (rSlA K) (tVar 0) tNoPart (tPart (tVar 3))) (tTup (tCons (tVar 2) tNil))) (tSl (rSlA K) (tVar 0) (tPart (tOp (rI0 fun i j => .int (i + j)) (tVar 3) (tC (.int 1)))) tNoPart))) tNext))) (tRet (tC .non)))
          { nx := fun x H' => Q V.non H', rt := Q } [some v, some (.int (lev d g)), some vf, none] H2 := fun H2 u2 => by
        have k2 : TK K H H2 := u.2.trans u2.2
        refine go_seq (go_forR2 (n := ps.length) ev_int (ev_lenT (ev_var rfl (h0'.keep u2.2))) (by simp) (by have := hn.len; simp; omega) fun H3 u3 =>
          ⟨fun i σ' H' => (∃ a b, σ' = [some v, some (.int (lev d g)), a, b]) ∧ Up K H H1 H' ∧ ∀ j q, j < i → ps[j]? = some q → Dd.step (lev d g) q = none, ⟨⟨_, _, rfl⟩, ⟨u3.1, u2.2.trans u3.2⟩, fun j q hj => absurd hj (Nat.not_lt_zero _)⟩, fun i σ' H' hi ⟨⟨a, b, es⟩, u4, hb⟩ => ?_, fun σ' H' ⟨⟨a, b, es⟩, u4, hb⟩ => ?_⟩)
        · subst es
          have hp : ps[i]? = some ps[i] := List.getElem?_eq_getElem hi
          have hdp := hn.depth _ (List.getElem_mem hi)
          refine (go_set (K := K) (B := H) (H := H1) (ev_call (ea_cons (ev_ix (ev_var (i := 0) rfl h0') (ev_var (i := 3) rfl (.int _)) (at_part hp)) (ea_cons (ev_var (i := 1) rfl (.int _)) ea_nil)) ⟨ps[i], lev d g, by omega, rfl, rfl⟩) fun vr H5 u5 hvr => ?_) H' u4
          cases hst : Dd.step (lev d g) ps[i] with
          | none =>
            rw [hst] at hvr
            refine go_if (b := false) (et_lost (ev_var (i := 2) rfl hvr)) (fun z => nomatch z) (fun _ => go_next fun H6 u6 => ⟨⟨_, _, rfl⟩, ⟨u6.1, u5.2.trans u6.2⟩, fun j q hj hq => ?_⟩)
            by_cases e : j = i
            · subst e
              rw [hp] at hq
              cases hq
              exact hst
            · exact hb j q (by omega) hq
          | some r =>
            rw [hst] at hvr
            obtain ⟨d', e1, e2⟩ := step_some hn hh hp hst hb
            rw [e1] at fin'
            have fin2 : ∀ v H2, Up K H H5 H2 → Im K H2 v (.tuple (.str x :: ((ps.map dd).take i ++ [dd r] ++ (ps.map dd).drop (i + 1)))) → Q v H2 := fun v H2 u6 hv => fin' v H2 ⟨u6.1, u5.2.trans u6.2⟩ (by rw [show od (some d') = dd d' from rfl, e2]; exact hv)
            have h5 := h0'.keep u5.2
            have hl : (ps.map dd).length = ps.length := by simp
            refine go_if (b := true) (et_found (d := r) (ev_var (i := 2) rfl hvr)) (fun _ => ?_) (fun z => nomatch z)
            refine go_ret ((ev_cat (ev_cat (ev_sl (ev_var (i := 0) rfl h5) eo_none (eo_some (ev_var (i := 3) rfl (.int _)))) (ev_tup (ea_cons (ev_var (i := 2) rfl hvr) ea_nil) (by simp)) ?_) (ev_sl (ev_var (i := 0) rfl h5) (eo_some (ev_add (ev_var (i := 3) rfl (.int _)) ev_int)) eo_none) ?_).is ?_) fin2
            · rw [show (1 + (i : Int)) = ((i + 1 : Nat) : Int) by omega, cutD_lo _ _ (by simp; omega)]
              have := hn.len
              simp; omega
            · rw [show (1 + (i : Int)) + 1 = ((i + 2 : Nat) : Int) by omega, show (1 + (i : Int)) = ((i + 1 : Nat) : Int) by omega, cutD_lo _ _ (by simp; omega), cutD_hi]
              have := hn.len
              simp; omega
            · rw [show (1 + (i : Int)) + 1 = ((i + 2 : Nat) : Int) by omega, show (1 + (i : Int)) = ((i + 1 : Nat) : Int) by omega, cutD_lo _ _ (by simp; omega), cutD_hi]
              rw [List.take_succ_cons, List.drop_succ_cons, List.cons_append, List.cons_append]
              rfl
        · subst es
          have e : Dd.step g d = none := step_none hn hh fun p hp => by
            obtain ⟨j, hj⟩ := List.getElem?_of_mem hp
            exact hb j p (List.getElem?_eq_some_iff.mp hj).1 hj
          rw [e] at fin'
          exact fin' _ _ u4 .non
      by_cases ht : ∃ b, d = .turn b
      · obtain ⟨b, rfl⟩ := ht
        cases hn
        refine go_ifs (b := true) (et_word rfl h0' (by decide +kernel)) (fun _ => ?_) (fun z => nomatch z)
        exact go_aug (i := 1) rfl ev_int fun H2 u2 => (loop H2 u2).run u2.1
      · refine go_ifs (et_word rfl h0' (hn.noturn ht)) (fun z => nomatch z) (fun _ => ?_)
        have e : lev d g = g := by cases hn <;> first | exact absurd ⟨_, rfl⟩ ht | rfl
        rw [e] at loop
        exact loop H1 (.refl u.1)
abbrev s_step : Stmt := top 38
abbrev nm_step : List Str := ["deed"]
theorem sc_step : FnScope nm_step ["deed"] (defScope s_step) := ⟨rfl, rfl, rfl, by decide +kernel, rfl, by decide +kernel, by decide +kernel⟩
def rStep0 (n : Nat) : List PyData → PyData → Prop := fun ds r => ∃ d : Dd, d.depth ≤ n ∧ ds = [dd d] ∧ r = od (Dd.step 0 d)
theorem step_ok (n : Nat) (D : Dfn K mg "step" s_step ["deed"]) (CS : Cal P w K mg base (n + n + 3) "step_at" ["deed", "given"] (spI K (rStep n))) : Cal P w K mg base (n + n + 4) "step" ["deed"] (spI K (rStep0 n)) := by
  obtain ⟨f, fd, F, m_, b_⟩ := D
  obtain ⟨_, _, G_step_at, m_step_at, k_step_at, b_step_at⟩ := CS
  refine ⟨f, fd, F.ok sc_step (spI_len fun ds d ⟨_, _, e, _⟩ => by rw [e]; rfl) (fun cdv A outer s H vs Q E hr h => ?_), m_, F.kp, b_⟩
  obtain ⟨ds, r, ⟨d, hd, rfl, rfl⟩, hm, q⟩ := h
  obtain ⟨v, rfl, h0⟩ := inv1 hm
  refine ⟨_, (pss_one (ps_ret (pe_call G_step_at hr rfl m_step_at k_step_at b_step_at .nil pass0 (pa_cons (pv 0) (pa_cons pe_int pa_nil))))), ?_⟩
  exact (go_ret (K := K) (B := H) (ev_call (ea_cons (ev_var rfl h0) (ea_cons ev_int ea_nil)) ⟨d, 0, hd, rfl, rfl⟩) fun v H1 u hv => q v H1 u.1 hv).run (.refl H)
end Fw
set_option Elab.async false
set_option linter.all false
set_option maxRecDepth 100000
set_option maxHeartbeats 1000000
namespace Fw
open PySem L2 Fd
section
variable {K : PySem.W.Frag} {B H : Hp} {σ : St} {v : V} {D : Ends} {c : TT} {tb : TS}
theorem go_while (Pv : Nat → St → Hp → Prop) (h0 : ∀ H1, Up K B H H1 → ∃ m, Pv m σ H1)
    (hs : ∀ m σ' H', Pv m σ' H' → ∃ b, EvT K H' c σ' H' b ∧ (b = true → ∀ H1, Same H' H1 → tb { D with nx := fun σ'' H'' => ∃ m', m' < m ∧ Pv m' σ'' H'', ct := fun σ'' H'' => ∃ m', m' < m ∧ Pv m' σ'' H'', bk := D.nx } σ' H1) ∧ (b = false → ∀ H1, Same H' H1 → D.nx σ' H1)) :
    Go K B (tWhile c tb) D σ H := fun H1 u => ⟨Pv, h0 H1 u, fun m σ' H' hp => by
  obtain ⟨b, hb, h1, h2⟩ := hs m σ' H' hp
  refine hb H' (.refl (.refl _)) _ fun H2 s2 => ?_
  cases b with
  | true => exact ⟨_, fun σ'' H'' z => z, h1 rfl H2 s2⟩
  | false => exact h2 rfl H2 s2⟩
end
/-- steps until still, so many at the most -/
def stillF : Nat → Nat → Dd → PyData
  | 0, k, d => match Dd.step 0 d with
    | none => .tuple [.str "still", dd d, .int k]
    | some _ => .tuple [.str "more"]
  | m + 1, k, d => match Dd.step 0 d with
    | none => .tuple [.str "still", dd d, .int k]
    | some d' => stillF m (k + 1) d'
theorem stillF_none {m k : Nat} {d : Dd} (h : Dd.step 0 d = none) : stillF m k d = .tuple [.str "still", dd d, .int k] := by
  cases m <;> simp only [stillF, h]
def Low (n most : Nat) (d : Dd) : Prop := ∀ k r, k ≤ most → Steps k d r → r.depth ≤ n
theorem Low.here {n most : Nat} {d : Dd} (h : Low n most d) : d.depth ≤ n := h 0 d (Nat.zero_le _) .zero
theorem Low.next {n most : Nat} {d e : Dd} (h : Low n (most + 1) d) (s : Dd.step 0 d = some e) : Low n most e := fun k r hk hr => h (k + 1) r (by omega) (.succ s hr)
variable {P : Program} {w : World} {K : PySem.W.Frag} {mg : Str → Option Value} {base : Heap}
abbrev s_still : Stmt := top 39
abbrev nm_still : List Str := ["deed", "most", "many", "found"]
theorem sc_still : FnScope nm_still ["deed", "most"] (defScope s_still) := ⟨rfl, rfl, rfl, by decide +kernel, rfl, by decide +kernel, by decide +kernel⟩
def rStill (n : Nat) : List PyData → PyData → Prop := fun ds r => ∃ (d : Dd) (most : Nat), Low n most d ∧ ds = [dd d, .int most] ∧ r = stillF most 0 d
theorem still_ok (n : Nat) (D : Dfn K mg "still" s_still ["deed", "most"]) (CS : Cal P w K mg base (n + n + 4) "step" ["deed"] (spI K (rStep0 n))) : Cal P w K mg base (n + n + 5) "still" ["deed", "most"] (spI K (rStill n)) := by
  obtain ⟨f, fd, F, m_, b_⟩ := D
  obtain ⟨_, _, G_step, m_step, k_step, b_step⟩ := CS
  refine ⟨f, fd, F.ok sc_still (spI_len fun ds d ⟨_, _, _, e, _⟩ => by rw [e]; rfl) (fun cdv A outer s H vs Q E hr h => ?_), m_, F.kp, b_⟩
  obtain ⟨ds, r, ⟨d, most, hd, rfl, rfl⟩, hm, q⟩ := h
  obtain ⟨v, vm, rfl, h0, h1⟩ := inv2 hm
  have em := h1.int_inv
  subst em
  refine ⟨_, (pss_cons (ps_set (i := 2) sc_still.nd rfl (Or.inl rfl) pe_int)
 (pss_cons (ps_set (i := 3) sc_still.nd rfl (Or.inl rfl) (pe_call G_step hr rfl m_step k_step b_step .nil pass0 (pa_cons (pv 0) pa_nil)))
 (pss_cons (ps_while PassesOwn.never (pt_cmp (pc_notN (pv 3)))
 (pss_cons (ps_if (pt_cmpR op_eq (pv 2) (pv 1) (nomark _))
 (pss_one (ps_ret (pe_tup (pa_cons pe_str pa_nil))))
 pss_nil)
 (pss_cons (ps_aug (i := 2) sc_still.nd rfl (Or.inl rfl) pe_int ip_add)
 (pss_cons (ps_set (i := 0) sc_still.nd rfl (Or.inl rfl) (pv 3))
 (pss_one (ps_set (i := 3) sc_still.nd rfl (Or.inl rfl) (pe_call G_step hr rfl m_step k_step b_step .nil pass0 (pa_cons (pv 0) pa_nil))))))))
 (pss_one (ps_ret (pe_tup (pa_cons pe_str (pa_cons (pv 0) (pa_cons (pv 2) pa_nil))))))))), ?_⟩
  refine Go.run (K := K) (B := H) ?_ (.refl H)
  refine go_set ev_int fun vk H1 u hk => ?_
  have ek := hk.int_inv
  subst ek
  refine go_set (ev_call (ea_cons (ev_var rfl (h0.keep u.2)) ea_nil) ⟨d, hd.here, rfl, rfl⟩) fun vf H2 u2 hf => ?_
  refine go_seq (go_while (fun m σ' H' => ∃ (v' vf' : V) (d' : Dd) (k : Nat), σ' = [some v', some (.int most), some (.int k), some vf'] ∧ Same H H' ∧ Im K H' v' (dd d') ∧ Im K H' vf' (od (Dd.step 0 d')) ∧ k + m = most ∧ Low n m d' ∧ stillF m k d' = stillF most 0 d)
    (fun H3 u3 => ⟨most, v, vf, d, 0, rfl, u3.1, h0.keep ((u.2.trans u2.2).trans u3.2), hf.keep u3.2, by omega, hd, rfl⟩) fun m σ' H' ⟨v', vf', d', k, es, sm, hv', hf', hkm, hlow, hst⟩ => ?_)
  subst es
  cases hs : Dd.step 0 d' with
  | none =>
    rw [hs] at hf'
    refine ⟨false, et_lost (ev_var (i := 3) rfl hf'), (fun z => nomatch z), fun _ H3 s3 => ?_⟩
    rw [← hst, stillF_none hs] at q
    exact (go_ret (K := K) (B := H) (H := H3) (ev_tup (ea_cons ev_str (ea_cons (ev_var (i := 0) rfl (hv'.keep (.of s3))) (ea_cons (ev_var (i := 2) rfl (.int _)) ea_nil))) (by simp)) fun v H4 u4 hv => q v H4 u4.1 hv).run (sm.trans s3)
  | some e =>
    rw [hs] at hf'
    refine ⟨true, et_found (d := e) (ev_var (i := 3) rfl hf'), fun _ H3 s3 => ?_, (fun z => nomatch z)⟩
    refine Go.run (K := K) (B := H) (H := H3) ?_ (sm.trans s3)
    refine go_ifs (et_test (ev_eqI (ev_var (i := 2) rfl (.int _)) (ev_var (i := 1) rfl (.int _)))) (fun z => ?_) (fun z => ?_)
    · have hz : m = 0 := by have := of_decide_eq_true z; omega
      subst hz
      rw [← hst] at q
      simp only [stillF, hs] at q
      exact go_ret (ev_tup (ea_cons ev_str ea_nil) (by simp)) fun v H4 u4 hv => q v H4 u4.1 hv
    · have hz : ¬ m = 0 := by have := of_decide_eq_false z; omega
      obtain ⟨m, rfl⟩ : ∃ j, m = j + 1 := ⟨m - 1, by omega⟩
      have hst' : stillF m (k + 1) e = stillF most 0 d := by rw [← hst]; simp only [stillF, hs]
      refine go_seq (go_aug (i := 2) rfl ev_int fun H4 u4 => ?_)
      have hf4 := hf'.keep ((TK.of s3).trans u4.2)
      refine Go.run (K := K) (B := H) (H := H4) ?_ u4.1
      refine go_set (ev_var (i := 3) rfl hf4) fun v5 H5 u5 hv5 => ?_
      refine fun H6 u6 => (ev_call (ea_cons (ev_var (i := 0) rfl hv5) ea_nil) ⟨e, (hlow.next hs).here, rfl, rfl⟩ : Ev K H (tCall (spI K (rStep0 n)) [] E0 (tCons (tVar 0) tNil)) [some v5, some (.int most), some (.int ((k : Int) + 1)), some vf'] H5 (od (Dd.step 0 e))) H6 u6 _ fun v7 H7 s7 hv7 => ?_
      exact ⟨m, by omega, v5, v7, e, k + 1, rfl, (u6.then s7).1, hv5.keep (u6.then s7).2, hv7, by omega, hlow.next hs, hst'⟩
end Fw
set_option Elab.async false
set_option linter.all false
set_option maxRecDepth 100000
set_option maxHeartbeats 1000000
namespace Fw
open PySem L2 Fd
section
variable {K : PySem.W.Frag} {B H : Hp} {σ : St} {v : V} {D : Ends}
theorem el_2 {s t : Str} : EvL K B (tLst (tCons (tC (.str s)) (tCons (tC (.str t)) tNil))) σ H ([s, t].map .str) := el_lst (ea_cons ev_str (ea_cons ev_str ea_nil)) (by simp)
theorem el_3 {s t u : Str} : EvL K B (tLst (tCons (tC (.str s)) (tCons (tC (.str t)) (tCons (tC (.str u)) tNil)))) σ H ([s, t, u].map .str) := el_lst (ea_cons ev_str (ea_cons ev_str (ea_cons ev_str ea_nil))) (by simp)
theorem et_inL2 {i : Nat} {x : Str} {r : List PyData} {s t : Str} {b : Bool} (e : σ[i]? = some (some v)) (h : Im K H v (.tuple (.str x :: r))) (hb : decide (x ∈ [s, t]) = b) :
    EvT K B (tTest (tOp (rIn K false) (tOp (rIxT K) (tVar i) (tC (.int 0))) (tLst (tCons (tC (.str s)) (tCons (tC (.str t)) tNil))))) σ H b := (et_test (ev_inL (ss := [s, t]) (ev_word e h) el_2)).is hb
theorem et_inL3 {i : Nat} {x : Str} {r : List PyData} {s t u : Str} {b : Bool} (e : σ[i]? = some (some v)) (h : Im K H v (.tuple (.str x :: r))) (hb : decide (x ∈ [s, t, u]) = b) :
    EvT K B (tTest (tOp (rIn K false) (tOp (rIxT K) (tVar i) (tC (.int 0))) (tLst (tCons (tC (.str s)) (tCons (tC (.str t)) (tCons (tC (.str u)) tNil)))))) σ H b := (et_test (ev_inL (ss := [s, t, u]) (ev_word e h) el_3)).is hb
theorem ev_max {ta : TE} {ns : List Int} {m0 : Int} (h : EvL K B ta σ H (ns.map .int)) (hp : 0 < ns.length) (hu : ∀ m ∈ ns, (∀ y ∈ ns, y ≤ m) → m = m0) : Ev K B (tCB (rMax K) (tCons ta tNil)) σ H (.int m0) := fun H1 u Q q =>
  h H1 u _ fun p vs H2 _ s2 hp' hm => ⟨p, ns, rfl, by rw [← ints_of hm]; exact SqL.of hp', hp, fun m h1 h2 => by
    rw [hu m h1 h2]
    exact q _ H2 s2 (.int _)⟩
end
variable {P : Program} {w : World} {K : PySem.W.Frag} {mg : Str → Option Value} {base : Heap}
abbrev s__law_moved : Stmt := top 56
abbrev nm__law_moved : List Str := ["_law_deed", "_law_given", "_law_by", "_law_part"]
theorem sc__law_moved : FnScope nm__law_moved ["_law_deed", "_law_given", "_law_by"] (defScope s__law_moved) := ⟨rfl, rfl, rfl, by decide +kernel, rfl, by decide +kernel, by decide +kernel⟩
theorem lmoved_ok (T : Tx K mg) (D : Dfn K mg "_law_moved" s__law_moved ["_law_deed", "_law_given", "_law_by"]) : ∀ n, Cal P w K mg base n "_law_moved" ["_law_deed", "_law_given", "_law_by"] (spI K (rMoved n)) := by
  obtain ⟨f, fd, F, m__law_moved, b__law_moved⟩ := D
  have k__law_moved := F.kp
  intro n
  refine ⟨f, fd, ?_, m__law_moved, k__law_moved, b__law_moved⟩
  induction n with
  | zero => exact fn_none fun vs H Q E ⟨ds, d, ⟨x, _, _, hx, _⟩, _⟩ => absurd hx (by have := x.depth_pos; omega)
  | succ n G__law_moved =>
    refine F.ok sc__law_moved (spI_len fun ds d ⟨_, _, _, _, e, _⟩ => by rw [e]; rfl) (fun cdv A outer s H vs Q E hr h => ?_)
    obtain ⟨ds, r, ⟨d, g, m, hd, rfl, rfl⟩, hm, q⟩ := h
    obtain ⟨v, vg, vm, rfl, h0, h1, h2⟩ := inv3 hm
    refine ⟨_, (pss_cons (ps_if (pt_cmpR op_eq (pe_ix ix_tup (pv 0) pe_int (fun _ _ => rfl)) pe_str (nomark _))
 (pss_one (ps_ret (pe_tup (pa_cons pe_str (pa_cons (pe_op op_add (pe_ix ix_tup (pv 0) pe_int (fun _ _ => rfl)) (pe_op op_mul (pv 2) (pe_callTy call_int1 rfl T.int_ (by decide +kernel) (pa_cons (pe_cmpR op_ge (pe_ix ix_tup (pv 0) pe_int (fun _ _ => rfl)) (pv 1) (nomark _)) pa_nil)))) pa_nil)))))
 pss_nil)
 (pss_cons (ps_if (pt_cmpR op_in_seq (pe_ix ix_tup (pv 0) pe_int (fun _ _ => rfl)) (pe_lst (pa_cons pe_str (pa_cons pe_str pa_nil))) rfl)
 (pss_one (ps_ret (pv 0)))
 pss_nil)
 (pss_one (ps_ret (pe_op op_catA (pe_tup (pa_cons (pe_ix ix_tup (pv 0) pe_int (fun _ _ => rfl)) pa_nil)) (pe_callTy call_tuple_of rfl T.tuple_ (by decide +kernel) (pa_cons (pe_lc (own := [("_law_part", 3)]) (g := gName 3) (tt := tYes) rfl sc__law_moved.nd (pi_tup (pe_slice sl_tupA (pv 0) (po_some pe_int) po_none)) (blkOk_by (own := [("_law_part", 3)]) (N := nm__law_moved) (sc := defScope s__law_moved) (by decide +kernel)) (fun _ _ _ _ _ => (pg_name (i := 3) sc__law_moved.nd rfl (Or.inl rfl))) (fun _ _ _ _ _ => pts_nil) (fun _ _ _ _ _ => (pe_call G__law_moved hr rfl m__law_moved k__law_moved b__law_moved .nil pass0 (pa_cons (pv 3) (pa_cons (pv 1) (pa_cons (pv 2) pa_nil)))))) pa_nil))))))), ?_⟩
    refine Go.run (K := K) (B := H) ?_ (.refl H)
    have fin : ∀ v H1, Up K H H H1 → Im K H1 v (dd (d.moved g m)) → Q v H1 := fun v H1 u hv => q v H1 u.1 hv
    rcases nod_cases d with ⟨n, rfl⟩ | ⟨x, rfl⟩ | ⟨x, ps, hn⟩
    · refine go_ifs (et_word rfl h0 (b := true) (by decide +kernel)) (fun _ => ?_) (fun z => nomatch z)
      refine go_ret ((ev_tup (ea_cons ev_str (ea_cons (ev_add (ev_ix (ev_var rfl h0) ev_int rfl) (ev_mul (ev_var rfl h2) (ev_intB (ev_ge (ev_ix (ev_var rfl h0) ev_int rfl) (ev_var rfl h1))) (.inr ?_))) ea_nil)) (by simp)).is ?_) fin
      · split <;> decide
      · rw [Dd.moved]
        by_cases hz : n < g
        · rw [if_pos hz, decide_eq_false (by omega)]
          simp [dd]
        · rw [if_neg hz, decide_eq_true (by omega)]
          simp [dd]
    · refine go_ifs (et_word rfl h0 (b := false) (by decide +kernel)) (fun z => nomatch z) (fun _ => ?_)
      refine go_ifs (et_inL2 rfl h0 (b := true) (by decide +kernel)) (fun _ => ?_) (fun z => nomatch z)
      exact go_ret (ev_var rfl h0) fin
    · rw [hn.dd] at h0
      rw [hn.moved] at fin
      refine go_ifs (et_word rfl h0 hn.spot) (fun z => nomatch z) (fun _ => ?_)
      refine go_ifs (et_inL2 rfl h0 hn.bh) (fun z => nomatch z) (fun _ => ?_)
      exact go_map hn (i := 0) (ev_word rfl h0) rfl h0 (fun p => dd (p.moved g m)) (fun p hp v' H1 u m' => ev_call (ea_cons (ev_var rfl m') (ea_cons (ev_var rfl (h1.keep u.2)) (ea_cons (ev_var rfl (h2.keep u.2)) ea_nil))) ⟨p, g, m, by have := hn.depth p hp; omega, rfl, rfl⟩) fin
abbrev s__law_put : Stmt := top 57
abbrev nm__law_put : List Str := ["_law_deed", "_law_level", "_law_other", "_law_around", "_law_part"]
theorem sc__law_put : FnScope nm__law_put ["_law_deed", "_law_level", "_law_other", "_law_around"] (defScope s__law_put) := ⟨rfl, rfl, rfl, by decide +kernel, rfl, by decide +kernel, by decide +kernel⟩
theorem lput_ok (T : Tx K mg) (m : Nat) (D : Dfn K mg "_law_put" s__law_put ["_law_deed", "_law_level", "_law_other", "_law_around"]) (CM : Cal P w K mg base m "_law_moved" ["_law_deed", "_law_given", "_law_by"] (spI K (rMoved m))) :
    ∀ n, Cal P w K mg base (m + n) "_law_put" ["_law_deed", "_law_level", "_law_other", "_law_around"] (spI K (rPut n m)) := by
  obtain ⟨f, fd, F, m__law_put, b__law_put⟩ := D
  have k__law_put := F.kp
  intro n
  refine ⟨f, fd, ?_, m__law_put, k__law_put, b__law_put⟩
  induction n with
  | zero => exact fn_none fun vs H Q E ⟨ds, d, ⟨x, _, _, _, hx, _⟩, _⟩ => absurd hx (by have := x.depth_pos; omega)
  | succ n G__law_put =>
    obtain ⟨_, _, G__law_moved, m__law_moved, k__law_moved, b__law_moved⟩ := CM.mono (show m ≤ m + n by omega)
    refine F.ok sc__law_put (spI_len fun ds d ⟨_, _, _, _, _, _, _, e, _⟩ => by rw [e]; rfl) (fun cdv A outer s H vs Q E hr h => ?_)
    obtain ⟨ds, r, ⟨d, e, l, a, hd, he, hla, rfl, rfl⟩, hm, q⟩ := h
    obtain ⟨v, vl, ve, va, rfl, h0, h1, h2, h3⟩ := inv4 hm
    refine ⟨_, (pss_cons (ps_if (pt_cmpR op_eq (pe_ix ix_tup (pv 0) pe_int (fun _ _ => rfl)) pe_str (nomark _))
 (pss_cons (ps_if (pt_cmpR op_eq (pe_ix ix_tup (pv 0) pe_int (fun _ _ => rfl)) (pv 1) (nomark _))
 (pss_one (ps_ret (pe_call G__law_moved hr rfl m__law_moved k__law_moved b__law_moved .nil pass0 (pa_cons (pv 2) (pa_cons (pv 1) (pa_cons (pe_op op_sub (pv 3) (pv 1)) pa_nil))))))
 pss_nil)
 (pss_one (ps_ret (pe_tup (pa_cons pe_str (pa_cons (pe_op op_sub (pe_ix ix_tup (pv 0) pe_int (fun _ _ => rfl)) (pe_callTy call_int1 rfl T.int_ (by decide +kernel) (pa_cons (pe_cmpR op_gt (pe_ix ix_tup (pv 0) pe_int (fun _ _ => rfl)) (pv 1) (nomark _)) pa_nil))) pa_nil))))))
 pss_nil)
 (pss_cons (ps_if (pt_cmpR op_in_seq (pe_ix ix_tup (pv 0) pe_int (fun _ _ => rfl)) (pe_lst (pa_cons pe_str (pa_cons pe_str pa_nil))) rfl)
 (pss_one (ps_ret (pv 0)))
 pss_nil)
 (pss_cons (ps_if (pt_cmpR op_eq (pe_ix ix_tup (pv 0) pe_int (fun _ _ => rfl)) pe_str (nomark _))
 (pss_one (ps_ret (pe_tup (pa_cons pe_str (pa_cons (pe_call G__law_put hr rfl m__law_put k__law_put b__law_put .nil pass0 (pa_cons (pe_ix ix_tup (pv 0) pe_int (fun _ _ => rfl)) (pa_cons (pv 1) (pa_cons (pv 2) (pa_cons (pe_op op_add (pv 3) pe_int) pa_nil))))) pa_nil)))))
 pss_nil)
 (pss_one (ps_ret (pe_op op_catA (pe_tup (pa_cons (pe_ix ix_tup (pv 0) pe_int (fun _ _ => rfl)) pa_nil)) (pe_callTy call_tuple_of rfl T.tuple_ (by decide +kernel) (pa_cons (pe_lc (own := [("_law_part", 4)]) (g := gName 4) (tt := tYes) rfl sc__law_put.nd (pi_tup (pe_slice sl_tupA (pv 0) (po_some pe_int) po_none)) (blkOk_by (own := [("_law_part", 4)]) (N := nm__law_put) (sc := defScope s__law_put) (by decide +kernel)) (fun _ _ _ _ _ => (pg_name (i := 4) sc__law_put.nd rfl (Or.inl rfl))) (fun _ _ _ _ _ => pts_nil) (fun _ _ _ _ _ => (pe_call G__law_put hr rfl m__law_put k__law_put b__law_put .nil pass0 (pa_cons (pv 4) (pa_cons (pv 1) (pa_cons (pv 2) (pa_cons (pv 3) pa_nil))))))) pa_nil)))))))), ?_⟩
    refine Go.run (K := K) (B := H) ?_ (.refl H)
    have fin : ∀ v H1, Up K H H H1 → Im K H1 v (dd (Dd.put l e a d)) → Q v H1 := fun v H1 u hv => q v H1 u.1 hv
    rcases nod_cases d with ⟨n, rfl⟩ | ⟨x, rfl⟩ | ⟨x, ps, hn⟩
    · refine go_ifs (et_word rfl h0 (b := true) (by decide +kernel)) (fun _ => ?_) (fun z => nomatch z)
      refine go_ifs (et_test (ev_eqI (ev_ix (ev_var rfl h0) ev_int rfl) (ev_var rfl h1))) (fun z => ?_) (fun z => ?_)
      · have hz : n = l := by have := of_decide_eq_true z; omega
        rw [Dd.put, if_pos hz] at fin
        exact go_ret (ev_call (ea_cons (ev_var rfl h2) (ea_cons (ev_var rfl h1) (ea_cons ((ev_sub (ev_var rfl h3) (ev_var rfl h1)).is (show PyData.int ((a : Int) - (l : Int)) = .int ((a - l : Nat) : Int) by congr 1; omega)) ea_nil))) ⟨e, l, a - l, he, rfl, rfl⟩) fin
      · have hz : ¬ n = l := by have := of_decide_eq_false z; omega
        rw [Dd.put, if_neg hz] at fin
        refine go_ret ((ev_tup (ea_cons ev_str (ea_cons (ev_sub (ev_ix (ev_var rfl h0) ev_int rfl) (ev_intB (ev_gt (ev_ix (ev_var rfl h0) ev_int rfl) (ev_var rfl h1)))) ea_nil)) (by simp)).is ?_) fin
        by_cases hz2 : l < n
        · rw [if_pos hz2, decide_eq_true (by omega)]
          show PyData.tuple [.str "spot", .int ((n : Int) - 1)] = .tuple [.str "spot", .int ((n - 1 : Nat) : Int)]
          congr 4; omega
        · rw [if_neg hz2, decide_eq_false (by omega)]
          show PyData.tuple [.str "spot", .int ((n : Int) - 0)] = .tuple [.str "spot", .int (n : Int)]
          rw [Int.sub_zero]
    · refine go_ifs (et_word rfl h0 (b := false) (by decide +kernel)) (fun z => nomatch z) (fun _ => ?_)
      refine go_ifs (et_inL2 rfl h0 (b := true) (by decide +kernel)) (fun _ => ?_) (fun z => nomatch z)
      exact go_ret (ev_var rfl h0) fin
    · by_cases ht : ∃ b, d = .turn b
      · obtain ⟨b, rfl⟩ := ht
        refine go_ifs (et_word rfl h0 (b := false) (by decide +kernel)) (fun z => nomatch z) (fun _ => ?_)
        refine go_ifs (et_inL2 rfl h0 (b := false) (by decide +kernel)) (fun z => nomatch z) (fun _ => ?_)
        refine go_ifs (et_word rfl h0 (b := true) (by decide +kernel)) (fun _ => ?_) (fun z => nomatch z)
        exact go_ret (ev_tup (ea_cons ev_str (ea_cons (ev_call (ea_cons (ev_ix (ev_var rfl h0) ev_int rfl) (ea_cons (ev_var rfl h1) (ea_cons (ev_var rfl h2) (ea_cons (ev_add (ev_var rfl h3) ev_int) ea_nil)))) ⟨b, e, l, a + 1, by simp only [Dd.depth] at hd; omega, he, by omega, rfl, rfl⟩) ea_nil)) (by simp)) fin
      · rw [hn.dd] at h0
        rw [hn.put ht l e a] at fin
        refine go_ifs (et_word rfl h0 hn.spot) (fun z => nomatch z) (fun _ => ?_)
        refine go_ifs (et_inL2 rfl h0 hn.bh) (fun z => nomatch z) (fun _ => ?_)
        refine go_ifs (et_word rfl h0 (hn.noturn ht)) (fun z => nomatch z) (fun _ => ?_)
        exact go_map hn (i := 0) (ev_word rfl h0) rfl h0 (fun p => dd (Dd.put l e a p)) (fun p hp v' H1 u m' => ev_call (ea_cons (ev_var rfl m') (ea_cons (ev_var rfl (h1.keep u.2)) (ea_cons (ev_var rfl (h2.keep u.2)) (ea_cons (ev_var rfl (h3.keep u.2)) ea_nil)))) ⟨p, e, l, a, by have := hn.depth p hp; omega, he, hla, rfl, rfl⟩) fin
abbrev s__law_size : Stmt := top 62
abbrev nm__law_size : List Str := ["_law_deed", "_law_part"]
theorem sc__law_size : FnScope nm__law_size ["_law_deed"] (defScope s__law_size) := ⟨rfl, rfl, rfl, by decide +kernel, rfl, by decide +kernel, by decide +kernel⟩
def rSize (n : Nat) : List PyData → PyData → Prop := fun ds r => ∃ d : Dd, d.depth ≤ n ∧ ds = [dd d] ∧ r = .int d.size
theorem Nod.size {d : Dd} {x : Str} {ps : List Dd} (h : Nod d x ps) : ((ps.map fun p => (p.size : Int)).sum + 1 : Int) = d.size := by
  cases h <;> simp [Dd.size, Int.add_assoc]
theorem lsize_ok (T : Tx K mg) (D : Dfn K mg "_law_size" s__law_size ["_law_deed"]) : ∀ n, Cal P w K mg base n "_law_size" ["_law_deed"] (spI K (rSize n)) := by
  obtain ⟨f, fd, F, m__law_size, b__law_size⟩ := D
  have k__law_size := F.kp
  intro n
  refine ⟨f, fd, ?_, m__law_size, k__law_size, b__law_size⟩
  induction n with
  | zero => exact fn_none fun vs H Q E ⟨ds, d, ⟨x, hx, _⟩, _⟩ => absurd hx (by have := x.depth_pos; omega)
  | succ n G__law_size =>
    refine F.ok sc__law_size (spI_len fun ds d ⟨_, _, e, _⟩ => by rw [e]; rfl) (fun cdv A outer s H vs Q E hr h => ?_)
    obtain ⟨ds, r, ⟨d, hd, rfl, rfl⟩, hm, q⟩ := h
    obtain ⟨v, rfl, h0⟩ := inv1 hm
    refine ⟨_, (pss_cons (ps_if (pt_cmpR op_in_seq (pe_ix ix_tup (pv 0) pe_int (fun _ _ => rfl)) (pe_lst (pa_cons pe_str (pa_cons pe_str (pa_cons pe_str pa_nil)))) rfl)
 (pss_one (ps_ret pe_int))
 pss_nil)
 (pss_one (ps_ret (pe_op op_add pe_int (pe_callB (cr_sum rfl) rfl T.sum_ (by decide +kernel) (pa_cons (pe_lc (own := [("_law_part", 1)]) (g := gName 1) (tt := tYes) rfl sc__law_size.nd (pi_tup (pe_slice sl_tupA (pv 0) (po_some pe_int) po_none)) (blkOk_by (own := [("_law_part", 1)]) (N := nm__law_size) (sc := defScope s__law_size) (by decide +kernel)) (fun _ _ _ _ _ => (pg_name (i := 1) sc__law_size.nd rfl (Or.inl rfl))) (fun _ _ _ _ _ => pts_nil) (fun _ _ _ _ _ => (pe_call G__law_size hr rfl m__law_size k__law_size b__law_size .nil pass0 (pa_cons (pv 1) pa_nil)))) pa_nil)))))), ?_⟩
    refine Go.run (K := K) (B := H) ?_ (.refl H)
    have fin : ∀ v H1, Up K H H H1 → Im K H1 v (.int d.size) → Q v H1 := fun v H1 u hv => q v H1 u.1 hv
    rcases nod_cases d with ⟨n, rfl⟩ | ⟨x, rfl⟩ | ⟨x, ps, hn⟩
    · exact go_ifs (et_inL3 rfl h0 (b := true) (by decide +kernel)) (fun _ => go_ret ev_int fin) (fun z => nomatch z)
    · exact go_ifs (et_inL3 rfl h0 (b := true) (by decide +kernel)) (fun _ => go_ret ev_int fin) (fun z => nomatch z)
    · rw [hn.dd] at h0
      refine go_ifs (et_inL3 rfl h0 hn.sbh) (fun z => nomatch z) (fun _ => ?_)
      refine go_ret ((ev_add ev_int (ev_sum (ns := ps.map fun p => (p.size : Int)) (el_lcN (ev_tail rfl h0) (by have := hn.len; simp; omega) (by simp) fun i d' r v' H1 h1' h2' u m' => ?_))).is ?_) fin
      · rw [List.map_map, List.getElem?_map] at h2'
        rw [List.getElem?_map] at h1'
        cases e : ps[i]? with
        | none => rw [e] at h1'; cases h1'
        | some p =>
          rw [e] at h1' h2'
          cases h1'
          cases h2'
          exact ev_call (ea_cons (ev_var rfl m') ea_nil) ⟨p, by have := hn.depth p (List.mem_of_getElem? e); omega, rfl, rfl⟩
      · rw [Int.add_comm, hn.size]
abbrev s__law_turns : Stmt := top 63
abbrev nm__law_turns : List Str := ["_law_deed", "_law_part"]
theorem sc__law_turns : FnScope nm__law_turns ["_law_deed"] (defScope s__law_turns) := ⟨rfl, rfl, rfl, by decide +kernel, rfl, by decide +kernel, by decide +kernel⟩
def turnsD : Dd → Int
  | .spot _ => 0
  | .book _ => 0
  | .turn d => 1 + turnsD d
  | .dod f e => max (turnsD f) (turnsD e)
  | .both f e => max (turnsD f) (turnsD e)
  | .first d => turnsD d
  | .second d => turnsD d
def rTurns (n : Nat) : List PyData → PyData → Prop := fun ds r => ∃ d : Dd, d.depth ≤ n ∧ ds = [dd d] ∧ r = .int (turnsD d)
theorem Nod.turns {d : Dd} {x : Str} {ps : List Dd} (h : Nod d x ps) {m : Int} (hm : m ∈ ps.map turnsD) (ha : ∀ y ∈ ps.map turnsD, y ≤ m) : (if decide (x = "turn") then (1 : Int) else 0) + m = turnsD d := by
  cases h with
  | turn =>
    rw [if_pos (by decide +kernel)]
    simp at hm; rw [hm]; rfl
  | first =>
    rw [if_neg (by decide +kernel)]
    simp at hm; rw [hm]; simp [turnsD]
  | second =>
    rw [if_neg (by decide +kernel)]
    simp at hm; rw [hm]; simp [turnsD]
  | dod =>
    rw [if_neg (by decide +kernel)]
    simp at hm ha
    simp only [turnsD]
    omega
  | both =>
    rw [if_neg (by decide +kernel)]
    simp at hm ha
    simp only [turnsD]
    omega
theorem Nod.pos {d : Dd} {x : Str} {ps : List Dd} (h : Nod d x ps) : 0 < ps.length := by cases h <;> simp
theorem lturns_ok (T : Tx K mg) (D : Dfn K mg "_law_turns" s__law_turns ["_law_deed"]) : ∀ n, Cal P w K mg base n "_law_turns" ["_law_deed"] (spI K (rTurns n)) := by
  obtain ⟨f, fd, F, m__law_turns, b__law_turns⟩ := D
  have k__law_turns := F.kp
  intro n
  refine ⟨f, fd, ?_, m__law_turns, k__law_turns, b__law_turns⟩
  induction n with
  | zero => exact fn_none fun vs H Q E ⟨ds, d, ⟨x, hx, _⟩, _⟩ => absurd hx (by have := x.depth_pos; omega)
  | succ n G__law_turns =>
    refine F.ok sc__law_turns (spI_len fun ds d ⟨_, _, e, _⟩ => by rw [e]; rfl) (fun cdv A outer s H vs Q E hr h => ?_)
    obtain ⟨ds, r, ⟨d, hd, rfl, rfl⟩, hm, q⟩ := h
    obtain ⟨v, rfl, h0⟩ := inv1 hm
    refine ⟨_, (pss_cons (ps_if (pt_cmpR op_in_seq (pe_ix ix_tup (pv 0) pe_int (fun _ _ => rfl)) (pe_lst (pa_cons pe_str (pa_cons pe_str (pa_cons pe_str pa_nil)))) rfl)
 (pss_one (ps_ret pe_int))
 pss_nil)
 (pss_one (ps_ret (pe_op op_add (pe_callTy call_int1 rfl T.int_ (by decide +kernel) (pa_cons (pe_cmpR op_eq (pe_ix ix_tup (pv 0) pe_int (fun _ _ => rfl)) pe_str (nomark _)) pa_nil)) (pe_callB (cr_max rfl) rfl T.max_ (by decide +kernel) (pa_cons (pe_lc (own := [("_law_part", 1)]) (g := gName 1) (tt := tYes) rfl sc__law_turns.nd (pi_tup (pe_slice sl_tupA (pv 0) (po_some pe_int) po_none)) (blkOk_by (own := [("_law_part", 1)]) (N := nm__law_turns) (sc := defScope s__law_turns) (by decide +kernel)) (fun _ _ _ _ _ => (pg_name (i := 1) sc__law_turns.nd rfl (Or.inl rfl))) (fun _ _ _ _ _ => pts_nil) (fun _ _ _ _ _ => (pe_call G__law_turns hr rfl m__law_turns k__law_turns b__law_turns .nil pass0 (pa_cons (pv 1) pa_nil)))) pa_nil)))))), ?_⟩
    refine Go.run (K := K) (B := H) ?_ (.refl H)
    have fin : ∀ v H1, Up K H H H1 → Im K H1 v (.int (turnsD d)) → Q v H1 := fun v H1 u hv => q v H1 u.1 hv
    rcases nod_cases d with ⟨n, rfl⟩ | ⟨x, rfl⟩ | ⟨x, ps, hn⟩
    · exact go_ifs (et_inL3 rfl h0 (b := true) (by decide +kernel)) (fun _ => go_ret ev_int fin) (fun z => nomatch z)
    · exact go_ifs (et_inL3 rfl h0 (b := true) (by decide +kernel)) (fun _ => go_ret ev_int fin) (fun z => nomatch z)
    · rw [hn.dd] at h0
      refine go_ifs (et_inL3 rfl h0 hn.sbh) (fun z => nomatch z) (fun _ => ?_)
      refine go_ret ((ev_add (ev_intB (ev_eqS (ev_word rfl h0) ev_str)) (ev_max (ns := ps.map turnsD) (m0 := turnsD d - (if decide (x = "turn") then (1 : Int) else 0)) (el_lcN (ev_tail rfl h0) (by have := hn.len; simp; omega) (by simp) fun i d' r v' H1 h1' h2' u m' => ?_) (by rw [List.length_map]; exact hn.pos) fun m hm1 hm2 => ?_)).is ?_) fin
      · rw [List.map_map, List.getElem?_map] at h2'
        rw [List.getElem?_map] at h1'
        cases e : ps[i]? with
        | none => rw [e] at h1'; cases h1'
        | some p =>
          rw [e] at h1' h2'
          cases h1'
          cases h2'
          exact ev_call (ea_cons (ev_var rfl m') ea_nil) ⟨p, by have := hn.depth p (List.mem_of_getElem? e); omega, rfl, rfl⟩
      · have := hn.turns hm1 hm2
        omega
      · congr 1
        omega
abbrev s__law_spare : Stmt := top 60
abbrev nm__law_spare : List Str := ["_law_given", "_law_xs"]
theorem sc__law_spare : FnScope nm__law_spare ["_law_given", "_law_xs"] (defScope s__law_spare) := ⟨rfl, rfl, rfl, by decide +kernel, rfl, by decide +kernel, by decide +kernel⟩
def spareD (g : Nat) (x : Int) : Dd := if 0 < g ∧ 0 < x % 3 then .spot ((x / 3) % (g : Int)).toNat else .turn (.spot g)
def rSpare : List PyData → PyData → Prop := fun ds r => ∃ (g : Nat) (x : Int), ds = [.int g, .int x] ∧ r = dd (spareD g x)
theorem lspare_ok (T : Tx K mg) (D : Dfn K mg "_law_spare" s__law_spare ["_law_given", "_law_xs"]) : Cal P w K mg base 1 "_law_spare" ["_law_given", "_law_xs"] (spI K rSpare) := by
  obtain ⟨f, fd, F, m, b⟩ := D
  refine ⟨f, fd, F.ok sc__law_spare (spI_len fun ds d ⟨_, _, e, _⟩ => by rw [e]; rfl) (fun cdv A outer s H vs Q E hr h => ?_), m, F.kp, b⟩
  obtain ⟨ds, r, ⟨g, x, rfl, rfl⟩, hm, q⟩ := h
  obtain ⟨vg, vx, rfl, h0, h1⟩ := inv2 hm
  refine ⟨_, (pss_cons (ps_if (PW.pt (pw_and (pt_cmpR op_gt (pv 0) pe_int (nomark _)) (pw_and1 (pt_cmpR op_gt (pe_op op_mod (pv 1) pe_int) pe_int (nomark _)))))
 (pss_one (ps_ret (pe_tup (pa_cons pe_str (pa_cons (pe_op op_mod (pe_op op_fdiv (pv 1) pe_int) (pv 0)) pa_nil)))))
 pss_nil)
 (pss_one (ps_ret (pe_tup (pa_cons pe_str (pa_cons (pe_tup (pa_cons pe_str (pa_cons (pv 0) pa_nil))) pa_nil)))))), ?_⟩
  refine Go.run (K := K) (B := H) ?_ (.refl H)
  have fin : ∀ v H1, Up K H H H1 → Im K H1 v (dd (spareD g x)) → Q v H1 := fun v H1 u hv => q v H1 u.1 hv
  refine go_ifs (et_and (et_test (ev_gt (ev_var rfl h0) ev_int)) fun _ => et_test (ev_gt (ev_mod (ev_var rfl h1) ev_int (by decide)) ev_int)) (fun z => ?_) (fun z => ?_)
  · rw [Bool.and_eq_true, decide_eq_true_eq, decide_eq_true_eq] at z
    unfold spareD at fin
    rw [if_pos ⟨by omega, z.2⟩] at fin
    refine go_ret ((ev_tup (ea_cons ev_str (ea_cons (ev_mod (ev_fdiv (ev_var rfl h1) ev_int ⟨by decide, by decide⟩) (ev_var rfl h0) (by omega)) ea_nil)) (by simp)).is ?_) fin
    show PyData.tuple [.str "spot", .int (x / 3 % (g : Int))] = .tuple [.str "spot", .int (((x / 3 % (g : Int)).toNat : Nat) : Int)]
    rw [Int.toNat_of_nonneg (Int.emod_nonneg _ (by omega))]
  · have hz : ¬ (0 < g ∧ 0 < x % 3) := by
      intro hz
      rw [decide_eq_true (by omega), decide_eq_true hz.2] at z
      cases z
    unfold spareD at fin
    rw [if_neg hz] at fin
    exact go_ret (ev_tup (ea_cons ev_str (ea_cons (ev_tup (ea_cons ev_str (ea_cons (ev_var rfl h0) ea_nil)) (by simp)) ea_nil)) (by simp)) fin
end Fw
set_option Elab.async false
set_option linter.all false
set_option maxRecDepth 100000
set_option maxHeartbeats 1000000
namespace Fw
open PySem L2 Fd
section
variable {K : PySem.W.Frag} {B H : Hp} {σ : St} {v : V} {D : Ends} {tl te : TE}
theorem ev_index {ss : List Str} {s : Str} {j : Nat} (hl : EvL K B tl σ H (ss.map .str)) (he : Ev K B te σ H (.str s)) (hj : ss[j]? = some s) (hb : ∀ m, m < j → ss[m]? ≠ some s) : Ev K B (tBM K "list" (rIndex K) tl (tCons te tNil)) σ H (.int (j : Nat)) := fun H1 u Q q =>
  hl H1 u _ fun p ws H2 _ s2 hp hm => ⟨.inl ⟨rfl, _, SqL.of hp⟩, he H2 (u.then s2) _ fun x H3 s3 hx => by
    have hx' := hx.str_inv
    subst hx'
    have e := strs_of hm
    subst e
    refine ⟨p, ss.map V.str, .str s, j, .str s, rfl, rfl, SqL.of (s3 _ _ hp), rfl, (inV_strs (s := s) (strs_im (K := K) (H := H) ss)).1, by rw [List.getElem?_map, hj]; rfl, by simp [eqV], fun m z' hm' hz' => ?_, q _ H3 (s2.trans s3) (.int _)⟩
    rw [List.getElem?_map] at hz'
    cases e : ss[m]? with
    | none => rw [e] at hz'; cases hz'
    | some t =>
      rw [e] at hz'
      cases hz'
      have ne : t ≠ s := fun q => hb m hm' (by rw [e, q])
      simpa [eqV] using ne⟩
end
variable {P : Program} {w : World} {K : PySem.W.Frag} {mg : Str → Option Value} {base : Heap}
theorem Nod.lev {d : Dd} {x : Str} {ps : List Dd} (h : Nod d x ps) (g : Nat) : (g : Int) + (if decide (x = "turn") then 1 else 0) = (lev d g : Int) := by
  cases h with
  | turn => rw [if_pos (by decide +kernel)]; rfl
  | first => rw [if_neg (by decide +kernel)]; simp [Fw.lev]
  | second => rw [if_neg (by decide +kernel)]; simp [Fw.lev]
  | dod => rw [if_neg (by decide +kernel)]; simp [Fw.lev]
  | both => rw [if_neg (by decide +kernel)]; simp [Fw.lev]
abbrev s__law_step : Stmt := top 58
abbrev nm__law_step : List Str := ["_law_deed", "_law_given", "_law_k", "_law_found"]
theorem sc__law_step : FnScope nm__law_step ["_law_deed", "_law_given"] (defScope s__law_step) := ⟨rfl, rfl, rfl, by decide +kernel, rfl, by decide +kernel, by decide +kernel⟩
theorem lstep_ok (T : Tx K mg) (D : Dfn K mg "_law_step" s__law_step ["_law_deed", "_law_given"]) (CP : ∀ n, Cal P w K mg base (n + n) "_law_put" ["_law_deed", "_law_level", "_law_other", "_law_around"] (spI K (rPut n n))) : ∀ n, Cal P w K mg base (n + n + 1) "_law_step" ["_law_deed", "_law_given"] (spI K (rStep n)) := by
  obtain ⟨f, fd, F, m__law_step, b__law_step⟩ := D
  have k__law_step := F.kp
  intro n
  refine ⟨f, fd, ?_, m__law_step, k__law_step, b__law_step⟩
  induction n with
  | zero => exact fn_none fun vs H Q E ⟨ds, d, ⟨x, _, hx, _⟩, _⟩ => absurd hx (by have := x.depth_pos; omega)
  | succ n G0 =>
    have G__law_step := G0.mono (show n + n + 1 ≤ n + 1 + (n + 1) by omega)
    obtain ⟨_, _, G__law_put, m__law_put, k__law_put, b__law_put⟩ := CP (n + 1)
    refine F.ok sc__law_step (spI_len fun ds d ⟨_, _, _, e, _⟩ => by rw [e]; rfl) (fun cdv A outer s H vs Q E hr h => ?_)
    obtain ⟨ds, r, ⟨d, g, hd, rfl, rfl⟩, hm, q⟩ := h
    obtain ⟨v, vg, rfl, h0, h1⟩ := inv2 hm
    have eg := h1.int_inv
    subst eg
    refine ⟨_, (pss_cons (ps_if (PW.pt (pw_and (pt_cmpR op_eq (pe_ix ix_tup (pv 0) pe_int (fun _ _ => rfl)) pe_str (nomark _)) (pw_and1 (pt_cmpR op_eq (pe_ix ix_tup (pe_ix ix_tup (pv 0) pe_int (fun _ _ => rfl)) pe_int (fun _ _ => rfl)) pe_str (nomark _)))))
 (pss_one (ps_ret (pe_call G__law_put hr rfl m__law_put k__law_put b__law_put .nil pass0 (pa_cons (pe_ix ix_tup (pe_ix ix_tup (pv 0) pe_int (fun _ _ => rfl)) pe_int (fun _ _ => rfl)) (pa_cons (pv 1) (pa_cons (pe_ix ix_tup (pv 0) pe_int (fun _ _ => rfl)) (pa_cons (pv 1) pa_nil)))))))
 pss_nil)
 (pss_cons (ps_if (PW.pt (pw_and (pt_cmpR op_in_seq (pe_ix ix_tup (pv 0) pe_int (fun _ _ => rfl)) (pe_lst (pa_cons pe_str (pa_cons pe_str pa_nil))) rfl) (pw_and1 (pt_cmpR op_eq (pe_ix ix_tup (pe_ix ix_tup (pv 0) pe_int (fun _ _ => rfl)) pe_int (fun _ _ => rfl)) pe_str (nomark _)))))
 (pss_one (ps_ret (pe_ix ix_tup (pe_ix ix_tup (pv 0) pe_int (fun _ _ => rfl)) (pe_op op_add (pe_bm PySem.F.plainAttrs_list PySem.F.slot_list_index PySem.F.type_list_index mt_index (pe_lst (pa_cons pe_str (pa_cons pe_str pa_nil))) (pa_cons (pe_ix ix_tup (pv 0) pe_int (fun _ _ => rfl)) pa_nil)) pe_int) (fun _ _ => rfl))))
 pss_nil)
 (pss_cons (ps_if (pt_cmpR op_in_seq (pe_ix ix_tup (pv 0) pe_int (fun _ _ => rfl)) (pe_lst (pa_cons pe_str (pa_cons pe_str (pa_cons pe_str pa_nil)))) rfl)
 (pss_one (ps_ret pe_non))
 pss_nil)
 (pss_cons (ps_for PassesOwn.never rfl (pi_range2 rfl T.range_ (pa_cons pe_int (pa_cons (pe_callB call_len_seq rfl T.len_ (by decide +kernel) (pa_cons (pv 0) pa_nil)) pa_nil))) (pg_name (i := 2) sc__law_step.nd rfl (Or.inl rfl))
 (pss_cons (ps_set (i := 3) sc__law_step.nd rfl (Or.inl rfl) (pe_call G__law_step hr rfl m__law_step k__law_step b__law_step .nil pass0 (pa_cons (pe_ix ix_tup (pv 0) (pv 2) (fun _ _ => rfl)) (pa_cons (pe_op op_add (pv 1) (pe_callTy call_int1 rfl T.int_ (by decide +kernel) (pa_cons (pe_cmpR op_eq (pe_ix ix_tup (pv 0) pe_int (fun _ _ => rfl)) pe_str (nomark _)) pa_nil))) pa_nil))))
 (pss_one (ps_if (pt_cmp (pc_notN (pv 3)))
 (pss_one (ps_ret (pe_op op_catA (pe_op op_catA (pe_slice sl_tupA (pv 0) po_none (po_some (pv 2))) (pe_tup (pa_cons (pv 3) pa_nil))) (pe_slice sl_tupA (pv 0) (po_some (pe_op op_add (pv 2) pe_int)) po_none))))
 pss_nil))))
 (pss_one (ps_ret pe_non)))))), ?_⟩
    refine Go.run (K := K) (B := H) ?_ (.refl H)
    have fin : ∀ v H1, Up K H H H1 → Im K H1 v (od (Dd.step g d)) → Q v H1 := fun v H1 u hv => q v H1 u.1 hv
    have no : ∀ {x : Str} {r : List PyData} {s : Str} {tu : TT} (h : Im K H v (.tuple (.str x :: r))) (hb : decide (x = s) = false), EvT K H (tAnd (tTest (tOp rEq (tOp (rIxT K) (tVar 0) (tC (.int 0))) (tC (.str s)))) tu) (L2.start nm__law_step [v, .int (g : Int)]) H false :=
      fun {x r s tu} h hb => (et_and (b := false) (et_word rfl h hb) fun z => nomatch z).is rfl
    have no2 : ∀ {x : Str} {r : List PyData} {s t : Str} {tu : TT} (h : Im K H v (.tuple (.str x :: r))) (hb : decide (x ∈ [s, t]) = false), EvT K H (tAnd (tTest (tOp (rIn K false) (tOp (rIxT K) (tVar 0) (tC (.int 0))) (tLst (tCons (tC (.str s)) (tCons (tC (.str t)) tNil))))) tu) (L2.start nm__law_step [v, .int (g : Int)]) H false :=
      fun {x r s t tu} h hb => (et_and (b := false) (et_inL2 rfl h hb) fun z => nomatch z).is rfl
    -- the loop over the parts
    have rest : ∀ (x : Str) (ps : List Dd), Nod d x ps → Dd.here g d = none → Go K H (tSeq (tFor (iRng2 (tCons (tC (.int 1)) (tCons (tCB (fun xs H Q => ∃ p ys, xs = [V.ref p] ∧ (SqL K H p ys ∨ SqT K H p ys) ∧ Q (.int ys.length) H) (tCons (tVar 0) tNil)) tNil))) (gName 2)
          (tSeq (tAsg (tCall (spI K (rStep n)) [] E0 (tCons (tOp (rIxT K) (tVar 0) (tVar 2)) (tCons (tOp (rI0 fun i j => .int (i + j)) (tVar 1) (tCB (fun xs H Q => (∃ i, xs = [V.int i] ∧ Q (.int i) H) ∨ ∃ k, xs = [V.bl k] ∧ Q (.int (if k then 1 else 0)) H) (tCons (tOp rEq (tOp (rIxT K) (tVar 0) (tC (.int 0))) (tC (.str "turn"))) tNil))) tNil))) (gName 3))
            (tIfS (tB (tNotN (tVar 3))) (tRet (tOp (rCatA K) (tOp (rCatA K) (tSl (rSlA K) (tVar 0) tNoPart (tPart (tVar 2))) (tTup (tCons (tVar 3) tNil))) (tSl (rSlA K) (tVar 0) (tPart (tOp (rI0 fun i j => .int (i + j)) (tVar 2) (tC (.int 1)))) tNoPart))) tNext))) (tRet (tC .non)))
          { nx := fun x H' => Q V.non H', rt := Q } (L2.start nm__law_step [v, .int (g : Int)]) H := fun x ps hn hh => by
        have h0' := h0
        rw [hn.dd] at h0'
        refine go_seq (go_forR2 (n := ps.length) ev_int (ev_lenT (ev_var rfl h0')) (by simp) (by have := hn.len; simp; omega) fun H3 u3 =>
          ⟨fun i σ' H' => (∃ a b, σ' = [some v, some (.int (g : Int)), a, b]) ∧ Up K H H H' ∧ ∀ j q, j < i → ps[j]? = some q → Dd.step (lev d g) q = none, ⟨⟨_, _, rfl⟩, u3, fun j q hj => absurd hj (Nat.not_lt_zero _)⟩, fun i σ' H' hi ⟨⟨a, b, es⟩, u4, hb⟩ => ?_, fun σ' H' ⟨⟨a, b, es⟩, u4, hb⟩ => ?_⟩)
        · subst es
          have hp : ps[i]? = some ps[i] := List.getElem?_eq_getElem hi
          have hdp := hn.depth _ (List.getElem_mem hi)
          refine (go_set (K := K) (B := H) (H := H) (ev_call (ea_cons (ev_ix (ev_var (i := 0) rfl h0') (ev_var (i := 2) rfl (.int _)) (at_part hp)) (ea_cons ((ev_add (ev_var (i := 1) rfl (.int _)) (ev_intB (ev_eqS (ev_word (i := 0) rfl h0') ev_str))).is (show _ = PyData.int (lev d g : Int) by rw [hn.lev])) ea_nil)) ⟨ps[i], lev d g, by omega, rfl, rfl⟩) fun vr H5 u5 hvr => ?_) H' u4
          cases hst : Dd.step (lev d g) ps[i] with
          | none =>
            rw [hst] at hvr
            refine go_if (b := false) (et_lost (ev_var (i := 3) rfl hvr)) (fun z => nomatch z) (fun _ => go_next fun H6 u6 => ⟨⟨_, _, rfl⟩, ⟨u6.1, u5.2.trans u6.2⟩, fun j q hj hq => ?_⟩)
            by_cases e : j = i
            · subst e
              rw [hp] at hq
              cases hq
              exact hst
            · exact hb j q (by omega) hq
          | some r =>
            rw [hst] at hvr
            obtain ⟨d', e1, e2⟩ := step_some hn hh hp hst hb
            rw [e1] at fin
            have fin2 : ∀ v H2, Up K H H5 H2 → Im K H2 v (.tuple (.str x :: ((ps.map dd).take i ++ [dd r] ++ (ps.map dd).drop (i + 1)))) → Q v H2 := fun v H2 u6 hv => fin v H2 ⟨u6.1, u5.2.trans u6.2⟩ (by rw [show od (some d') = dd d' from rfl, e2]; exact hv)
            have h5 := h0'.keep u5.2
            refine go_if (b := true) (et_found (d := r) (ev_var (i := 3) rfl hvr)) (fun _ => ?_) (fun z => nomatch z)
            refine go_ret ((ev_cat (ev_cat (ev_sl (ev_var (i := 0) rfl h5) eo_none (eo_some (ev_var (i := 2) rfl (.int _)))) (ev_tup (ea_cons (ev_var (i := 3) rfl hvr) ea_nil) (by simp)) ?_) (ev_sl (ev_var (i := 0) rfl h5) (eo_some (ev_add (ev_var (i := 2) rfl (.int _)) ev_int)) eo_none) ?_).is ?_) fin2
            · rw [show (1 + (i : Int)) = ((i + 1 : Nat) : Int) by omega, cutD_lo _ _ (by simp; omega)]
              have := hn.len
              simp; omega
            · rw [show (1 + (i : Int)) + 1 = ((i + 2 : Nat) : Int) by omega, show (1 + (i : Int)) = ((i + 1 : Nat) : Int) by omega, cutD_lo _ _ (by simp; omega), cutD_hi]
              have := hn.len
              simp; omega
            · rw [show (1 + (i : Int)) + 1 = ((i + 2 : Nat) : Int) by omega, show (1 + (i : Int)) = ((i + 1 : Nat) : Int) by omega, cutD_lo _ _ (by simp; omega), cutD_hi]
              rw [List.take_succ_cons, List.drop_succ_cons, List.cons_append, List.cons_append]
              rfl
        · subst es
          have e : Dd.step g d = none := step_none hn hh fun p hp => by
            obtain ⟨j, hj⟩ := List.getElem?_of_mem hp
            exact hb j p (List.getElem?_eq_some_iff.mp hj).1 hj
          rw [e] at fin
          exact fin _ _ u4 .non
    cases d with
    | spot m =>
      refine go_ifs (no h0 (by decide +kernel)) (fun z => nomatch z) (fun _ => ?_)
      refine go_ifs (no2 h0 (by decide +kernel)) (fun z => nomatch z) (fun _ => ?_)
      exact go_ifs (et_inL3 rfl h0 (b := true) (by decide +kernel)) (fun _ => go_ret ev_non fin) (fun z => nomatch z)
    | book m =>
      refine go_ifs (no h0 (by decide +kernel)) (fun z => nomatch z) (fun _ => ?_)
      refine go_ifs (no2 h0 (by decide +kernel)) (fun z => nomatch z) (fun _ => ?_)
      exact go_ifs (et_inL3 rfl h0 (b := true) (by decide +kernel)) (fun _ => go_ret ev_non fin) (fun z => nomatch z)
    | turn m =>
      refine go_ifs (no h0 (by decide +kernel)) (fun z => nomatch z) (fun _ => ?_)
      refine go_ifs (no2 h0 (by decide +kernel)) (fun z => nomatch z) (fun _ => ?_)
      exact go_ifs (et_inL3 rfl h0 (b := false) (by decide +kernel)) (fun z => nomatch z) (fun _ => rest _ _ .turn rfl)
    | both x y =>
      refine go_ifs (no h0 (by decide +kernel)) (fun z => nomatch z) (fun _ => ?_)
      refine go_ifs (no2 h0 (by decide +kernel)) (fun z => nomatch z) (fun _ => ?_)
      exact go_ifs (et_inL3 rfl h0 (b := false) (by decide +kernel)) (fun z => nomatch z) (fun _ => rest _ _ .both rfl)
    | dod f e =>
      by_cases ht : ∃ b, f = .turn b
      · obtain ⟨b, rfl⟩ := ht
        simp only [Dd.depth] at hd
        rw [here_step (show Dd.here g (.dod (.turn b) e) = some (Dd.put g e g b) from rfl)] at fin
        refine go_ifs (b := true) ((et_and (et_word rfl h0 (b := true) (by decide +kernel)) fun _ => et_word1 rfl h0 (b := true) (by show decide (("turn" : Str) = "turn") = true; decide +kernel)).is rfl) (fun _ => ?_) (fun z => nomatch z)
        exact go_ret (ev_call (ea_cons (ev_ix (ev_ix (ev_var rfl h0) ev_int rfl) ev_int rfl) (ea_cons (ev_var rfl h1) (ea_cons (ev_ix (ev_var rfl h0) ev_int rfl) (ea_cons (ev_var rfl h1) ea_nil)))) ⟨b, e, g, g, by omega, by omega, Nat.le_refl _, rfl, rfl⟩) fin
      · have hw : decide (wd f = "turn") = false := wd_turn fun b q => ht ⟨b, q⟩
        have hh : Dd.here g (.dod f e) = none := here_ne fun b q => ht ⟨b, q⟩
        refine go_ifs (b := false) ((et_and (et_word rfl h0 (b := true) (by decide +kernel)) fun _ => et_word1 rfl h0 hw).is rfl) (fun z => nomatch z) (fun _ => ?_)
        refine go_ifs (no2 h0 (by decide +kernel)) (fun z => nomatch z) (fun _ => ?_)
        exact go_ifs (et_inL3 rfl h0 (b := false) (by decide +kernel)) (fun z => nomatch z) (fun _ => rest _ _ .dod hh)
    | first f =>
      refine go_ifs (no h0 (by decide +kernel)) (fun z => nomatch z) (fun _ => ?_)
      by_cases ht : ∃ a b, f = .both a b
      · obtain ⟨a, b, rfl⟩ := ht
        rw [here_step (show Dd.here g (.first (.both a b)) = some a from rfl)] at fin
        refine go_ifs (b := true) ((et_and (et_inL2 rfl h0 (b := true) (by decide +kernel)) fun _ => et_word1 rfl h0 (b := true) (by show decide (("both" : Str) = "both") = true; decide +kernel)).is rfl) (fun _ => ?_) (fun z => nomatch z)
        exact go_ret (ev_ix (ev_ix (ev_var rfl h0) ev_int rfl) (ev_add (ev_index (j := 0) el_2 (ev_word rfl h0) rfl fun m hm => absurd hm (Nat.not_lt_zero _)) ev_int) rfl) fin
      · have hw : decide (wd f = "both") = false := wd_both fun a b q => ht ⟨a, b, q⟩
        have hh : Dd.here g (.first f) = none := here_nf fun a b q => ht ⟨a, b, q⟩
        refine go_ifs (b := false) ((et_and (et_inL2 rfl h0 (b := true) (by decide +kernel)) fun _ => et_word1 rfl h0 hw).is rfl) (fun z => nomatch z) (fun _ => ?_)
        exact go_ifs (et_inL3 rfl h0 (b := false) (by decide +kernel)) (fun z => nomatch z) (fun _ => rest _ _ .first hh)
    | second f =>
      refine go_ifs (no h0 (by decide +kernel)) (fun z => nomatch z) (fun _ => ?_)
      by_cases ht : ∃ a b, f = .both a b
      · obtain ⟨a, b, rfl⟩ := ht
        rw [here_step (show Dd.here g (.second (.both a b)) = some b from rfl)] at fin
        refine go_ifs (b := true) ((et_and (et_inL2 rfl h0 (b := true) (by decide +kernel)) fun _ => et_word1 rfl h0 (b := true) (by show decide (("both" : Str) = "both") = true; decide +kernel)).is rfl) (fun _ => ?_) (fun z => nomatch z)
        exact go_ret (ev_ix (ev_ix (ev_var rfl h0) ev_int rfl) (ev_add (ev_index (j := 1) el_2 (ev_word rfl h0) rfl fun m hm => by
          have e : m = 0 := by omega
          subst e
          show some ("first" : Str) ≠ some "second"
          decide +kernel) ev_int) rfl) fin
      · have hw : decide (wd f = "both") = false := wd_both fun a b q => ht ⟨a, b, q⟩
        have hh : Dd.here g (.second f) = none := here_ns fun a b q => ht ⟨a, b, q⟩
        refine go_ifs (b := false) ((et_and (et_inL2 rfl h0 (b := true) (by decide +kernel)) fun _ => et_word1 rfl h0 hw).is rfl) (fun z => nomatch z) (fun _ => ?_)
        exact go_ifs (et_inL3 rfl h0 (b := false) (by decide +kernel)) (fun z => nomatch z) (fun _ => rest _ _ .second hh)
abbrev s__law_still : Stmt := top 59
abbrev nm__law_still : List Str := ["_law_deed", "_law_most", "_law_many", "_law_found"]
theorem sc__law_still : FnScope nm__law_still ["_law_deed", "_law_most"] (defScope s__law_still) := ⟨rfl, rfl, rfl, by decide +kernel, rfl, by decide +kernel, by decide +kernel⟩
theorem lstill_ok (T : Tx K mg) (n : Nat) (D : Dfn K mg "_law_still" s__law_still ["_law_deed", "_law_most"]) (CS : Cal P w K mg base (n + n + 1) "_law_step" ["_law_deed", "_law_given"] (spI K (rStep n))) : Cal P w K mg base (n + n + 2) "_law_still" ["_law_deed", "_law_most"]
    (spI K fun ds r => ∃ (d : Dd) (most : Nat), most ≤ 1000 ∧ Low n most d ∧ ds = [dd d, .int most] ∧ r = stillF most 0 d) := by
  obtain ⟨f, fd, F, m_, b_⟩ := D
  obtain ⟨_, _, G__law_step, m__law_step, k__law_step, b__law_step⟩ := CS
  refine ⟨f, fd, F.ok sc__law_still (spI_len fun ds d ⟨_, _, _, _, e, _⟩ => by rw [e]; rfl) (fun cdv A outer s H vs Q E hr h => ?_), m_, F.kp, b_⟩
  obtain ⟨ds, r, ⟨d, most, hm1, hd, rfl, rfl⟩, hm, q⟩ := h
  obtain ⟨v, vm, rfl, h0, h1⟩ := inv2 hm
  have em := h1.int_inv
  subst em
  refine ⟨_, (pss_cons (ps_for PassesOwn.never rfl (pi_range1 rfl T.range_ (pa_cons (pe_op op_add (pv 1) pe_int) pa_nil)) (pg_name (i := 2) sc__law_still.nd rfl (Or.inl rfl))
 (pss_cons (ps_set (i := 3) sc__law_still.nd rfl (Or.inl rfl) (pe_call G__law_step hr rfl m__law_step k__law_step b__law_step .nil pass0 (pa_cons (pv 0) (pa_cons pe_int pa_nil))))
 (pss_cons (ps_if (pt_cmp (pc_isN (pv 3)))
 (pss_one (ps_ret (pe_tup (pa_cons pe_str (pa_cons (pv 0) (pa_cons (pv 2) pa_nil))))))
 pss_nil)
 (pss_one (ps_set (i := 0) sc__law_still.nd rfl (Or.inl rfl) (pv 3))))))
 (pss_one (ps_ret (pe_tup (pa_cons pe_str pa_nil))))), ?_⟩
  refine Go.run (K := K) (B := H) ?_ (.refl H)
  refine go_seq (go_forR1 (n := most + 1) (ev_add (ev_var rfl h1) ev_int) (by omega) (by omega) fun H3 u3 =>
    ⟨fun i σ' H' => ∃ (v' : V) (d' : Dd) (a b : Option V), σ' = [some v', some (.int most), a, b] ∧ Same H H' ∧ Im K H' v' (dd d') ∧ (i ≤ most → Low n (most - i) d' ∧ stillF (most - i) i d' = stillF most 0 d) ∧ (i = most + 1 → stillF most 0 d = .tuple [.str "more"]),
      ⟨v, d, _, _, rfl, u3.1, h0.keep u3.2, fun _ => ⟨hd, rfl⟩, fun e => by omega⟩, fun i σ' H' hi ⟨v', d', a, b, es, sm, hv', hin, _⟩ => ?_, fun σ' H' ⟨v', d', a, b, es, sm, hv', _, hout⟩ => ?_⟩)
  · subst es
    obtain ⟨hlow, hst⟩ := hin (by omega)
    refine Go.run (K := K) (B := H) (H := H') ?_ sm
    refine go_set (ev_call (ea_cons (ev_var (i := 0) rfl hv') (ea_cons ev_int ea_nil)) ⟨d', 0, hlow.here, rfl, rfl⟩) fun vf H5 u5 hf => ?_
    cases hs : Dd.step 0 d' with
    | none =>
      rw [hs] at hf
      refine go_ifs (b := true) (et_B (ev_isN' (ev_var (i := 3) rfl hf))) (fun _ => ?_) (fun z => nomatch z)
      rw [← hst, stillF_none hs] at q
      exact go_ret ((ev_tup (ea_cons ev_str (ea_cons (ev_var (i := 0) rfl (hv'.keep u5.2)) (ea_cons (ev_var (i := 2) rfl (.int _)) ea_nil))) (by simp)).is (by rw [Int.zero_add])) fun v H6 u6 hv => q v H6 u6.1 hv
    | some e =>
      rw [hs] at hf
      refine go_ifs (b := false) ((et_B (ev_isN' (ev_var (i := 3) rfl hf))).is (isN_dd e)) (fun z => nomatch z) (fun _ => ?_)
      refine fun H6 u6 => (ev_var (i := 3) rfl hf : Ev K H (tVar 3) [some v', some (.int most), some (.int (0 + (i : Int))), some vf] H5 (dd e)) H6 u6 _ fun v7 H7 s7 hv7 => ?_
      refine ⟨v7, e, _, _, rfl, (u6.then s7).1, hv7, fun hi' => ?_, fun hi' => ?_⟩
      · obtain ⟨j, hj⟩ : ∃ j, most - i = j + 1 := ⟨most - i - 1, by omega⟩
        rw [hj] at hlow hst
        rw [show most - (i + 1) = j by omega]
        refine ⟨hlow.next hs, ?_⟩
        rw [← hst]
        simp only [stillF, hs]
      · have e0 : most - i = 0 := by omega
        rw [e0] at hst
        rw [← hst]
        simp only [stillF, hs]
  · subst es
    rw [hout rfl] at q
    refine Go.run (K := K) (B := H) (H := H') (σ := [some v', some (.int most), a, b]) ?_ sm
    exact go_ret (σ := [some v', some (.int most), a, b]) (ev_tup (ea_cons ev_str ea_nil) (by simp)) fun v H4 u4 hv => q v H4 u4.1 hv
end Fw
set_option Elab.async false
set_option linter.all false
set_option maxRecDepth 100000
set_option maxHeartbeats 1000000
namespace Fw
open PySem L2 Fd

/-! ### growing, as the law does it -/
def wrapF (x : Int) (g : Nat) (d : Dd) : Dd :=
  if x % 6 = 1 then .dod (.turn (d.moved g 1)) (spareD g (x / 6))
  else if x % 6 = 2 then .first (.both d (spareD g (x / 6)))
  else if x % 6 = 3 then .second (.both (spareD g (x / 6)) d)
  else if x % 6 = 4 then .dod (.turn (.spot g)) d
  else d
def pick (xs : List Int) (t : Nat) : Int := xs.getD (t % xs.length) 0
def grownF (xs : List Int) : Nat → Nat → Dd → Dd
  | t, g, .spot n => wrapF (pick xs t) g (.spot n)
  | t, g, .book s => wrapF (pick xs t) g (.book s)
  | t, g, .turn d => wrapF (pick xs t) g (if t < 12 then .turn (grownF xs (2 * t + 1) (g + 1) d) else .turn d)
  | t, g, .dod f e => wrapF (pick xs t) g (if t < 12 then .dod (grownF xs (2 * t + 1) g f) (grownF xs (2 * t + 2) g e) else .dod f e)
  | t, g, .both f e => wrapF (pick xs t) g (if t < 12 then .both (grownF xs (2 * t + 1) g f) (grownF xs (2 * t + 2) g e) else .both f e)
  | t, g, .first d => wrapF (pick xs t) g (if t < 12 then .first (grownF xs (2 * t + 1) g d) else .first d)
  | t, g, .second d => wrapF (pick xs t) g (if t < 12 then .second (grownF xs (2 * t + 1) g d) else .second d)
/-- the parts grown -/
def innF (xs : List Int) (t g : Nat) : Dd → Dd
  | .spot n => .spot n
  | .book s => .book s
  | .turn d => .turn (grownF xs (2 * t + 1) (g + 1) d)
  | .dod f e => .dod (grownF xs (2 * t + 1) g f) (grownF xs (2 * t + 2) g e)
  | .both f e => .both (grownF xs (2 * t + 1) g f) (grownF xs (2 * t + 2) g e)
  | .first d => .first (grownF xs (2 * t + 1) g d)
  | .second d => .second (grownF xs (2 * t + 1) g d)
theorem grownF_eq (xs : List Int) (t g : Nat) (d : Dd) : grownF xs t g d = wrapF (pick xs t) g (if t < 12 then innF xs t g d else d) := by
  cases d <;> simp only [grownF, innF] <;> split <;> rfl
theorem spareD_of (g : Nat) (x : Int) : spareOf g (spareD g x) := by
  unfold spareD
  split
  · rename_i h
    refine .inl ⟨_, ?_, rfl⟩
    have h1 := Int.emod_lt_of_pos (x / 3) (show (0 : Int) < (g : Int) by omega)
    have h2 := Int.emod_nonneg (x / 3) (show (g : Int) ≠ 0 by omega)
    omega
  · exact .inr rfl
theorem wrapF_gro {x : Int} {g : Nat} {d G : Dd} (h : Gro false g d G) : Gro true g d (wrapF x g G) := by
  unfold wrapF
  split
  · exact .kill h (spareD_of _ _)
  · split
    · exact .fst h (spareD_of _ _)
    · split
      · exact .snd h (spareD_of _ _)
      · split
        · exact .idd h
        · exact .same h
theorem grownF_gro (xs : List Int) (d : Dd) : ∀ t g, Gro true g d (grownF xs t g d) := by
  have fin : ∀ {t g : Nat} {d : Dd}, Gro false g d (innF xs t g d) → Gro true g d (grownF xs t g d) := fun {t g d} h => by
    rw [grownF_eq]
    refine wrapF_gro ?_
    split
    · exact h
    · exact Gro.reflF d g
  induction d with
  | spot n => intro t g; exact fin .spot
  | book s => intro t g; exact fin .book
  | turn d ih => intro t g; exact fin (.turn (ih _ _))
  | dod f e i1 i2 => intro t g; exact fin (.dod (i1 _ _) (i2 _ _))
  | both f e i1 i2 => intro t g; exact fin (.both (i1 _ _) (i2 _ _))
  | first d ih => intro t g; exact fin (.first (ih _ _))
  | second d ih => intro t g; exact fin (.second (ih _ _))
def wv (t : Nat) : Nat := if t = 0 then 5 else if t < 3 then 4 else if t < 7 then 3 else if t < 15 then 2 else 1
theorem wv_next {t i : Nat} (h : t < 12) (hi : i ≤ 1) : wv (2 * t + 1 + i) + 1 ≤ wv t := by
  unfold wv
  repeat' split
  all_goals omega
theorem wv_pos (t : Nat) : 1 ≤ wv t := by
  unfold wv
  repeat' split
  all_goals omega
theorem depth_wrap (x : Int) (g : Nat) (d : Dd) : (wrapF x g d).depth ≤ d.depth + 3 := by
  have h1 := depth_spare (spareD_of g (x / 6))
  have h2 := d.depth_pos
  unfold wrapF
  split
  · simp only [Dd.depth, Dd.depth_moved]; omega
  · split
    · simp only [Dd.depth]; omega
    · split
      · simp only [Dd.depth]; omega
      · split
        · simp only [Dd.depth]; omega
        · omega
theorem depth_grown (xs : List Int) (d : Dd) : ∀ t g, (grownF xs t g d).depth ≤ d.depth + 3 * wv t := by
  have fin : ∀ {t g : Nat} {d : Dd}, (t < 12 → (innF xs t g d).depth ≤ d.depth + 3 * wv t - 3) → (grownF xs t g d).depth ≤ d.depth + 3 * wv t := fun {t g d} h => by
    rw [grownF_eq]
    have h1 := depth_wrap (pick xs t) g (if t < 12 then innF xs t g d else d)
    have h2 := wv_pos t
    refine Nat.le_trans h1 ?_
    split
    · rename_i q; have := h q; omega
    · omega
  have two1 : ∀ {t : Nat}, t < 12 → 3 * wv (2 * t + 1) + 3 ≤ 3 * wv t := fun {t} h => by have := wv_next (t := t) (i := 0) h (by omega); simp only [Nat.add_zero] at this; omega
  have two2 : ∀ {t : Nat}, t < 12 → 3 * wv (2 * t + 2) + 3 ≤ 3 * wv t := fun {t} h => by have := wv_next (t := t) (i := 1) h (by omega); rw [show 2 * t + 1 + 1 = 2 * t + 2 by omega] at this; omega
  induction d with
  | spot n => intro t g; exact fin fun q => by have := wv_pos t; simp only [innF, Dd.depth]; omega
  | book s => intro t g; exact fin fun q => by have := wv_pos t; simp only [innF, Dd.depth]; omega
  | turn d ih => intro t g; exact fin fun q => by have := ih (2 * t + 1) (g + 1); have := two1 q; simp only [innF, Dd.depth]; omega
  | dod f e i1 i2 => intro t g; exact fin fun q => by have := i1 (2 * t + 1) g; have := i2 (2 * t + 2) g; have a := two1 q; have b := two2 q; simp only [innF, Dd.depth]; omega
  | both f e i1 i2 => intro t g; exact fin fun q => by have := i1 (2 * t + 1) g; have := i2 (2 * t + 2) g; have a := two1 q; have b := two2 q; simp only [innF, Dd.depth]; omega
  | first d ih => intro t g; exact fin fun q => by have := ih (2 * t + 1) g; have := two1 q; simp only [innF, Dd.depth]; omega
  | second d ih => intro t g; exact fin fun q => by have := ih (2 * t + 1) g; have := two1 q; simp only [innF, Dd.depth]; omega
theorem depth_inn (xs : List Int) (d : Dd) (t g : Nat) (h : t < 12) : (innF xs t g d).depth ≤ d.depth + 3 * wv t := by
  have a : 3 * wv (2 * t + 1) + 3 ≤ 3 * wv t := by have := wv_next (t := t) (i := 0) h (by omega); simp only [Nat.add_zero] at this; omega
  have b : 3 * wv (2 * t + 2) + 3 ≤ 3 * wv t := by have := wv_next (t := t) (i := 1) h (by omega); rw [show 2 * t + 1 + 1 = 2 * t + 2 by omega] at this; omega
  cases d with
  | spot n => simp only [innF, Dd.depth]; omega
  | book s => simp only [innF, Dd.depth]; omega
  | turn d => have := depth_grown xs d (2 * t + 1) (g + 1); simp only [innF, Dd.depth]; omega
  | dod f e => have := depth_grown xs f (2 * t + 1) g; have := depth_grown xs e (2 * t + 2) g; simp only [innF, Dd.depth]; omega
  | both f e => have := depth_grown xs f (2 * t + 1) g; have := depth_grown xs e (2 * t + 2) g; simp only [innF, Dd.depth]; omega
  | first d => have := depth_grown xs d (2 * t + 1) g; simp only [innF, Dd.depth]; omega
  | second d => have := depth_grown xs d (2 * t + 1) g; simp only [innF, Dd.depth]; omega
theorem Nod.inn {d : Dd} {x : Str} {ps : List Dd} (h : Nod d x ps) (xs : List Int) (t g : Nat) : ∃ qs : List Dd, qs.length = ps.length ∧ (∀ i p, ps[i]? = some p → qs[i]? = some (grownF xs (2 * t + 1 + i) (Fw.lev d g) p)) ∧ Fw.dd (innF xs t g d) = .tuple (.str x :: qs.map Fw.dd) := by
  cases h with
  | @turn d' => exact ⟨[grownF xs (2 * t + 1) (g + 1) d'], rfl, fun i p e => by match i, e with | 0, e => cases e; rfl, rfl⟩
  | @first d' => exact ⟨[grownF xs (2 * t + 1) g d'], rfl, fun i p e => by match i, e with | 0, e => cases e; rfl, rfl⟩
  | @second d' => exact ⟨[grownF xs (2 * t + 1) g d'], rfl, fun i p e => by match i, e with | 0, e => cases e; rfl, rfl⟩
  | @dod d' e' => exact ⟨[grownF xs (2 * t + 1) g d', grownF xs (2 * t + 2) g e'], rfl, fun i p e => by match i, e with | 0, e => cases e; rfl | 1, e => cases e; rfl, rfl⟩
  | @both d' e' => exact ⟨[grownF xs (2 * t + 1) g d', grownF xs (2 * t + 2) g e'], rfl, fun i p e => by match i, e with | 0, e => cases e; rfl | 1, e => cases e; rfl, rfl⟩
def leafB : Dd → Bool
  | .spot _ => true
  | .book _ => true
  | _ => false
theorem wd_leaf (d : Dd) : (!decide (wd d ∈ (["spot", "book", "hole"] : List Str))) = !leafB d := by
  cases d with
  | spot n => exact (by decide +kernel : (!decide (("spot" : Str) ∈ (["spot", "book", "hole"] : List Str))) = false)
  | book n => exact (by decide +kernel : (!decide (("book" : Str) ∈ (["spot", "book", "hole"] : List Str))) = false)
  | turn n => exact (by decide +kernel : (!decide (("turn" : Str) ∈ (["spot", "book", "hole"] : List Str))) = true)
  | dod n m => exact (by decide +kernel : (!decide (("do" : Str) ∈ (["spot", "book", "hole"] : List Str))) = true)
  | both n m => exact (by decide +kernel : (!decide (("both" : Str) ∈ (["spot", "book", "hole"] : List Str))) = true)
  | first n => exact (by decide +kernel : (!decide (("first" : Str) ∈ (["spot", "book", "hole"] : List Str))) = true)
  | second n => exact (by decide +kernel : (!decide (("second" : Str) ∈ (["spot", "book", "hole"] : List Str))) = true)
section
variable {K : PySem.W.Frag} {B H : Hp} {σ : St} {v : V} {D : Ends} {tt : TT} {t1 t2 : TS} {ta : TE}
/-- a test without else, where both ways meet -/
theorem go_ifsR {b : Bool} (R : St → Hp → Prop) (h : EvT K B tt σ H b) (hR : ∀ σ' H', R σ' H' → t2 D σ' H') (h1 : (∀ σ' H', R σ' H' → t2 D σ' H') → b = true → Go K B t1 { D with nx := t2 D } σ H) (h2 : b = false → ∀ H1, Up K B H H1 → R σ H1) :
    Go K B (tSeq (tIfS tt t1 tNext) t2) D σ H := go_ifs h (h1 hR) fun z H1 u => hR _ _ (h2 z H1 u)
theorem ev_tupX {r : List V → Hp → VK → Prop} {p : Addr} {ws : List V} {ds : List PyData} (hr : ∀ p ys H Q, SqL K H p ys → (∀ l, H l = none → Q (.ref l) (upd H l (.tup ys))) → r [.ref p] H Q) (h : EvX K B ta σ H (.ref p)) (hp : SqL K B p ws) (hm : ImAll K H ws ds) : Ev K B (tCB r (tCons ta tNil)) σ H (.tuple ds) := fun H1 u Q q =>
  h H1 u _ fun H2 s2 => hr p ws H2 Q ((u.then s2).1.seq hp) fun l hl => q _ _ (s2.trans (same_new hl _)) (.tup (.inl (.inl upd_same)) ((hm.keep (u.then s2).2).keep (.of (same_new hl _))))
theorem pick_at {xs : List Int} (h : 0 < xs.length) (t : Nat) : atI (xs.map PyData.int) ((t : Int) % (xs.length : Int)) = some (.int (pick xs t)) := by
  have e : (t : Int) % (xs.length : Int) = ((t % xs.length : Nat) : Int) := by omega
  rw [e]
  have hl : t % xs.length < xs.length := Nat.mod_lt _ h
  refine atI_nat ?_
  rw [List.getElem?_map, List.getElem?_eq_getElem hl]
  simp [pick, List.getD_eq_getElem?_getD, List.getElem?_eq_getElem hl]
end
variable {P : Program} {w : World} {K : PySem.W.Frag} {mg : Str → Option Value} {base : Heap}
abbrev s__law_grown : Stmt := top 61
abbrev nm__law_grown : List Str := ["_law_deed", "_law_given", "_law_xs", "_law_at", "_law_x", "_law_parts", "_law_k"]
theorem sc__law_grown : FnScope nm__law_grown ["_law_deed", "_law_given", "_law_xs", "_law_at"] (defScope s__law_grown) := ⟨rfl, rfl, rfl, by decide +kernel, rfl, by decide +kernel, by decide +kernel⟩
def spGrown (K : PySem.W.Frag) (n N : Nat) : Sp := fun vs H Q _ => ∃ (d : Dd) (g t : Nat) (xs : List Int) (p : Addr) (v : V), d.depth ≤ n ∧ d.depth + 3 * wv t ≤ N ∧ vs = [v, .int g, .ref p, .int t] ∧ Im K H v (dd d) ∧ SqL K H p (xs.map V.int) ∧ 0 < xs.length ∧
  ∀ v' H', Same H H' → Im K H' v' (dd (grownF xs t g d)) → Q v' H'
theorem lgrown_ok (T : Tx K mg) (N : Nat) (hN : 1 ≤ N) (D : Dfn K mg "_law_grown" s__law_grown ["_law_deed", "_law_given", "_law_xs", "_law_at"]) (CM : Cal P w K mg base N "_law_moved" ["_law_deed", "_law_given", "_law_by"] (spI K (rMoved N))) (CS : Cal P w K mg base 1 "_law_spare" ["_law_given", "_law_xs"] (spI K rSpare)) :
    ∀ n, Cal P w K mg base (N + n) "_law_grown" ["_law_deed", "_law_given", "_law_xs", "_law_at"] (spGrown K n N) := by
  obtain ⟨f, fd, F, m__law_grown, b__law_grown⟩ := D
  have k__law_grown := F.kp
  intro n
  refine ⟨f, fd, ?_, m__law_grown, k__law_grown, b__law_grown⟩
  induction n with
  | zero => exact fn_none fun vs H Q E ⟨d, _, _, _, _, _, hx, _⟩ => absurd hx (by have := d.depth_pos; omega)
  | succ n G__law_grown =>
    obtain ⟨_, _, G__law_moved, m__law_moved, k__law_moved, b__law_moved⟩ := CM.mono (show N ≤ N + n by omega)
    obtain ⟨_, _, G__law_spare, m__law_spare, k__law_spare, b__law_spare⟩ := CS.mono (show 1 ≤ N + n by omega)
    refine F.ok sc__law_grown (fun vs H Q E ⟨_, _, _, _, _, _, _, _, e, _⟩ => by rw [e]; rfl) (fun cdv A outer s H vs Q E hr h => ?_)
    obtain ⟨d, g, t, xs, p, v, hd, hdN, rfl, h0, hxs, hxl, q⟩ := h
    refine ⟨_, (pss_cons (ps_set (i := 4) sc__law_grown.nd rfl (Or.inl rfl) (pe_ix ix_list (pv 2) (pe_op op_mod (pv 3) (pe_callB call_len_seq rfl T.len_ (by decide +kernel) (pa_cons (pv 2) pa_nil))) (fun _ _ => rfl)))
 (pss_cons (ps_if (PW.pt (pw_and (pt_cmpR op_notIn_seq (pe_ix ix_tup (pv 0) pe_int (fun _ _ => rfl)) (pe_lst (pa_cons pe_str (pa_cons pe_str (pa_cons pe_str pa_nil)))) rfl) (pw_and1 (pt_cmpR op_lt (pv 3) pe_int (nomark _)))))
 (pss_cons (ps_set (i := 5) sc__law_grown.nd rfl (Or.inl rfl) (pe_lst pa_nil))
 (pss_cons (ps_for PassesOwn.never rfl (pi_range2 rfl T.range_ (pa_cons pe_int (pa_cons (pe_callB call_len_seq rfl T.len_ (by decide +kernel) (pa_cons (pv 0) pa_nil)) pa_nil))) (pg_name (i := 6) sc__law_grown.nd rfl (Or.inl rfl))
 (pss_one (ps_expr (pe_bm PySem.F.plainAttrs_list PySem.F.slot_list_append PySem.F.type_list_append mt_append (pv 5) (pa_cons (pe_call G__law_grown hr rfl m__law_grown k__law_grown b__law_grown .nil pass0 (pa_cons (pe_ix ix_tup (pv 0) (pv 6) (fun _ _ => rfl)) (pa_cons (pe_op op_add (pv 1) (pe_callTy call_int1 rfl T.int_ (by decide +kernel) (pa_cons (pe_cmpR op_eq (pe_ix ix_tup (pv 0) pe_int (fun _ _ => rfl)) pe_str (nomark _)) pa_nil))) (pa_cons (pv 2) (pa_cons (pe_op op_add (pe_op op_mul pe_int (pv 3)) (pv 6)) pa_nil))))) pa_nil)))))
 (pss_one (ps_set (i := 0) sc__law_grown.nd rfl (Or.inl rfl) (pe_op op_catA (pe_tup (pa_cons (pe_ix ix_tup (pv 0) pe_int (fun _ _ => rfl)) pa_nil)) (pe_callTy call_tuple_of rfl T.tuple_ (by decide +kernel) (pa_cons (pv 5) pa_nil)))))))
 pss_nil)
 (pss_cons (ps_if (pt_cmpR op_eq (pe_op op_mod (pv 4) pe_int) pe_int (nomark _))
 (pss_one (ps_ret (pe_tup (pa_cons pe_str (pa_cons (pe_tup (pa_cons pe_str (pa_cons (pe_call G__law_moved hr rfl m__law_moved k__law_moved b__law_moved .nil pass0 (pa_cons (pv 0) (pa_cons (pv 1) (pa_cons pe_int pa_nil)))) pa_nil))) (pa_cons (pe_call G__law_spare hr rfl m__law_spare k__law_spare b__law_spare .nil pass0 (pa_cons (pv 1) (pa_cons (pe_op op_fdiv (pv 4) pe_int) pa_nil))) pa_nil))))))
 pss_nil)
 (pss_cons (ps_if (pt_cmpR op_eq (pe_op op_mod (pv 4) pe_int) pe_int (nomark _))
 (pss_one (ps_ret (pe_tup (pa_cons pe_str (pa_cons (pe_tup (pa_cons pe_str (pa_cons (pv 0) (pa_cons (pe_call G__law_spare hr rfl m__law_spare k__law_spare b__law_spare .nil pass0 (pa_cons (pv 1) (pa_cons (pe_op op_fdiv (pv 4) pe_int) pa_nil))) pa_nil)))) pa_nil)))))
 pss_nil)
 (pss_cons (ps_if (pt_cmpR op_eq (pe_op op_mod (pv 4) pe_int) pe_int (nomark _))
 (pss_one (ps_ret (pe_tup (pa_cons pe_str (pa_cons (pe_tup (pa_cons pe_str (pa_cons (pe_call G__law_spare hr rfl m__law_spare k__law_spare b__law_spare .nil pass0 (pa_cons (pv 1) (pa_cons (pe_op op_fdiv (pv 4) pe_int) pa_nil))) (pa_cons (pv 0) pa_nil)))) pa_nil)))))
 pss_nil)
 (pss_cons (ps_if (pt_cmpR op_eq (pe_op op_mod (pv 4) pe_int) pe_int (nomark _))
 (pss_one (ps_ret (pe_tup (pa_cons pe_str (pa_cons (pe_tup (pa_cons pe_str (pa_cons (pe_tup (pa_cons pe_str (pa_cons (pv 1) pa_nil))) pa_nil))) (pa_cons (pv 0) pa_nil))))))
 pss_nil)
 (pss_one (ps_ret (pv 0))))))))), ?_⟩
    refine Go.run (K := K) (B := H) ?_ (.refl H)
    have fin : ∀ v H1, Up K H H H1 → Im K H1 v (dd (grownF xs t g d)) → Q v H1 := fun v H1 u hv => q v H1 u.1 hv
    refine go_set (ev_ixL (ex_var rfl) hxs (ints_im xs) (ev_mod (ev_var rfl (.int _)) (ev_lenX (ex_var rfl) hxs) (by simp; omega)) (by rw [List.length_map]; exact pick_at hxl t)) fun vx H1 u hvx => ?_
    have ex := hvx.int_inv
    subst ex
    obtain ⟨r0, hr0⟩ := dd_wd d
    have h0w := h0.keep u.2
    rw [hr0] at h0w
    refine go_ifsR (b := !leafB d && decide (t < 12))
      (fun σ' H' => ∃ (v' : V) (d' : Dd) (b c : Option V), σ' = [some v', some (.int g), some (.ref p), some (.int t), some (.int (pick xs t)), b, c] ∧ Same H H' ∧ Im K H' v' (dd d') ∧ d'.depth ≤ N ∧ grownF xs t g d = wrapF (pick xs t) g d') ?_ ?_ ?_ ?_
    · refine et_and ((et_test (ev_niL (ss := ["spot", "book", "hole"]) (ev_word rfl h0w) el_3)).is (by rw [wd_leaf])) fun _ => (et_test (ev_lt (ev_var rfl (.int _)) ev_int)).is ?_
      by_cases e : t < 12
      · rw [decide_eq_true e, decide_eq_true (by omega)]
      · rw [decide_eq_false e, decide_eq_false (by omega)]
    · rintro σ' H' ⟨v', d', b, c, rfl, sm, hv', hd', he⟩
      refine Go.run (K := K) (B := H) (H := H') ?_ sm
      rw [he] at fin
      have fin2 : ∀ v H1, Up K H H' H1 → Im K H1 v (dd (wrapF (pick xs t) g d')) → Q v H1 := fun v H1 u hv => fin v H1 ⟨u.1, .of u.1⟩ hv
      have md : ∀ {k : Int}, EvT K H (tTest (tOp rEq (tOp (rI (fun _ j => 0 < j) fun i j => .int (i % j)) (tVar 4) (tC (.int 6))) (tC (.int k)))) [some v', some (.int (g : Int)), some (.ref p), some (.int (t : Int)), some (.int (pick xs t)), b, c] H' (decide (pick xs t % 6 = k)) :=
        fun {k} => et_test (ev_eqI (ev_mod (ev_var (i := 4) rfl (.int _)) ev_int (by decide)) ev_int)
      have sp : Ev K H (tCall (spI K rSpare) [] E0 (tCons (tVar 1) (tCons (tOp (rI CDiv fun i j => .int (i / j)) (tVar 4) (tC (.int 6))) tNil))) [some v', some (.int (g : Int)), some (.ref p), some (.int (t : Int)), some (.int (pick xs t)), b, c] H' (dd (spareD g (pick xs t / 6))) :=
        ev_call (ea_cons (ev_var (i := 1) rfl (.int _)) (ea_cons (ev_fdiv (ev_var (i := 4) rfl (.int _)) ev_int ⟨by decide, by decide⟩) ea_nil)) ⟨g, _, rfl, rfl⟩
      refine go_ifs md (fun z => ?_) (fun z1 => ?_)
      · unfold wrapF at fin2
        rw [if_pos (of_decide_eq_true z)] at fin2
        exact go_ret (ev_tup (ea_cons ev_str (ea_cons (ev_tup (ea_cons ev_str (ea_cons (ev_call (ea_cons (ev_var (i := 0) rfl hv') (ea_cons (ev_var (i := 1) rfl (.int _)) (ea_cons ev_int ea_nil))) ⟨d', g, 1, hd', rfl, rfl⟩) ea_nil)) (by simp)) (ea_cons sp ea_nil))) (by simp)) fin2
      refine go_ifs md (fun z => ?_) (fun z2 => ?_)
      · unfold wrapF at fin2
        rw [if_neg (of_decide_eq_false z1), if_pos (of_decide_eq_true z)] at fin2
        exact go_ret (ev_tup (ea_cons ev_str (ea_cons (ev_tup (ea_cons ev_str (ea_cons (ev_var (i := 0) rfl hv') (ea_cons sp ea_nil))) (by simp)) ea_nil)) (by simp)) fin2
      refine go_ifs md (fun z => ?_) (fun z3 => ?_)
      · unfold wrapF at fin2
        rw [if_neg (of_decide_eq_false z1), if_neg (of_decide_eq_false z2), if_pos (of_decide_eq_true z)] at fin2
        exact go_ret (ev_tup (ea_cons ev_str (ea_cons (ev_tup (ea_cons ev_str (ea_cons sp (ea_cons (ev_var (i := 0) rfl hv') ea_nil))) (by simp)) ea_nil)) (by simp)) fin2
      refine go_ifs md (fun z => ?_) (fun z4 => ?_)
      · unfold wrapF at fin2
        rw [if_neg (of_decide_eq_false z1), if_neg (of_decide_eq_false z2), if_neg (of_decide_eq_false z3), if_pos (of_decide_eq_true z)] at fin2
        exact go_ret (ev_tup (ea_cons ev_str (ea_cons (ev_tup (ea_cons ev_str (ea_cons (ev_tup (ea_cons ev_str (ea_cons (ev_var (i := 1) rfl (.int _)) ea_nil)) (by simp)) ea_nil)) (by simp)) (ea_cons (ev_var (i := 0) rfl hv') ea_nil))) (by simp)) fin2
      · unfold wrapF at fin2
        rw [if_neg (of_decide_eq_false z1), if_neg (of_decide_eq_false z2), if_neg (of_decide_eq_false z3), if_neg (of_decide_eq_false z4)] at fin2
        exact go_ret (ev_var (i := 0) rfl hv') fin2
    · intro hR hb
      rw [Bool.and_eq_true, decide_eq_true_eq] at hb
      obtain ⟨hb1, hb2⟩ := hb
      rcases nod_cases d with ⟨m, rfl⟩ | ⟨s, rfl⟩ | ⟨x, ps, hn⟩
      · cases hb1
      · cases hb1
      obtain ⟨qs, ql, qa, qe⟩ := hn.inn xs t g
      have h0' := h0.keep u.2
      rw [hn.dd] at h0'
      refine go_setL (el_lst ea_nil (by simp)) fun l vs0 H2 hl u2 hl2 m0 => ?_
      cases m0
      have s02 : Same H H2 := u2.1
      have k02 : TK K H1 H2 := u2.2
      refine go_seq (go_forR2 (B := H2) (n := ps.length) ev_int (ev_lenT (ev_var (i := 0) rfl (h0'.keep k02))) (by simp) (by have := hn.len; simp; omega) fun H3 u3 =>
        ⟨fun i σ' H' => (∃ c, σ' = [some v, some (.int g), some (.ref p), some (.int t), some (.int (pick xs t)), some (.ref l), c]) ∧ Same H H' ∧ ∃ acc, H' l = some (.lst acc) ∧ ImAll K H' acc ((qs.map dd).take i), ⟨⟨_, rfl⟩, s02.trans u3.1, [], u3.1 _ _ hl2, by rw [List.take_zero]; exact .nil⟩, fun i σ' H' hi ⟨⟨c, es⟩, sm, acc, hacc, ma⟩ => ?_, fun σ' H' ⟨⟨c, es⟩, sm, acc, hacc, ma⟩ => ?_⟩) H2 (.refl (.refl _))
      · subst es
        have hp : ps[i]? = some ps[i] := List.getElem?_eq_getElem hi
        have hdp := hn.depth _ (List.getElem_mem hi)
        have hw := wv_next hb2 (show i ≤ 1 by have := hn.len; omega)
        have up' : Up K H H H' := ⟨sm, .of sm⟩
        have h0'' : Im K H v (.tuple (.str x :: ps.map dd)) := by rw [← hn.dd]; exact h0
        refine ⟨_, rfl, .inl ⟨rfl, _, SqL.of hacc⟩, ?_⟩
        refine (ev_ix (ev_var (i := 0) rfl h0'') (ev_var (i := 6) rfl (.int _)) (at_part hp) : Ev K H (tOp (rIxT K) (tVar 0) (tVar 6)) [some v, some (.int (g : Int)), some (.ref p), some (.int (t : Int)), some (.int (pick xs t)), some (.ref l), some (.int (1 + (i : Int)))] H (dd ps[i])) H' up' _ fun v1 H4 s4 hv1 => ?_
        refine ((ev_add (ev_var (i := 1) rfl (.int _)) (ev_intB (ev_eqS (ev_word (i := 0) rfl h0'') ev_str))).is (show _ = PyData.int (lev d g : Int) by rw [hn.lev]) : Ev K H _ [some v, some (.int (g : Int)), some (.ref p), some (.int (t : Int)), some (.int (pick xs t)), some (.ref l), some (.int (1 + (i : Int)))] H (.int (lev d g : Int))) H4 (up'.then s4) _ fun v2 H5 s5 hv2 => ?_
        refine ⟨_, rfl, ?_⟩
        refine ((ev_add (ev_mul ev_int (ev_var (i := 3) rfl (.int _)) (.inl (by decide))) (ev_var (i := 6) rfl (.int _))).is (show PyData.int (2 * (t : Int) + (1 + (i : Int))) = .int ((2 * t + 1 + i : Nat) : Int) by congr 1; omega) : Ev K H _ [some v, some (.int (g : Int)), some (.ref p), some (.int (t : Int)), some (.int (pick xs t)), some (.ref l), some (.int (1 + (i : Int)))] H (.int ((2 * t + 1 + i : Nat) : Int))) H5 ((up'.then s4).then s5) _ fun v3 H6 s6 hv3 => ?_
        have e2 := hv2.int_inv
        have e3 := hv3.int_inv
        subst e2 e3
        have s46 : Same H' H6 := (s4.trans s5).trans s6
        refine ⟨ps[i], lev d g, 2 * t + 1 + i, xs, p, v1, by omega, by omega, rfl, hv1.keep (.of (s5.trans s6)), (sm.trans s46).seq hxs, hxl, fun v4 H7 s7 hv4 => ?_⟩
        have s67 : Same H' H7 := s46.trans s7
        refine ⟨l, acc, v4, rfl, rfl, s67 _ _ hacc, by rw [ma.length, List.length_take, List.length_map]; have := hn.len; exact sz_lt (by omega), ⟨_, rfl⟩, fun a o ha => ?_, acc ++ [v4], upd_same, ?_⟩
        · have hne : a ≠ l := ne_of_none ha hl
          rw [upd_ne hne]
          exact s67 _ _ (sm _ _ ha)
        · have tk : TK K H7 (upd H7 l (.lst (acc ++ [v4]))) := TK.upd (by rw [s67 _ _ hacc]; trivial)
          have eq : (qs.map dd).take (i + 1) = (qs.map dd).take i ++ [dd (grownF xs (2 * t + 1 + i) (lev d g) ps[i])] := by
            rw [List.take_succ, List.getElem?_map, qa i _ hp]; rfl
          rw [eq]
          exact ((ma.keep (.of s67)).append (.one hv4)).keep tk
      · subst es
        rw [List.take_of_length_le (by rw [List.length_map, ql]; exact Nat.le_refl _)] at ma
        have h0'' : Im K H v (.tuple (.str x :: ps.map dd)) := by rw [← hn.dd]; exact h0
        refine (ev_cat (ev_tup (ea_cons (ev_word (i := 0) rfl (h0''.keep (.of sm))) ea_nil) (by simp)) (ev_tupX (fun p ys H Q a b => ⟨p, ys, rfl, .inl ⟨a, b⟩⟩) (ex_var (i := 5) rfl) (SqL.of hacc) ma) (by have := hn.len; simp; omega) : Ev K H' _ [some v, some (.int (g : Int)), some (.ref p), some (.int (t : Int)), some (.int (pick xs t)), some (.ref l), c] H' (.tuple ([.str x] ++ qs.map dd))) H' (.refl (.refl _)) _ fun v5 H5 s5 hv5 => ?_
        refine hR _ _ ⟨v5, innF xs t g d, _, _, rfl, sm.trans s5, by rw [qe]; exact hv5, ?_, ?_⟩
        · have := depth_inn xs d t g hb2; omega
        · rw [grownF_eq, if_pos hb2]
    · intro hb H2 u2
      refine ⟨v, d, _, _, rfl, u2.1, h0.keep (u.2.trans u2.2), by have := wv_pos t; omega, ?_⟩
      rw [grownF_eq]
      by_cases ht : t < 12
      · rw [if_pos ht]
        have hl : leafB d = true := by
          cases e : leafB d with
          | true => rfl
          | false => rw [e, decide_eq_true ht] at hb; cases hb
        cases d <;> first | rfl | exact absurd hl Bool.false_ne_true
      · rw [if_neg ht]
end Fw
set_option Elab.async false
set_option linter.all false
set_option maxRecDepth 100000
set_option maxHeartbeats 1000000
namespace Fw
open PySem L2 Fd

/-! ### still within so many steps -/
def ends : Nat → Dd → Bool
  | 0, d => (Dd.step 0 d).isNone
  | m + 1, d => match Dd.step 0 d with
    | none => true
    | some d' => ends m d'
theorem ends_true : ∀ {m k : Nat} {d : Dd}, ends m d = true → ∃ n s, n ≤ m ∧ Steps n d s ∧ Still 0 s ∧ stillF m k d = .tuple [.str "still", dd s, .int ((k + n : Nat) : Int)]
  | 0, k, d, h => by
    have e : Dd.step 0 d = none := by simpa [ends] using h
    exact ⟨0, d, Nat.le_refl _, .zero, e, by simp only [stillF, e, Nat.add_zero]⟩
  | m + 1, k, d, h => by
    cases e : Dd.step 0 d with
    | none => exact ⟨0, d, Nat.zero_le _, .zero, e, by simp only [stillF, e, Nat.add_zero]⟩
    | some d' =>
      simp only [ends, e] at h
      obtain ⟨n, s, h1, h2, h3, h4⟩ := ends_true (k := k + 1) h
      refine ⟨n + 1, s, by omega, .succ e h2, h3, ?_⟩
      simp only [stillF, e]
      rw [h4]
      congr 5
      omega
theorem ends_false : ∀ {m k : Nat} {d : Dd}, ends m d = false → stillF m k d = .tuple [.str "more"]
  | 0, k, d, h => by
    cases e : Dd.step 0 d with
    | none => simp [ends, e] at h
    | some d' => simp only [stillF, e]
  | m + 1, k, d, h => by
    cases e : Dd.step 0 d with
    | none => simp [ends, e] at h
    | some d' =>
      simp only [ends, e] at h
      simp only [stillF, e]
      exact ends_false h
theorem still_word (m k : Nat) (d : Dd) : ∃ t, stillF m k d = .tuple (.str (if ends m d = true then "still" else "more") :: t) := by
  cases h : ends m d with
  | true => obtain ⟨n, s, _, _, _, e⟩ := ends_true (k := k) h; exact ⟨_, e⟩
  | false => exact ⟨_, ends_false h⟩
theorem ends_of : ∀ {n m : Nat} {d s : Dd}, Steps n d s → Still 0 s → n ≤ m → ends m d = true
  | _, 0, d, _, .zero, h, _ => by
    have e : Dd.step 0 d = none := h
    simp [ends, e]
  | _, m + 1, d, _, .zero, h, _ => by
    have e : Dd.step 0 d = none := h
    simp [ends, e]
  | _, m + 1, d, _, .succ e r, h, hm => by
    simp only [ends, e]
    exact ends_of r h (by omega)

theorem dc {p q : Prop} [Decidable p] [Decidable q] (h : p ↔ q) : decide p = decide q := decide_eq_decide.mpr h
section
variable {K : PySem.W.Frag} {B H H1 H2 : Hp} {σ : St} {ta te : TE} {tr : TA} {v : V} {d : PyData}
/-- arguments of all kinds -/
def EvR (K : PySem.W.Frag) (B : Hp) (ta : TA) (σ : St) (H : Hp) (R : List V → Hp → Prop) : Prop := ∀ H1, Up K B H H1 → ∀ Q : List V → Hp → Prop, (∀ vs H2, Same H1 H2 → R vs H2 → Q vs H2) → ta σ H1 Q
theorem er_nil : EvR K B tNil σ H (fun vs _ => vs = []) := fun H1 u Q q => q [] H1 (.refl _) rfl
theorem er_D {R : List V → Hp → Prop} (h : Ev K B te σ H d) (hr : EvR K B tr σ H R) : EvR K B (tCons te tr) σ H (fun vs H' => ∃ v vs', vs = v :: vs' ∧ Im K H' v d ∧ R vs' H') := fun H1 u Q q =>
  h H1 u _ fun v H2 s2 m => hr H2 (u.then s2) _ fun vs H3 s3 r => q (v :: vs) H3 (s2.trans s3) ⟨v, vs, rfl, m.keep (.of s3), r⟩
theorem er_X {R : List V → Hp → Prop} (h : EvX K B te σ H v) (hr : EvR K B tr σ H R) : EvR K B (tCons te tr) σ H (fun vs H' => ∃ vs', vs = v :: vs' ∧ R vs' H') := fun H1 u Q q =>
  h H1 u _ fun H2 s2 => hr H2 (u.then s2) _ fun vs H3 s3 r => q (v :: vs) H3 (s2.trans s3) ⟨vs, rfl, r⟩
theorem er_L {R : List V → Hp → Prop} {ds : List PyData} (h : EvL K B te σ H ds) (hr : EvR K B tr σ H R) : EvR K B (tCons te tr) σ H (fun vs H' => ∃ p ws vs', vs = .ref p :: vs' ∧ SqL K H' p ws ∧ ImAll K H' ws ds ∧ R vs' H') := fun H1 u Q q =>
  h H1 u _ fun p ws H2 hp s2 h2 m => hr H2 (u.then s2) _ fun vs H3 s3 r => q (.ref p :: vs) H3 (s2.trans s3) ⟨p, ws, vs, rfl, SqL.of (s3 _ _ h2), m.keep (.of s3), r⟩
theorem ev_callR {sp : Sp} {E : XK} {R : List V → Hp → Prop} (h : EvR K B tr σ H R) (hr : ∀ vs H1 Q E, Up K B H H1 → R vs H1 → (∀ v H2, Same H1 H2 → Im K H2 v d → Q v H2) → sp vs H1 Q E) : Ev K B (tCall sp [] E tr) σ H d := fun H1 u Q q =>
  h H1 u _ fun vs H2 s2 m => by
    show sp (vs ++ []) H2 Q E
    rw [List.append_nil]
    exact hr vs H2 Q E (u.then s2) m fun v H3 s3 m3 => q v H3 (s2.trans s3) m3
theorem el_callR {sp : Sp} {E : XK} {R : List V → Hp → Prop} {ds : List PyData} (h : EvR K B tr σ H R) (hr : ∀ vs H1 Q E, Up K B H H1 → R vs H1 → (∀ p ws H2, H1 p = none → Same H1 H2 → H2 p = some (.lst ws) → ImAll K H2 ws ds → Q (.ref p) H2) → sp vs H1 Q E) : EvL K B (tCall sp [] E tr) σ H ds := fun H1 u Q q =>
  h H1 u _ fun vs H2 s2 m => by
    show sp (vs ++ []) H2 Q E
    rw [List.append_nil]
    exact hr vs H2 Q E (u.then s2) m fun p ws H3 hp s3 h3 m3 => q p ws H3 (s2.free hp) (s2.trans s3) h3 m3
/-- a slice of a standing list -/
theorem el_slL {tl th : TO} {p : Addr} {vs : List V} {ds : List PyData} {lo hi : Option Int} (ha : EvX K B ta σ H (.ref p)) (hp : SqL K B p vs) (hm : ImAll K H vs ds) (h1 : EvO K B tl σ H lo) (h2 : EvO K B th σ H hi) : EvL K B (tSl (rSlL K) ta tl th) σ H (cutD ds lo hi) := fun H1 u Q q =>
  ha H1 u _ fun H2 s2 => h1 H2 (u.then s2) _ fun H3 s3 => h2 H3 ((u.then s2).then s3) _ fun H4 s4 => by
    have u4 := ((u.then s2).then s3).then s4
    refine ⟨p, vs, rfl, u4.1.seq hp, fun l hl => q l _ _ ?_ ?_ upd_same (((hm.keep u4.2).cut lo hi).keep (.of (same_new hl _)))⟩
    · exact ((s2.trans s3).trans s4).free hl
    · exact ((s2.trans s3).trans s4).trans (same_new hl _)
end

def moreF (xs : List Int) (d : Dd) : Dd := if 80 < (grownF xs 0 0 d).size ∨ 12 < turnsD (grownF xs 0 0 d) ∨ ends 100 (grownF xs 0 0 d) = false then d else grownF xs 0 0 d
variable {P : Program} {w : World} {K : PySem.W.Frag} {mg : Str → Option Value} {base : Heap}
abbrev s__law_more : Stmt := top 65
abbrev nm__law_more : List Str := ["_law_deed", "_law_xs", "_law_found"]
theorem sc__law_more : FnScope nm__law_more ["_law_deed", "_law_xs"] (defScope s__law_more) := ⟨rfl, rfl, rfl, by decide +kernel, rfl, by decide +kernel, by decide +kernel⟩
def spMore (K : PySem.W.Frag) (n N m : Nat) : Sp := fun vs H Q _ => ∃ (d : Dd) (xs : List Int) (p : Addr) (v : V), d.depth ≤ n ∧ d.depth + 15 ≤ N ∧ vs = [v, .ref p] ∧ Im K H v (dd d) ∧ SqL K H p (xs.map V.int) ∧ 0 < xs.length ∧
  ((grownF xs 0 0 d).size ≤ 80 → Low m 100 (grownF xs 0 0 d)) ∧ ∀ v' H', Same H H' → Im K H' v' (dd (moreF xs d)) → Q v' H'
theorem lmore_ok (T : Tx K mg) (n N m L : Nat) (h1 : N + n ≤ L) (h2 : m + m + 2 ≤ L) (D : Dfn K mg "_law_more" s__law_more ["_law_deed", "_law_xs"]) (CG : Cal P w K mg base (N + n) "_law_grown" ["_law_deed", "_law_given", "_law_xs", "_law_at"] (spGrown K n N))
    (CS : Cal P w K mg base N "_law_size" ["_law_deed"] (spI K (rSize N))) (CT : Cal P w K mg base N "_law_turns" ["_law_deed"] (spI K (rTurns N)))
    (CL : Cal P w K mg base (m + m + 2) "_law_still" ["_law_deed", "_law_most"] (spI K fun ds r => ∃ (d : Dd) (most : Nat), most ≤ 1000 ∧ Low m most d ∧ ds = [dd d, .int most] ∧ r = stillF most 0 d)) :
    Cal P w K mg base (L + 1) "_law_more" ["_law_deed", "_law_xs"] (spMore K n N m) := by
  obtain ⟨f, fd, F, m_, b_⟩ := D
  obtain ⟨_, _, G__law_grown, m__law_grown, k__law_grown, b__law_grown⟩ := CG.mono h1
  obtain ⟨_, _, G__law_size, m__law_size, k__law_size, b__law_size⟩ := CS.mono (show N ≤ L by omega)
  obtain ⟨_, _, G__law_turns, m__law_turns, k__law_turns, b__law_turns⟩ := CT.mono (show N ≤ L by omega)
  obtain ⟨_, _, G__law_still, m__law_still, k__law_still, b__law_still⟩ := CL.mono h2
  refine ⟨f, fd, F.ok sc__law_more (fun vs H Q E ⟨_, _, _, _, _, _, e, _⟩ => by rw [e]; rfl) (fun cdv A outer s H vs Q E hr h => ?_), m_, F.kp, b_⟩
  obtain ⟨d, xs, p, v, hd, hdN, rfl, h0, hxs, hxl, hlow, q⟩ := h
  refine ⟨_, (pss_cons (ps_set (i := 2) sc__law_more.nd rfl (Or.inl rfl) (pe_call G__law_grown hr rfl m__law_grown k__law_grown b__law_grown .nil pass0 (pa_cons (pv 0) (pa_cons pe_int (pa_cons (pv 1) (pa_cons pe_int pa_nil))))))
 (pss_cons (ps_if (PW.pt (pw_or (pt_cmpR op_gt (pe_call G__law_size hr rfl m__law_size k__law_size b__law_size .nil pass0 (pa_cons (pv 2) pa_nil)) pe_int (nomark _)) (pw_or (pt_cmpR op_gt (pe_call G__law_turns hr rfl m__law_turns k__law_turns b__law_turns .nil pass0 (pa_cons (pv 2) pa_nil)) pe_int (nomark _)) (pw_or1 (pt_cmpR op_eq (pe_ix ix_tup (pe_call G__law_still hr rfl m__law_still k__law_still b__law_still .nil pass0 (pa_cons (pv 2) (pa_cons pe_int pa_nil))) pe_int (fun _ _ => rfl)) pe_str (nomark _))))))
 (pss_one (ps_ret (pv 0)))
 pss_nil)
 (pss_one (ps_ret (pv 2))))), ?_⟩
  have hg : (grownF xs 0 0 d).depth ≤ N := by have := depth_grown xs d 0 0; simp only [wv, if_true] at this; omega
  refine Go.run (K := K) (B := H) ?_ (.refl H)
  have fin : ∀ v H1, Up K H H H1 → Im K H1 v (dd (moreF xs d)) → Q v H1 := fun v H1 u hv => q v H1 u.1 hv
  refine go_set (d := dd (grownF xs 0 0 d)) (ev_callR (er_X (ex_var rfl) (er_X ex_c (er_X (ex_var rfl) (er_X ex_c er_nil)))) fun vs H1 Q' E' u ⟨vs1, e1, vs2, e2, vs3, e3, vs4, e4, e5⟩ q' => ?_) fun v1 H1 u1 hv1 => ?_
  · subst e5 e4 e3 e2 e1
    exact ⟨d, 0, 0, xs, p, v, hd, by show d.depth + 3 * 5 ≤ N; omega, rfl, h0.keep u.2, u.1.seq hxs, hxl, q'⟩
  have sz : EvT K H (tTest (tOp (rI0 fun i j => .bl (decide (j < i))) (tCall (spI K (rSize N)) [] E0 (tCons (tVar 2) tNil)) (tC (.int 80)))) [some v, some (.ref p), some v1] H1 (decide (80 < (grownF xs 0 0 d).size)) := (et_test (ev_gt (ev_call (ea_cons (ev_var (i := 2) rfl hv1) ea_nil) ⟨grownF xs 0 0 d, hg, rfl, rfl⟩) ev_int)).is (dc (by show (80:Int) < _ ↔ _; omega))
  have tn : EvT K H (tTest (tOp (rI0 fun i j => .bl (decide (j < i))) (tCall (spI K (rTurns N)) [] E0 (tCons (tVar 2) tNil)) (tC (.int 12)))) [some v, some (.ref p), some v1] H1 (decide (12 < turnsD (grownF xs 0 0 d))) := (et_test (ev_gt (ev_call (ea_cons (ev_var (i := 2) rfl hv1) ea_nil) ⟨grownF xs 0 0 d, hg, rfl, rfl⟩) ev_int)).is (dc (by show (12:Int) < _ ↔ _; omega))
  obtain ⟨t, ht⟩ := still_word 100 0 (grownF xs 0 0 d)
  refine go_ifs (et_or sz fun z1 => et_or tn fun _ => (et_test (ev_eqS (ev_ix (ev_call (ea_cons (ev_var (i := 2) rfl hv1) (ea_cons ev_int ea_nil)) ⟨grownF xs 0 0 d, 100, by omega, hlow (by have := of_decide_eq_false z1; omega), rfl, ht.symm⟩) ev_int (atI_nat (j := 0) rfl)) ev_str)).is (show _ = decide (ends 100 (grownF xs 0 0 d) = false) from dc ?_)) (fun z => ?_) (fun z => ?_)
  · cases ends 100 (grownF xs 0 0 d) <;> decide +kernel
  · have e : moreF xs d = d := by
      unfold moreF
      refine if_pos ?_
      simpa [Bool.or_eq_true, decide_eq_true_eq] using z
    rw [e] at fin
    exact go_ret (ev_var (i := 0) rfl (h0.keep u1.2)) fun v H2 u2 => fin v H2 ⟨u2.1, u1.2.trans u2.2⟩
  · have e : moreF xs d = grownF xs 0 0 d := by
      unfold moreF
      refine if_neg ?_
      simpa [Bool.or_eq_false_iff, decide_eq_false_iff_not] using z
    rw [e] at fin
    exact go_ret (ev_var (i := 2) rfl hv1) fun v H2 u2 => fin v H2 ⟨u2.1, u1.2.trans u2.2⟩
end Fw
set_option Elab.async false
set_option linter.all false
set_option maxRecDepth 100000
set_option maxHeartbeats 1000000
namespace Fw
open PySem L2 Fd
section
variable {K : PySem.W.Frag} {B H H1 H2 : Hp} {σ : St} {ta tb te ti : TE} {tr : TA} {v : V} {d : PyData} {D : Ends} {t1 t2 tb' : TS} {g : TG} {φ φ' : PyData → Prop}
/-- a value of some kind -/
def EvP (K : PySem.W.Frag) (B : Hp) (te : TE) (σ : St) (H : Hp) (φ : PyData → Prop) : Prop := ∀ H1, Up K B H H1 → ∀ Q : VK, (∀ d v H2, φ d → Same H1 H2 → Im K H2 v d → Q v H2) → te σ H1 Q
theorem Ev.p (h : Ev K B te σ H d) (hp : φ d) : EvP K B te σ H φ := fun H1 u Q q => h H1 u Q fun v H2 s m => q d v H2 hp s m
theorem EvP.ev (h : EvP K B te σ H fun x => x = d) : Ev K B te σ H d := fun H1 u Q q => h H1 u Q fun d' v H2 e s m => q v H2 s (e ▸ m)
theorem EvP.imp (h : EvP K B te σ H φ) (hp : ∀ d, φ d → φ' d) : EvP K B te σ H φ' := fun H1 u Q q => h H1 u Q fun d v H2 e s m => q d v H2 (hp d e) s m
theorem go_setP {i : Nat} (h : EvP K B te σ H φ) (q : ∀ d v H1, φ d → Up K B H H1 → Im K H1 v d → Go K B t2 D (σ.set i (some v)) H1) : Go K B (tSeq (tAsg te (gName i)) t2) D σ H := fun H1 u => h H1 u _ fun d v H2 hp s2 m =>
  q d v H2 hp (u.then s2) m H2 ⟨(u.then s2).1, .refl _⟩
theorem go_retP (h : EvP K B te σ H φ) (q : ∀ d v H1, φ d → Up K B H H1 → Im K H1 v d → D.rt v H1) : Go K B (tRet te) D σ H := fun H1 u => h H1 u _ fun d v H2 hp s2 m => q d v H2 hp (u.then s2) m
theorem ep_callR {sp : Sp} {E : XK} {R : List V → Hp → Prop} (h : EvR K B tr σ H R) (hr : ∀ vs H1 Q E, Up K B H H1 → R vs H1 → (∀ d v H2, φ d → Same H1 H2 → Im K H2 v d → Q v H2) → sp vs H1 Q E) : EvP K B (tCall sp [] E tr) σ H φ := fun H1 u Q q =>
  h H1 u _ fun vs H2 s2 m => by
    show sp (vs ++ []) H2 Q E
    rw [List.append_nil]
    exact hr vs H2 Q E (u.then s2) m fun d v H3 hp s3 m3 => q d v H3 hp (s2.trans s3) m3
/-- from data to data of some kind -/
def spP (K : PySem.W.Frag) (rel : List PyData → (PyData → Prop) → Prop) : Sp := fun vs H Q _ => ∃ ds p, rel ds p ∧ ImAll K H vs ds ∧ ∀ d v H', p d → Same H H' → Im K H' v d → Q v H'
theorem ep_call {rel : List PyData → (PyData → Prop) → Prop} {E : XK} {ds : List PyData} (h : EvA K B tr σ H ds) (hr : rel ds φ) : EvP K B (tCall (spP K rel) [] E tr) σ H φ := fun H1 u Q q =>
  h H1 u _ fun vs H2 s2 m => by
    show spP K rel (vs ++ []) H2 Q E
    rw [List.append_nil]
    exact ⟨ds, φ, hr, m, fun d v H3 hp s3 m3 => q d v H3 hp (s2.trans s3) m3⟩
theorem spP_len {rel : List PyData → (PyData → Prop) → Prop} {n : Nat} (h : ∀ ds d, rel ds d → ds.length = n) : ∀ vs H Q E, spP K rel vs H Q E → vs.length = n := fun vs H Q E ⟨ds, d, r, m, _⟩ => by
  rw [m.length]; exact h ds d r
/-- x.append(e) -/
theorem go_app {i : Nat} {l : Addr} {acc : List V} {ds : List PyData} (hs : Same B H) (hB : B l = none) (e : σ[i]? = some (some (.ref l))) (hl : H l = some (.lst acc)) (ma : ImAll K H acc ds) (hlen : ds.length < 100000) (h : EvP K H te σ H φ)
    (q : ∀ d v H1, φ d → Same B H1 → TK K H H1 → H1 l = some (.lst (acc ++ [v])) → ImAll K H1 (acc ++ [v]) (ds ++ [d]) → D.nx σ H1) : tDrop (tBM K "list" rAppend (tVar i) (tCons te tNil)) D σ H :=
  ⟨_, e, .inl ⟨rfl, _, SqL.of hl⟩, h H (.refl (.refl _)) _ fun d v H1 hp s m => ⟨l, acc, v, rfl, rfl, s _ _ hl, by rw [ma.length]; exact sz_lt hlen, by
    have tk : TK K H1 (upd H1 l (.lst (acc ++ [v]))) := TK.upd (by rw [s _ _ hl]; trivial)
    refine q d v _ hp (fun a o ha => ?_) ((TK.of s).trans tk) upd_same (((ma.keep (.of s)).append (.one m)).keep tk)
    have hne : a ≠ l := ne_of_none ha hB
    rw [upd_ne hne]
    exact s _ _ (hs _ _ ha)⟩⟩
/-- a loop over a new list -/
theorem go_forM {ds : List PyData} (hi : EvL K B ti σ H ds)
    (h : ∀ p ws H2, B p = none → Up K B H H2 → H2 p = some (.lst ws) → ImAll K H2 ws ds → ∃ Pv : Nat → St → Hp → Prop, Pv 0 σ H2 ∧ (∀ i σ' H', Pv i σ' H' → H' p = some (.lst ws) ∧ TK K H2 H') ∧
      (∀ i d x σ' H', ds[i]? = some d → Pv i σ' H' → Im K H' x d → g x σ' H' fun σ2 H3 => tb' { D with nx := Pv (i + 1), ct := Pv (i + 1), bk := D.nx } σ2 H3) ∧ ∀ σ' H', Pv ds.length σ' H' → D.nx σ' H') :
    Go K B (tFor (iList K ti) g tb') D σ H := fun H1 u => hi H1 u _ fun p ws H2 hp s2 h2 hm => by
  obtain ⟨Pv, p0, pk, ps, pd⟩ := h p ws H2 (u.1.free hp) (u.then s2) h2 hm
  refine ⟨p, rfl, ⟨ws, SqL.of h2⟩, for_list (K := K) (a := p) (xs := ws) Pv p0 (fun i σ' H' _ z => SqL.of (pk i σ' H' z).1) (fun i x σ' H' hx z => ?_) (fun σ' H' z => pd σ' H' (by rw [← hm.length]; exact z))⟩
  obtain ⟨d, hd, hdm⟩ := hm.getV hx
  exact ps i d x σ' H' hd z (hdm.keep (pk i σ' H' z).2)
/-- a loop over a list that stands -/
theorem go_forL {p : Addr} {ws : List V} {ds : List PyData} (hi : EvX K B ti σ H (.ref p)) (hp : SqL K B p ws) (hm : ImAll K H ws ds)
    (h : ∀ H2, Up K B H H2 → ∃ Pv : Nat → St → Hp → Prop, Pv 0 σ H2 ∧ (∀ i σ' H', Pv i σ' H' → Same B H' ∧ TK K H2 H') ∧
      (∀ i d x σ' H', ds[i]? = some d → Pv i σ' H' → Im K H' x d → g x σ' H' fun σ2 H3 => tb' { D with nx := Pv (i + 1), ct := Pv (i + 1), bk := D.nx } σ2 H3) ∧ ∀ σ' H', Pv ds.length σ' H' → D.nx σ' H') :
    Go K B (tFor (iList K ti) g tb') D σ H := fun H1 u => hi H1 u _ fun H2 s2 => by
  obtain ⟨Pv, p0, pk, ps, pd⟩ := h H2 (u.then s2)
  refine ⟨p, rfl, ⟨ws, (u.then s2).1.seq hp⟩, for_list (K := K) (a := p) (xs := ws) Pv p0 (fun i σ' H' _ z => (pk i σ' H' z).1.seq hp) (fun i x σ' H' hx z => ?_) (fun σ' H' z => pd σ' H' (by rw [← hm.length]; exact z))⟩
  obtain ⟨d, hd, hdm⟩ := (hm.keep (u.then s2).2).getV hx
  exact ps i d x σ' H' hd z (hdm.keep (pk i σ' H' z).2)
/-- a, b = .. and a, b, c = .. -/
theorem g_2 {i j : Nat} {a b : PyData} {x : V} {Q : St → Hp → Prop} (h : Im K H x (.tuple [a, b])) (q : ∀ x y, Im K H x a → Im K H y b → Q ((σ.set i (some x)).set j (some y)) H) : gTup K 2 (gCons (gName i) (gCons (gName j) gNil)) x σ H Q := by
  obtain ⟨p, ws, rfl, hp, hm⟩ := h.tup_inv
  obtain ⟨x, y, rfl, hx, hy⟩ := inv2 hm
  exact ⟨p, _, rfl, hp, rfl, _, _, rfl, _, _, rfl, rfl, q x y hx hy⟩
theorem g_3 {i j k : Nat} {a b c : PyData} {x : V} {Q : St → Hp → Prop} (h : Im K H x (.tuple [a, b, c])) (q : ∀ x y z, Im K H x a → Im K H y b → Im K H z c → Q (((σ.set i (some x)).set j (some y)).set k (some z)) H) :
    gTup K 3 (gCons (gName i) (gCons (gName j) (gCons (gName k) gNil))) x σ H Q := by
  obtain ⟨p, ws, rfl, hp, hm⟩ := h.tup_inv
  obtain ⟨x, y, z, rfl, hx, hy, hz⟩ := inv3 hm
  exact ⟨p, _, rfl, hp, rfl, _, _, rfl, _, _, rfl, _, _, rfl, rfl, q x y z hx hy hz⟩
end
/-! ### kinds -/
theorem kd_settled {k : Kd} (h : Kd.settled k) : (∃ s, k = .nm s) ∨ (∃ a b, k = .way a b ∧ Kd.settled a ∧ Kd.settled b) ∨ ∃ a b, k = .pair a b ∧ Kd.settled a ∧ Kd.settled b := by
  cases k with
  | nm s => exact .inl ⟨s, rfl⟩
  | num n => exact h.elim
  | way a b => exact .inr (.inl ⟨a, b, rfl, h.1, h.2⟩)
  | pair a b => exact .inr (.inr ⟨a, b, rfl, h.1, h.2⟩)
variable {P : Program} {w : World} {K : PySem.W.Frag} {mg : Str → Option Value} {base : Heap}
def bentF : Kd → Int → Kd
  | .nm s, _ => .pair (.nm s) (.nm s)
  | .num n, _ => .num n
  | .way a b, x => if x % 3 = 0 then .pair (.way a b) (.way a b) else if x % 3 = 1 then .way b a else .way a (bentF b (x / 3))
  | .pair a b, x => if x % 3 = 0 then .pair (.pair a b) (.pair a b) else if x % 3 = 1 then .pair b a else .pair a (bentF b (x / 3))
abbrev s__law_bent : Stmt := top 66
abbrev nm__law_bent : List Str := ["_law_kind_here", "_law_x"]
theorem sc__law_bent : FnScope nm__law_bent ["_law_kind_here", "_law_x"] (defScope s__law_bent) := ⟨rfl, rfl, rfl, by decide +kernel, rfl, by decide +kernel, by decide +kernel⟩
def rBent (n : Nat) : List PyData → PyData → Prop := fun ds r => ∃ (k : Kd) (x : Int), k.depth < n ∧ k.settled ∧ ds = [kd k, .int x] ∧ r = kd (bentF k x)
theorem bent_ok (T : Tx K mg) (D : Dfn K mg "_law_bent" s__law_bent ["_law_kind_here", "_law_x"]) : ∀ n, Cal P w K mg base n "_law_bent" ["_law_kind_here", "_law_x"] (spI K (rBent n)) := by
  obtain ⟨f, fd, F, m__law_bent, b__law_bent⟩ := D
  have k__law_bent := F.kp
  intro n
  refine ⟨f, fd, ?_, m__law_bent, k__law_bent, b__law_bent⟩
  induction n with
  | zero => exact fn_none fun vs H Q E ⟨ds, d, ⟨x, _, hx, _⟩, _⟩ => absurd hx (by omega)
  | succ n G__law_bent =>
    refine F.ok sc__law_bent (spI_len fun ds d ⟨_, _, _, _, e, _⟩ => by rw [e]; rfl) (fun cdv A outer s H vs Q E hr h => ?_)
    obtain ⟨ds, r, ⟨k, x, hd, hs, rfl, rfl⟩, hm, q⟩ := h
    obtain ⟨v, vg, rfl, h0, h1⟩ := inv2 hm
    refine ⟨_, (pss_cons (ps_if (PW.pt (pw_or (pt_val (pe_callB call_isi rfl T.isinstance_ (by decide +kernel) (pa_cons (pv 0) (pa_cons (pe_bltn (v := .ty "str") rfl T.str_ (by decide +kernel) rfl) pa_nil)))) (pw_or1 (pt_cmpR op_eq (pe_op op_mod (pv 1) pe_int) pe_int (nomark _)))))
 (pss_one (ps_ret (pe_tup (pa_cons pe_str (pa_cons (pv 0) (pa_cons (pv 0) pa_nil))))))
 pss_nil)
 (pss_cons (ps_if (pt_cmpR op_eq (pe_op op_mod (pv 1) pe_int) pe_int (nomark _))
 (pss_one (ps_ret (pe_tup (pa_cons (pe_ix ix_tup (pv 0) pe_int (fun _ _ => rfl)) (pa_cons (pe_ix ix_tup (pv 0) pe_int (fun _ _ => rfl)) (pa_cons (pe_ix ix_tup (pv 0) pe_int (fun _ _ => rfl)) pa_nil))))))
 pss_nil)
 (pss_one (ps_ret (pe_tup (pa_cons (pe_ix ix_tup (pv 0) pe_int (fun _ _ => rfl)) (pa_cons (pe_ix ix_tup (pv 0) pe_int (fun _ _ => rfl)) (pa_cons (pe_call G__law_bent hr rfl m__law_bent k__law_bent b__law_bent .nil pass0 (pa_cons (pe_ix ix_tup (pv 0) pe_int (fun _ _ => rfl)) (pa_cons (pe_op op_fdiv (pv 1) pe_int) pa_nil))) pa_nil)))))))), ?_⟩
    refine Go.run (K := K) (B := H) ?_ (.refl H)
    have fin : ∀ v H1, Up K H H H1 → Im K H1 v (kd (bentF k x)) → Q v H1 := fun v H1 u hv => q v H1 u.1 hv
    rcases kd_settled hs with ⟨s, rfl⟩ | hk
    · refine go_ifs (b := true) (et_or (a := true) (b := true) (et_B (ev_isi (ev_var rfl h0) k_ss)) fun z => nomatch z) (fun _ => ?_) (fun z => nomatch z)
      exact go_ret (ev_tup (ea_cons ev_str (ea_cons (ev_var rfl h0) (ea_cons (ev_var rfl h0) ea_nil))) (by simp)) fin
    obtain ⟨s, a, b, e1, e2, hb, hbs⟩ : ∃ (s : Str) (a b : Kd), kd k = .tuple [.str s, kd a, kd b] ∧ kd (bentF k x) = (if x % 3 = 0 then .tuple [.str "pair", kd k, kd k] else if x % 3 = 1 then .tuple [.str s, kd b, kd a] else .tuple [.str s, kd a, kd (bentF b (x / 3))]) ∧ b.depth < n ∧ b.settled := by
      rcases hk with ⟨a, b, rfl, ha, hb⟩ | ⟨a, b, rfl, ha, hb⟩
      · refine ⟨"way", a, b, rfl, ?_, by simp only [Kd.depth] at hd; omega, hb⟩
        rw [bentF]
        split
        · rfl
        · split <;> rfl
      · refine ⟨"pair", a, b, rfl, ?_, by simp only [Kd.depth] at hd; omega, hb⟩
        rw [bentF]
        split
        · rfl
        · split <;> rfl
    rw [e2] at fin
    have h0' := h0
    rw [e1] at h0'
    have md : ∀ {i : Int}, EvT K H (tTest (tOp rEq (tOp (rI (fun _ j => 0 < j) fun i j => .int (i % j)) (tVar 1) (tC (.int 3))) (tC (.int i)))) [some v, some vg] H (decide (x % 3 = i)) :=
      fun {i} => et_test (ev_eqI (ev_mod (ev_var (i := 1) rfl h1) ev_int (by decide)) ev_int)
    refine go_ifs (b := decide (x % 3 = 0)) ((et_or (a := false) (et_B (ev_isi (ev_var rfl h0') k_ts)) fun _ => md).is (Bool.false_or _)) (fun z => ?_) (fun z1 => ?_)
    · rw [if_pos (of_decide_eq_true z)] at fin
      exact go_ret (ev_tup (ea_cons ev_str (ea_cons (ev_var (i := 0) rfl h0) (ea_cons (ev_var (i := 0) rfl h0) ea_nil))) (by simp)) fin
    refine go_ifs md (fun z => ?_) (fun z2 => ?_)
    · rw [if_neg (of_decide_eq_false z1), if_pos (of_decide_eq_true z)] at fin
      exact go_ret (ev_tup (ea_cons (ev_word (i := 0) rfl h0') (ea_cons (ev_ix (ev_var (i := 0) rfl h0') ev_int rfl) (ea_cons (ev_ix (ev_var (i := 0) rfl h0') ev_int rfl) ea_nil))) (by simp)) fin
    · rw [if_neg (of_decide_eq_false z1), if_neg (of_decide_eq_false z2)] at fin
      exact go_ret (ev_tup (ea_cons (ev_word (i := 0) rfl h0') (ea_cons (ev_ix (ev_var (i := 0) rfl h0') ev_int rfl) (ea_cons (ev_call (ea_cons (ev_ix (ev_var (i := 0) rfl h0') ev_int rfl) (ea_cons (ev_fdiv (ev_var (i := 1) rfl h1) ev_int ⟨by decide, by decide⟩) ea_nil)) ⟨b, _, hb, hbs, rfl, rfl⟩) ea_nil))) (by simp)) fin
def manyF : Kd → Nat
  | .nm _ => 1
  | .num _ => 1
  | .way a b => manyF a + manyF b
  | .pair a b => manyF a + manyF b
abbrev s__law_many_names : Stmt := top 67
abbrev nm__law_many_names : List Str := ["_law_kind_here"]
theorem sc__law_many_names : FnScope nm__law_many_names ["_law_kind_here"] (defScope s__law_many_names) := ⟨rfl, rfl, rfl, by decide +kernel, rfl, by decide +kernel, by decide +kernel⟩
def rMany (n : Nat) : List PyData → PyData → Prop := fun ds r => ∃ (k : Kd), k.depth < n ∧ k.settled ∧ ds = [kd k] ∧ r = .int (manyF k)
theorem many_ok (T : Tx K mg) (D : Dfn K mg "_law_many_names" s__law_many_names ["_law_kind_here"]) : ∀ n, Cal P w K mg base n "_law_many_names" ["_law_kind_here"] (spI K (rMany n)) := by
  obtain ⟨f, fd, F, m__law_many_names, b__law_many_names⟩ := D
  have k__law_many_names := F.kp
  intro n
  refine ⟨f, fd, ?_, m__law_many_names, k__law_many_names, b__law_many_names⟩
  induction n with
  | zero => exact fn_none fun vs H Q E ⟨ds, d, ⟨x, hx, _⟩, _⟩ => absurd hx (by omega)
  | succ n G__law_many_names =>
    refine F.ok sc__law_many_names (spI_len fun ds d ⟨_, _, _, e, _⟩ => by rw [e]; rfl) (fun cdv A outer s H vs Q E hr h => ?_)
    obtain ⟨ds, r, ⟨k, hd, hs, rfl, rfl⟩, hm, q⟩ := h
    obtain ⟨v, rfl, h0⟩ := inv1 hm
    refine ⟨_, (pss_cons (ps_if (pt_val (pe_callB call_isi rfl T.isinstance_ (by decide +kernel) (pa_cons (pv 0) (pa_cons (pe_bltn (v := .ty "str") rfl T.str_ (by decide +kernel) rfl) pa_nil))))
 (pss_one (ps_ret pe_int))
 pss_nil)
 (pss_one (ps_ret (pe_op op_add (pe_call G__law_many_names hr rfl m__law_many_names k__law_many_names b__law_many_names .nil pass0 (pa_cons (pe_ix ix_tup (pv 0) pe_int (fun _ _ => rfl)) pa_nil)) (pe_call G__law_many_names hr rfl m__law_many_names k__law_many_names b__law_many_names .nil pass0 (pa_cons (pe_ix ix_tup (pv 0) pe_int (fun _ _ => rfl)) pa_nil)))))), ?_⟩
    refine Go.run (K := K) (B := H) ?_ (.refl H)
    have fin : ∀ v H1, Up K H H H1 → Im K H1 v (.int (manyF k)) → Q v H1 := fun v H1 u hv => q v H1 u.1 hv
    rcases kd_settled hs with ⟨s, rfl⟩ | ⟨a, b, rfl, ha, hb⟩ | ⟨a, b, rfl, ha, hb⟩
    · refine go_ifs (b := true) (et_B (ev_isi (ev_var rfl h0) k_ss)) (fun _ => ?_) (fun z => nomatch z)
      exact go_ret ev_int fin
    · simp only [Kd.depth] at hd
      refine go_ifs (b := false) (et_B (ev_isi (ev_var rfl h0) k_ts)) (fun z => nomatch z) (fun _ => ?_)
      exact go_ret ((ev_add (ev_call (ea_cons (ev_ix (ev_var rfl h0) ev_int rfl) ea_nil) ⟨a, by omega, ha, rfl, rfl⟩) (ev_call (ea_cons (ev_ix (ev_var rfl h0) ev_int rfl) ea_nil) ⟨b, by omega, hb, rfl, rfl⟩)).is (by simp [manyF])) fin
    · simp only [Kd.depth] at hd
      refine go_ifs (b := false) (et_B (ev_isi (ev_var rfl h0) k_ts)) (fun z => nomatch z) (fun _ => ?_)
      exact go_ret ((ev_add (ev_call (ea_cons (ev_ix (ev_var rfl h0) ev_int rfl) ea_nil) ⟨a, by omega, ha, rfl, rfl⟩) (ev_call (ea_cons (ev_ix (ev_var rfl h0) ev_int rfl) ea_nil) ⟨b, by omega, hb, rfl, rfl⟩)).is (by simp [manyF])) fin
end Fw
set_option Elab.async false
set_option linter.all false
set_option maxRecDepth 100000
set_option maxHeartbeats 1000000
namespace Fw
open PySem L2 Fd
open PySem L2 Fd
section
variable {K : PySem.W.Frag} {B H H1 H2 : Hp} {σ : St} {ta tb te ti : TE} {tr : TA} {v : V} {d : PyData} {D : Ends} {t1 t2 tb' : TS} {g : TG} {φ : PyData → Prop}
theorem er_P {R : List V → Hp → Prop} (h : EvP K B te σ H φ) (hr : EvR K B tr σ H R) : EvR K B (tCons te tr) σ H (fun vs H' => ∃ d v vs', vs = v :: vs' ∧ φ d ∧ Im K H' v d ∧ R vs' H') := fun H1 u Q q =>
  h H1 u _ fun d v H2 hp s2 m => hr H2 (u.then s2) _ fun vs H3 s3 r => q (v :: vs) H3 (s2.trans s3) ⟨d, v, vs, rfl, hp, m.keep (.of s3), r⟩
theorem ev_pow {i j : Int} (ha : Ev K B ta σ H (.int i)) (hb : Ev K B tb σ H (.int j)) (hc : CPow i j) : Ev K B (tOp (rI CPow fun i j => .int (i ^ j.toNat)) ta tb) σ H (.int (i ^ j.toNat)) := (ev_I ha hb hc).int
theorem ev_abs {i : Int} (ha : Ev K B ta σ H (.int i)) : Ev K B (tCB (fun xs H Q => ∃ i, xs = [.int i] ∧ Q (.int (if i < 0 then -i else i)) H) (tCons ta tNil)) σ H (.int (if i < 0 then -i else i)) := fun H1 u Q q =>
  ha H1 u _ fun v H2 s m => ⟨i, by rw [m.int_inv], q _ H2 s (.int _)⟩
theorem ev_addS {x y : Str} (ha : Ev K B ta σ H (.str x)) (hb : Ev K B tb σ H (.str y)) (hl : x.length + y.length ≤ 100000) : Ev K B (tOp (fun x y H Q => ∃ i j, x = .str i ∧ y = .str j ∧ i.length + j.length ≤ sizeLine ∧ Q (.str (i ++ j)) H) ta tb) σ H (.str (x ++ y)) :=
  (ex_op ha.xs hb.xs fun H1 _ Q q => ⟨x, y, rfl, rfl, sz_of hl, q⟩).str
/-- i % n as a place -/
def rest (i : Int) (n : Nat) : Nat := (i % (n : Int)).toNat
theorem rest_lt {i : Int} {n : Nat} (h : 0 < n) : rest i n < n := by
  have := Int.emod_lt_of_pos i (show (0 : Int) < n by omega)
  have := Int.emod_nonneg i (show (n : Int) ≠ 0 by omega)
  unfold rest
  omega
theorem rest_eq {i : Int} {n : Nat} (h : 0 < n) : i % (n : Int) = (rest i n : Int) := by
  have := Int.emod_nonneg i (show (n : Int) ≠ 0 by omega)
  unfold rest
  omega
theorem at_rest {α : Type} {xs : List α} {i : Int} (h : 0 < xs.length) : atI xs (i % (xs.length : Int)) = some (xs[rest i xs.length]'(rest_lt h)) := by
  rw [rest_eq h]
  exact atI_nat (List.getElem?_eq_getElem (rest_lt h))
/-- `some one of them` -/
theorem at_some {α : Type} {xs : List α} {i : Int} {n : Nat} (h : 0 < n) (hn : n = xs.length) : ∃ x, x ∈ xs ∧ atI xs (i % (n : Int)) = some x := by
  subst hn
  exact ⟨_, List.getElem_mem _, at_rest h⟩
theorem ep_ixL {p : Addr} {vs : List V} {ds : List PyData} {i : Int} (ha : EvX K B ta σ H (.ref p)) (hl : SqL K B p vs) (hm : ImAll K H vs ds) (hi : Ev K B tb σ H (.int i)) (e : ∃ d, φ d ∧ atI ds i = some d) : EvP K B (tOp (rIxL K) ta tb) σ H φ := by
  obtain ⟨d, h1, h2⟩ := e
  exact (ev_ixL ha hl hm hi h2).p h1
theorem ep_ixN {ds : List PyData} {i : Int} (ha : EvL K B ta σ H ds) (hi : Ev K B tb σ H (.int i)) (e : ∃ d, φ d ∧ atI ds i = some d) : EvP K B (tOp (rIxL K) ta tb) σ H φ := by
  obtain ⟨d, h1, h2⟩ := e
  exact (ev_ixN ha hi h2).p h1
end
variable {P : Program} {w : World} {K : PySem.W.Frag} {mg : Str → Option Value} {base : Heap}
/-! ### mixing -/
def mixF (x : Int) (w : Nat) : Int := (x * ([48271, 39373, 30011] : List Int).getD w 0 + 7919 * (w : Int) + 11) % 1999999973
abbrev s__law_mix : Stmt := top 48
abbrev nm__law_mix : List Str := ["_law_x", "_law_way"]
theorem sc__law_mix : FnScope nm__law_mix ["_law_x", "_law_way"] (defScope s__law_mix) := ⟨rfl, rfl, rfl, by decide +kernel, rfl, by decide +kernel, by decide +kernel⟩
def rMix : List PyData → PyData → Prop := fun ds r => ∃ (x : Int) (w : Nat), w < 3 ∧ ds = [.int x, .int w] ∧ r = .int (mixF x w)
theorem mix_ok (T : Tx K mg) (D : Dfn K mg "_law_mix" s__law_mix ["_law_x", "_law_way"]) : Cal P w K mg base 1 "_law_mix" ["_law_x", "_law_way"] (spI K rMix) := by
  obtain ⟨f, fd, F, m_, b_⟩ := D
  refine ⟨f, fd, F.ok sc__law_mix (spI_len fun ds d ⟨_, _, _, e, _⟩ => by rw [e]; rfl) (fun cdv A outer s H vs Q E hr h => ?_), m_, F.kp, b_⟩
  obtain ⟨ds, r, ⟨x, w, hw, rfl, rfl⟩, hm, q⟩ := h
  obtain ⟨v, vg, rfl, h0, h1⟩ := inv2 hm
  refine ⟨_, (pss_one (ps_ret (pe_op op_mod (pe_op op_add (pe_op op_add (pe_op op_mul (pv 0) (pe_ix ix_list (pe_lst (pa_cons pe_int (pa_cons pe_int (pa_cons pe_int pa_nil)))) (pv 1) (fun _ _ => rfl))) (pe_op op_mul pe_int (pv 1))) pe_int) pe_int))), ?_⟩
  refine Go.run (K := K) (B := H) ?_ (.refl H)
  refine go_ret (ev_mod (ev_add (ev_add (ev_mul (ev_var rfl h0) (ev_ixN (ds := [.int 48271, .int 39373, .int 30011]) (d := .int (([48271, 39373, 30011] : List Int).getD w 0)) (el_lst (ea_cons ev_int (ea_cons ev_int (ea_cons ev_int ea_nil))) (by simp)) (ev_var rfl h1) (atI_nat ?_)) (.inr ?_)) (ev_mul ev_int (ev_var rfl h1) (.inl (by decide)))) ev_int) ev_int (by decide)) fun v H1 u hv => q v H1 u.1 hv
  · match w, hw with
    | 0, _ => rfl
    | 1, _ => rfl
    | 2, _ => rfl
  · match w, hw with
    | 0, _ => decide
    | 1, _ => decide
    | 2, _ => decide
/-! ### a kind -/
def kindF (ss : List Str) : Nat → Int → Kd
  | 0, x => .nm (ss.getD (rest (x / 7) ss.length) "")
  | n + 1, x => if x % 7 < 3 then .nm (ss.getD (rest (x / 7) ss.length) "") else
    if rest (x / 7) 3 = 2 then .pair (kindF ss n (mixF x 0)) (kindF ss n (mixF x 1)) else .way (kindF ss n (mixF x 0)) (kindF ss n (mixF x 1))
theorem kindF_ok {ss : List Str} (h0 : 0 < ss.length) (h : ∀ s ∈ ss, PN s) : ∀ n x, Kd.settled (kindF ss n x) ∧ Kd.depth (kindF ss n x) ≤ n ∧ namesK PN (kindF ss n x) := by
  have h1 : ∀ i : Int, PN (ss.getD (rest i ss.length) "") := fun i => by
    rw [List.getD_eq_getElem?_getD, List.getElem?_eq_getElem (rest_lt h0)]
    exact h _ (List.getElem_mem _)
  intro n
  induction n with
  | zero => intro x; exact ⟨trivial, Nat.le_refl _, h1 _⟩
  | succ n ih =>
    intro x
    obtain ⟨a1, a2, a3⟩ := ih (mixF x 0)
    obtain ⟨b1, b2, b3⟩ := ih (mixF x 1)
    rw [kindF]
    split
    · exact ⟨trivial, Nat.zero_le _, h1 _⟩
    · split
      · exact ⟨⟨a1, b1⟩, by simp only [Kd.depth]; omega, a3, b3⟩
      · exact ⟨⟨a1, b1⟩, by simp only [Kd.depth]; omega, a3, b3⟩
abbrev s__law_kind : Stmt := top 49
abbrev nm__law_kind : List Str := ["_law_x", "_law_names_here", "_law_deep", "_law_one", "_law_other"]
theorem sc__law_kind : FnScope nm__law_kind ["_law_x", "_law_names_here", "_law_deep"] (defScope s__law_kind) := ⟨rfl, rfl, rfl, by decide +kernel, rfl, by decide +kernel, by decide +kernel⟩
def spKind (K : PySem.W.Frag) (n : Nat) : Sp := fun vs H Q _ => ∃ (x : Int) (ss : List Str) (p : Addr) (m : Nat), m < n ∧ vs = [.int x, .ref p, .int m] ∧ SqL K H p (ss.map V.str) ∧ 0 < ss.length ∧
  ∀ v' H', Same H H' → Im K H' v' (kd (kindF ss m x)) → Q v' H'
theorem kind_ok (T : Tx K mg) (D : Dfn K mg "_law_kind" s__law_kind ["_law_x", "_law_names_here", "_law_deep"]) (CM : Cal P w K mg base 1 "_law_mix" ["_law_x", "_law_way"] (spI K rMix)) : ∀ n, Cal P w K mg base (n + 1) "_law_kind" ["_law_x", "_law_names_here", "_law_deep"] (spKind K n) := by
  obtain ⟨f, fd, F, m__law_kind, b__law_kind⟩ := D
  have k__law_kind := F.kp
  intro n
  refine ⟨f, fd, ?_, m__law_kind, k__law_kind, b__law_kind⟩
  induction n with
  | zero => exact fn_none fun vs H Q E ⟨_, _, _, _, hx, _⟩ => absurd hx (by omega)
  | succ n G__law_kind =>
    obtain ⟨_, _, G__law_mix, m__law_mix, k__law_mix, b__law_mix⟩ := CM.mono (show 1 ≤ n + 1 by omega)
    refine F.ok sc__law_kind (fun vs H Q E ⟨_, _, _, _, _, e, _⟩ => by rw [e]; rfl) (fun cdv A outer s H vs Q E hr h => ?_)
    obtain ⟨x, ss, p, m, hm, rfl, hp, hs, q⟩ := h
    refine ⟨_, (pss_cons (ps_if (PW.pt (pw_or (pt_cmpR op_eq (pv 2) pe_int (nomark _)) (pw_or1 (pt_cmpR op_lt (pe_op op_mod (pv 0) pe_int) pe_int (nomark _)))))
 (pss_one (ps_ret (pe_ix ix_list (pv 1) (pe_op op_mod (pe_op op_fdiv (pv 0) pe_int) (pe_callB call_len_seq rfl T.len_ (by decide +kernel) (pa_cons (pv 1) pa_nil))) (fun _ _ => rfl))))
 pss_nil)
 (pss_cons (ps_set (i := 3) sc__law_kind.nd rfl (Or.inl rfl) (pe_call G__law_kind hr rfl m__law_kind k__law_kind b__law_kind .nil pass0 (pa_cons (pe_call G__law_mix hr rfl m__law_mix k__law_mix b__law_mix .nil pass0 (pa_cons (pv 0) (pa_cons pe_int pa_nil))) (pa_cons (pv 1) (pa_cons (pe_op op_sub (pv 2) pe_int) pa_nil)))))
 (pss_cons (ps_set (i := 4) sc__law_kind.nd rfl (Or.inl rfl) (pe_call G__law_kind hr rfl m__law_kind k__law_kind b__law_kind .nil pass0 (pa_cons (pe_call G__law_mix hr rfl m__law_mix k__law_mix b__law_mix .nil pass0 (pa_cons (pv 0) (pa_cons pe_int pa_nil))) (pa_cons (pv 1) (pa_cons (pe_op op_sub (pv 2) pe_int) pa_nil)))))
 (pss_one (ps_ret (pe_tup (pa_cons (pe_ix ix_list (pe_lst (pa_cons pe_str (pa_cons pe_str (pa_cons pe_str pa_nil)))) (pe_op op_mod (pe_op op_fdiv (pv 0) pe_int) pe_int) (fun _ _ => rfl)) (pa_cons (pv 3) (pa_cons (pv 4) pa_nil))))))))), ?_⟩
    refine Go.run (K := K) (B := H) ?_ (.refl H)
    have fin : ∀ v H1, Up K H H H1 → Im K H1 v (kd (kindF ss m x)) → Q v H1 := fun v H1 u hv => q v H1 u.1 hv
    have nm : Ev K H (tOp (rIxL K) (tVar 1) (tOp (rI (fun _ j => 0 < j) fun i j => .int (i % j)) (tOp (rI CDiv fun i j => .int (i / j)) (tVar 0) (tC (.int 7))) (tCB (fun xs H Q => ∃ p ys, xs = [V.ref p] ∧ (SqL K H p ys ∨ SqT K H p ys) ∧ Q (.int ys.length) H) (tCons (tVar 1) tNil)))) (L2.start nm__law_kind [.int x, .ref p, .int m]) H (.str (ss.getD (rest (x / 7) ss.length) "")) := by
      refine ev_ixL (ex_var rfl) hp (strs_im ss) (ev_mod (ev_fdiv (ev_var rfl (.int _)) ev_int ⟨by decide, by decide⟩) (ev_lenX (ex_var rfl) hp) (by simp; omega)) ?_
      rw [List.length_map, show ss.length = (ss.map PyData.str).length by rw [List.length_map], at_rest (by rw [List.length_map]; exact hs)]
      simp only [List.length_map, List.getElem_map]
      rw [List.getD_eq_getElem?_getD, List.getElem?_eq_getElem (rest_lt hs)]
      rfl
    refine go_ifs (b := decide (m = 0) || decide (x % 7 < 3)) (et_or ((et_test (ev_eqI (ev_var rfl (.int _)) ev_int)).is (dc (by show (m : Int) = 0 ↔ _; omega))) fun _ => et_test (ev_lt (ev_mod (ev_var rfl (.int _)) ev_int (by decide)) ev_int)) (fun z => ?_) (fun z => ?_)
    · refine go_ret nm ?_
      have e : kindF ss m x = .nm (ss.getD (rest (x / 7) ss.length) "") := by
        match m with
        | 0 => rfl
        | m + 1 =>
          rw [kindF, if_pos (by simpa using z)]
      rw [e] at fin
      exact fin
    rw [Bool.or_eq_false_iff, decide_eq_false_iff_not, decide_eq_false_iff_not] at z
    obtain ⟨m, rfl⟩ : ∃ m', m = m' + 1 := ⟨m - 1, by omega⟩
    have sub : ∀ (wv : Nat) {σ : St} {H1 : Hp}, wv < 3 → σ[0]? = some (some (.int x)) → σ[1]? = some (some (.ref p)) → σ[2]? = some (some (.int (m + 1 : Nat))) →
        Ev K H (tCall (spKind K n) [] E0 (tCons (tCall (spI K rMix) [] E0 (tCons (tVar 0) (tCons (tC (.int wv)) tNil))) (tCons (tVar 1) (tCons (tOp (rI0 fun i j => .int (i - j)) (tVar 2) (tC (.int 1))) tNil)))) σ H1 (kd (kindF ss m (mixF x wv))) := fun wv σ H1 hw e0 e1 e2 =>
      ev_callR (er_X (ev_call (ea_cons (ev_var e0 (.int _)) (ea_cons ev_int ea_nil)) ⟨x, wv, hw, rfl, rfl⟩).x (er_X (ex_var e1) (er_X ((ev_sub (ev_var e2 (.int _)) ev_int).is (show PyData.int _ = PyData.int (m : Int) by congr 1; omega)).x er_nil))) fun vs H2 Q' E' u ⟨vs1, e1, vs2, e2, vs3, e3, e4⟩ q' => by
        subst e4 e3 e2 e1
        exact ⟨_, ss, p, m, by omega, rfl, u.1.seq hp, hs, q'⟩
    refine go_set (sub 0 (by omega) rfl rfl rfl) fun v1 H1 u1 h1 => go_set (sub 1 (by omega) rfl rfl rfl) fun v2 H2 u2 h2 => ?_
    have fin2 : ∀ v H1, Up K H H2 H1 → Im K H1 v (kd (kindF ss (m + 1) x)) → Q v H1 := fun v H3 u hv => q v H3 u.1 hv
    rw [kindF, if_neg z.2] at fin2
    have wd3 : ∃ wd : Str, wd = (if rest (x / 7) 3 = 2 then "pair" else "way") ∧ atI [PyData.str "way", PyData.str "way", PyData.str "pair"] (x / 7 % 3) = some (.str wd) := by
      refine ⟨_, rfl, ?_⟩
      have hl := rest_lt (i := x / 7) (n := 3) (by omega)
      rw [show (3 : Int) = ((3 : Nat) : Int) from rfl, rest_eq (i := x / 7) (n := 3) (by omega)]
      refine atI_nat ?_
      match rest (x / 7) 3, hl with
      | 0, _ => rfl
      | 1, _ => rfl
      | 2, _ => rfl
    obtain ⟨wd, hwd, hat⟩ := wd3
    refine go_ret ((ev_tup (ea_cons (ev_ixN (ds := [.str "way", .str "way", .str "pair"]) (el_lst (ea_cons ev_str (ea_cons ev_str (ea_cons ev_str ea_nil))) (by simp)) (ev_mod (ev_fdiv (ev_var (i := 0) rfl (.int _)) ev_int ⟨by decide, by decide⟩) ev_int (by decide)) hat) (ea_cons (ev_var (i := 3) rfl (h1.keep u2.2)) (ea_cons (ev_var (i := 4) rfl h2) ea_nil))) (by simp)).is ?_) fin2
    rw [hwd]
    split <;> rfl
end Fw
set_option Elab.async false
set_option linter.all false
set_option maxRecDepth 100000
set_option maxHeartbeats 1000000
namespace Fw
open PySem L2 Fd
variable {P : Program} {w : World} {K : PySem.W.Frag} {mg : Str → Option Value} {base : Heap}
/-! ### a cell of the script -/
abbrev s__law_cell : Stmt := top 45
abbrev nm__law_cell : List Str := ["_law_script", "_law_k", "_law_state", "_law_cell_here"]
theorem sc__law_cell : FnScope nm__law_cell ["_law_script", "_law_k"] (defScope s__law_cell) := ⟨rfl, rfl, rfl, by decide +kernel, rfl, by decide +kernel, by decide +kernel⟩
def spCell (K : PySem.W.Frag) : Sp := fun vs H Q _ => ∃ (p : Addr) (xs : List Int) (k : Nat), k < 1000 ∧ vs = [.ref p, .int k] ∧ SqL K H p (xs.map V.int) ∧ ∀ j H', Same H H' → Q (.int j) H'
theorem cell_ok (T : Tx K mg) (D : Dfn K mg "_law_cell" s__law_cell ["_law_script", "_law_k"]) : Cal P w K mg base 1 "_law_cell" ["_law_script", "_law_k"] (spCell K) := by
  obtain ⟨f, fd, F, m_, b_⟩ := D
  refine ⟨f, fd, F.ok sc__law_cell (fun vs H Q E ⟨_, _, _, _, e, _⟩ => by rw [e]; rfl) (fun cdv A outer s H vs Q E hr h => ?_), m_, F.kp, b_⟩
  obtain ⟨p, xs, k, hk, rfl, hp, q⟩ := h
  refine ⟨_, (pss_cons (ps_if (pt_cmpR op_lt (pv 1) (pe_callB call_len_seq rfl T.len_ (by decide +kernel) (pa_cons (pv 0) pa_nil)) (nomark _))
 (pss_one (ps_ret (pe_ix ix_list (pv 0) (pv 1) (fun _ _ => rfl))))
 pss_nil)
 (pss_cons (ps_set (i := 2) sc__law_cell.nd rfl (Or.inl rfl) (pe_op op_mod (pe_op op_mul pe_int (pe_op op_add (pe_op op_add (pe_op op_mul (pv 1) (pv 1)) (pe_op op_mul pe_int (pv 1))) pe_int)) pe_int))
 (pss_cons (ps_for PassesOwn.never rfl (pi_list (pe_slice sl_list (pv 0) po_none (po_some pe_int))) (pg_name (i := 3) sc__law_cell.nd rfl (Or.inl rfl))
 (pss_one (ps_set (i := 2) sc__law_cell.nd rfl (Or.inl rfl) (pe_op op_mod (pe_op op_add (pe_op op_mul (pv 2) pe_int) (pv 3)) pe_int))))
 (pss_one (ps_ret (pv 2)))))), ?_⟩
  refine Go.run (K := K) (B := H) ?_ (.refl H)
  refine go_ifs (b := decide (k < xs.length)) ((et_test (ev_lt (ev_var rfl (.int _)) (ev_lenX (ex_var rfl) hp))).is (dc (by rw [List.length_map]; omega))) (fun z => ?_) (fun _ => ?_)
  · refine go_retP (ep_ixL (φ := fun d => ∃ j, d = .int j) (ex_var rfl) hp (ints_im xs) (ev_var rfl (.int _)) ⟨.int (xs[k]'(of_decide_eq_true z)), ⟨_, rfl⟩, atI_nat (by rw [List.getElem?_map, List.getElem?_eq_getElem]; rfl)⟩) fun d v H1 hd u hv => ?_
    obtain ⟨j, rfl⟩ := hd
    rw [hv.int_inv]
    exact q j H1 u.1
  refine go_set (d := .int (48271 * ((k : Int) * k + 7 * k + 11) % 2147483647)) ?_ fun v1 H1 u1 h1 => ?_
  · exact ev_mod (ev_mul ev_int (ev_add (ev_add (ev_mul (ev_var rfl (.int _)) (ev_var rfl (.int _)) (.inl (by omega))) (ev_mul ev_int (ev_var rfl (.int _)) (.inl (by decide)))) ev_int) (.inl (by decide))) ev_int (by decide)
  have e1 := h1.int_inv
  subst e1
  have hxs : ImAll K H1 (xs.map V.int) (xs.map .int) := ints_im xs
  refine go_seq (go_forM (el_slL (ex_var (i := 0) rfl) hp hxs eo_none (eo_some ev_int)) fun l ws H2 hl u2 hl2 hm2 =>
    ⟨fun i σ' H' => (∃ (st : Int) (c : Option V), σ' = [some (.ref p), some (.int k), some (.int st), c]) ∧ Same H2 H', ⟨⟨_, _, rfl⟩, .refl _⟩, fun i σ' H' z => ⟨z.2 _ _ hl2, .of z.2⟩, fun i d x σ' H' hd ⟨⟨st, c, es⟩, sm⟩ hx => ?_, fun σ' H' ⟨⟨st, c, es⟩, sm⟩ => ?_⟩)
  · subst es
    obtain ⟨y, rfl⟩ : ∃ y : Int, d = .int y := by
      have : d ∈ cutD (xs.map PyData.int) none (some 3) := List.mem_of_getElem? hd
      have := List.mem_of_mem_drop (List.mem_of_mem_take this)
      rw [List.mem_map] at this
      obtain ⟨y, _, rfl⟩ := this
      exact ⟨y, rfl⟩
    have ey := hx.int_inv
    subst ey
    exact (ev_mod (ev_add (ev_mul (ev_var (i := 2) rfl (.int _)) ev_int (.inr (by decide))) (ev_var (i := 3) rfl (.int _))) ev_int (by decide) : Ev K H' _ [some (.ref p), some (.int k), some (.int st), some (.int y)] H' _) H' (.refl (.refl _)) _ fun v3 H3 s3 h3 => by
      have e := h3.int_inv
      subst e
      exact ⟨⟨_, _, rfl⟩, sm.trans s3⟩
  · subst es
    exact ⟨_, rfl, q _ _ (u2.1.trans sm)⟩
/-! ### numbers -/
abbrev s__law_numbers : Stmt := top 46
abbrev nm__law_numbers : List Str := ["_law_cell_here", "_law_many", "_law_found", "_law_state", "_law_digits", "_law_k"]
theorem sc__law_numbers : FnScope nm__law_numbers ["_law_cell_here", "_law_many"] (defScope s__law_numbers) := ⟨rfl, rfl, rfl, by decide +kernel, rfl, by decide +kernel, by decide +kernel⟩
def spNumbers (K : PySem.W.Frag) : Sp := fun vs H Q _ => ∃ (c : Int) (n : Nat), n < 1000 ∧ vs = [.int c, .int n] ∧ ∀ (l : Addr) (xs : List Int) (H' : Hp), xs.length = n → H l = none → Same H H' → H' l = some (.lst (xs.map V.int)) → Q (.ref l) H'
theorem numbers_ok (T : Tx K mg) (D : Dfn K mg "_law_numbers" s__law_numbers ["_law_cell_here", "_law_many"]) : Cal P w K mg base 1 "_law_numbers" ["_law_cell_here", "_law_many"] (spNumbers K) := by
  obtain ⟨f, fd, F, m_, b_⟩ := D
  refine ⟨f, fd, F.ok sc__law_numbers (fun vs H Q E ⟨_, _, _, e, _⟩ => by rw [e]; rfl) (fun cdv A outer s H vs Q E hr h => ?_), m_, F.kp, b_⟩
  obtain ⟨c, n, hn, rfl, q⟩ := h
  refine ⟨_, (pss_cons (ps_set (i := 2) sc__law_numbers.nd rfl (Or.inl rfl) (pe_lst pa_nil))
 (pss_cons (ps_set (i := 3) sc__law_numbers.nd rfl (Or.inl rfl) (pe_op op_mod (pe_op op_mul (pe_op op_add (pe_op op_mod (pv 0) pe_int) pe_int) pe_int) pe_int))
 (pss_cons (ps_set (i := 4) sc__law_numbers.nd rfl (Or.inl rfl) pe_int)
 (pss_cons (ps_if (PW.pt (pw_or (pt_cmpR op_lt (pv 0) pe_int (nomark _)) (pw_or1 (pt_cmpR op_ge (pv 0) (pe_op op_pow pe_int pe_int) (nomark _)))))
 (pss_one (ps_set (i := 4) sc__law_numbers.nd rfl (Or.inl rfl) (pe_callB call_abs rfl T.abs_ (by decide +kernel) (pa_cons (pv 0) pa_nil))))
 pss_nil)
 (pss_cons (ps_for PassesOwn.never rfl (pi_range1 rfl T.range_ (pa_cons (pv 1) pa_nil)) (pg_name (i := 5) sc__law_numbers.nd rfl (Or.inl rfl))
 (pss_cons (ps_set (i := 3) sc__law_numbers.nd rfl (Or.inl rfl) (pe_op op_mod (pe_op op_add (pe_op op_add (pe_op op_mul (pv 3) (pe_op op_add (pe_op op_mod (pv 3) pe_int) pe_int)) (pe_op op_mul pe_int (pv 5))) pe_int) pe_int))
 (pss_cons (ps_expr (pe_bm PySem.F.plainAttrs_list PySem.F.slot_list_append PySem.F.type_list_append mt_append (pv 2) (pa_cons (pe_ix ix_list (pe_lst (pa_cons (pv 3) (pa_cons (pe_op op_mod (pv 4) pe_int) pa_nil))) (pe_callTy call_int1 rfl T.int_ (by decide +kernel) (pa_cons (pe_cmpR op_gt (pv 4) pe_int (nomark _)) pa_nil)) (fun _ _ => rfl)) pa_nil)))
 (pss_one (ps_set (i := 4) sc__law_numbers.nd rfl (Or.inl rfl) (pe_op op_fdiv (pv 4) pe_int))))))
 (pss_one (ps_ret (pv 2)))))))), ?_⟩
  refine Go.run (K := K) (B := H) ?_ (.refl H)
  refine go_setL (el_lst ea_nil (by simp)) fun l vs0 H1 hl u1 hl1 m0 => ?_
  cases m0
  refine Go.run (K := K) (B := H1) (H := H1) ?_ (.refl H1)
  refine go_set (ev_mod (ev_mul (ev_add (ev_mod (ev_var (i := 0) rfl (.int _)) ev_int (by decide)) ev_int) ev_int (.inr (by decide))) ev_int (by decide)) fun v2 H2 u2 h2 => ?_
  have e2 := h2.int_inv
  subst e2
  refine go_set ev_int fun v3 H3 u3 h3 => ?_
  have e3 := h3.int_inv
  subst e3
  refine go_ifsR (b := decide (c < 0) || decide (10 ^ 18 ≤ c)) (fun σ' H' => ∃ (st dg : Int), σ' = [some (.int c), some (.int n), some (.ref l), some (.int st), some (.int dg), none] ∧ Same H1 H')
    (et_or (et_test (ev_lt (ev_var (i := 0) rfl (.int _)) ev_int)) fun _ => (et_test (ev_ge (ev_var (i := 0) rfl (.int _)) (ev_pow ev_int ev_int ⟨by decide, by decide, by decide⟩))).is rfl) ?_ ?_ ?_
  · rintro σ' H' ⟨st, dg, rfl, sm⟩
    refine Go.run (K := K) (B := H1) (H := H') ?_ sm
    refine go_seq (go_forR1 (n := n) (ev_var (i := 1) rfl (.int _)) (by omega) (by omega) fun H4 u4 =>
      ⟨fun i σ' H' => ∃ (st dg : Int) (k : Option V) (xs : List Int), σ' = [some (.int c), some (.int n), some (.ref l), some (.int st), some (.int dg), k] ∧ xs.length = i ∧ Same H H' ∧ H' l = some (.lst (xs.map V.int)),
       ⟨_, _, _, [], rfl, rfl, u1.1.trans u4.1, u4.1 _ _ hl1⟩, fun i σ' H' hi ⟨st, dg, k, xs, es, hx, sm, hl'⟩ => ?_, fun σ' H' ⟨st, dg, k, xs, es, hx, sm, hl'⟩ => ?_⟩)
    · subst es
      refine (go_set (K := K) (B := H') (H := H') (ev_mod (ev_add (ev_add (ev_mul (ev_var (i := 3) rfl (.int _)) (ev_add (ev_mod (ev_var (i := 3) rfl (.int _)) ev_int (by decide)) ev_int) (.inr ?_)) (ev_mul ev_int (ev_var (i := 5) rfl (.int _)) (.inl (by decide)))) ev_int) ev_int (by decide)) fun v5 H5 u5 h5 => ?_) H' (.refl (.refl _))
      · have a := Int.emod_lt_of_pos st (show (0 : Int) < 65521 by decide)
        have b := Int.emod_nonneg st (show (65521 : Int) ≠ 0 by decide)
        omega
      have e5 := h5.int_inv
      subst e5
      refine fun H6 u6 => go_app (K := K) (B := H) (φ := fun d => ∃ j, d = .int j) (sm.trans u6.1) hl rfl (u6.1 _ _ hl') (ints_im xs) (by simp; omega) (ep_ixN (el_lst (ea_cons (ev_var (i := 3) rfl (.int _)) (ea_cons (ev_mod (ev_var (i := 4) rfl (.int _)) ev_int (by decide)) ea_nil)) (by simp)) (ev_intB (ev_gt (ev_var (i := 4) rfl (.int _)) ev_int)) ?_) fun d v H7 hd s7 k7 hl7 m7 => ?_
      · cases decide ((0 : Int) < dg) with
        | true => exact ⟨_, ⟨_, rfl⟩, rfl⟩
        | false => exact ⟨_, ⟨_, rfl⟩, rfl⟩
      · obtain ⟨j, rfl⟩ := hd
        have ev := m7.getV (i := xs.length) (by simp; rfl)
        obtain ⟨d, hd', hdm⟩ := ev
        have hv : v = .int j := by
          rw [List.getElem?_append_right (by simp)] at hd'
          simp at hd'
          subst hd'
          exact hdm.int_inv
        subst hv
        refine (ev_fdiv (ev_var (i := 4) rfl (.int _)) ev_int ⟨by decide, by decide⟩ : Ev K H7 _ [some (.int c), some (.int n), some (.ref l), _, some (.int dg), some (.int (0 + (i : Int)))] H7 (.int (dg / 1000000))) H7 (.refl (.refl _)) _ fun v8 H8 s8 h8 => ?_
        have e8 := h8.int_inv
        subst e8
        exact ⟨_, _, _, xs ++ [j], rfl, by simp [hx], s7.trans s8, by rw [List.map_append]; exact s8 _ _ hl7⟩
    · subst es
      exact ⟨_, rfl, q l xs H' hx hl sm hl'⟩
  · intro hR z
    refine fun H4 u4 => (ev_abs (ev_var (i := 0) rfl (.int _)) : Ev K H1 _ [some (.int c), some (.int n), some (.ref l), some (.int _), some (.int 0), none] H3 _) H4 u4 _ fun v5 H5 s5 h5 => hR _ _ ⟨_, _, by have e5 := h5.int_inv; subst e5; rfl, u4.1.trans s5⟩
  · intro z H4 u4
    exact ⟨_, _, rfl, u4.1⟩
end Fw
set_option Elab.async false
set_option linter.all false
set_option maxRecDepth 100000
set_option maxHeartbeats 1000000
namespace Fw
open PySem L2 Fd
variable {P : Program} {w : World} {K : PySem.W.Frag} {mg : Str → Option Value} {base : Heap}
/-! ### names -/
def Lt (m : Nat) (s : Str) : Prop := s.length = m ∧ ∀ c ∈ s.cps.toList, 97 ≤ c ∧ c ≤ 122
theorem Lt.app {m n : Nat} {s t : Str} (h : Lt m s) (k : Lt n t) : Lt (m + n) (s ++ t) := by
  refine ⟨?_, fun c hc => ?_⟩
  · show (s.cps ++ t.cps).size = m + n
    rw [Array.size_append]
    have a : s.cps.size = m := h.1
    have b : t.cps.size = n := k.1
    omega
  · have e : (s ++ t).cps.toList = s.cps.toList ++ t.cps.toList := by show (s.cps ++ t.cps).toList = _; simp
    rw [e, List.mem_append] at hc
    exact hc.elim (h.2 c) (k.2 c)
theorem Lt.one {c : Nat} (h : 97 ≤ c ∧ c ≤ 122) : Lt 1 ⟨#[c]⟩ := ⟨rfl, fun d hd => by simp at hd; subst hd; exact h⟩
theorem Lt.pn {m : Nat} {s : Str} (h : Lt m s) (h1 : 1 ≤ m) (h8 : m ≤ 8) : PN s := ⟨by rw [h.1]; exact h1, by rw [h.1]; exact h8, h.2⟩
theorem at_xs {xs : List Int} {k : Nat} (h : k < xs.length) : atI (xs.map PyData.int) (k : Int) = some (.int (xs.getD k 0)) := atI_nat (by rw [List.getElem?_map, List.getD_eq_getElem?_getD, List.getElem?_eq_getElem h]; rfl)
section
variable {B H H1 H2 : Hp} {σ : St} {tb : TE}
theorem ev_xs {p : Addr} {xs : List Int} {i k : Nat} (e : σ[i]? = some (some (.ref p))) (hp : SqL K B p (xs.map V.int)) (hi : Ev K B tb σ H (.int (k : Int))) (h : k < xs.length) : Ev K B (tOp (rIxL K) (tVar i) tb) σ H (.int (xs.getD k 0)) :=
  ev_ixL (ex_var e) hp (ints_im xs) hi (at_xs h)
theorem go_set1 {D : Ends} {te : TE} {d : PyData} {i : Nat} (h : Ev K B te σ H d) (q : ∀ v H1, Up K B H H1 → Im K H1 v d → D.nx (σ.set i (some v)) H1) : Go K B (tAsg te (gName i)) D σ H := fun H1 u => h H1 u _ fun v H2 s2 m => q v H2 (u.then s2) m
theorem ev_it {a : Int} {b : Nat} (h : Ev K B tb σ H (.int a)) (e : a = b) : Ev K B tb σ H (.int (b : Int)) := e ▸ h
end
abbrev s__law_names : Stmt := top 47
abbrev nm__law_names : List Str := ["_law_xs", "_law_found", "_law_k", "_law_name", "_law_j"]
theorem sc__law_names : FnScope nm__law_names ["_law_xs"] (defScope s__law_names) := ⟨rfl, rfl, rfl, by decide +kernel, rfl, by decide +kernel, by decide +kernel⟩
def spNames (K : PySem.W.Frag) : Sp := fun vs H Q _ => ∃ (p : Addr) (xs : List Int), 4 ≤ xs.length ∧ vs = [.ref p] ∧ SqL K H p (xs.map V.int) ∧ ∀ (l : Addr) (ss : List Str) (H' : Hp), ss.length = 4 → (∀ s ∈ ss, PN s) → H l = none → Same H H' → H' l = some (.lst (ss.map V.str)) → Q (.ref l) H'
theorem names_ok (T : Tx K mg) (D : Dfn K mg "_law_names" s__law_names ["_law_xs"]) : Cal P w K mg base 1 "_law_names" ["_law_xs"] (spNames K) := by
  obtain ⟨f, fd, F, m_, b_⟩ := D
  refine ⟨f, fd, F.ok sc__law_names (fun vs H Q E ⟨_, _, _, e, _⟩ => by rw [e]; rfl) (fun cdv A outer s H vs Q E hr h => ?_), m_, F.kp, b_⟩
  obtain ⟨p, xs, hxl, rfl, hp, q⟩ := h
  refine ⟨_, (pss_cons (ps_set (i := 1) sc__law_names.nd rfl (Or.inl rfl) (pe_lst pa_nil))
 (pss_cons (ps_for PassesOwn.never rfl (pi_range1 rfl T.range_ (pa_cons pe_int pa_nil)) (pg_name (i := 2) sc__law_names.nd rfl (Or.inl rfl))
 (pss_cons (ps_set (i := 3) sc__law_names.nd rfl (Or.inl rfl) (pe_ix ix_str pe_str (pe_op op_mod (pe_op op_add (pv 2) (pe_ix ix_list (pv 0) pe_int (fun _ _ => rfl))) pe_int) (fun _ _ => rfl)))
 (pss_cons (ps_for PassesOwn.never rfl (pi_range1 rfl T.range_ (pa_cons (pe_ix ix_list (pe_lst (pa_cons pe_int (pa_cons pe_int (pa_cons (pe_op op_mod (pe_ix ix_list (pv 0) (pv 2) (fun _ _ => rfl)) pe_int) (pa_cons (pe_op op_mod (pe_ix ix_list (pv 0) (pv 2) (fun _ _ => rfl)) pe_int) pa_nil))))) (pe_op op_mod (pe_ix ix_list (pv 0) pe_int (fun _ _ => rfl)) pe_int) (fun _ _ => rfl)) pa_nil)) (pg_name (i := 4) sc__law_names.nd rfl (Or.inl rfl))
 (pss_one (ps_set (i := 3) sc__law_names.nd rfl (Or.inl rfl) (pe_op op_add_str (pv 3) (pe_ix ix_str pe_str (pe_op op_mod (pe_op op_fdiv (pe_op op_fdiv (pe_ix ix_list (pv 0) (pv 2) (fun _ _ => rfl)) pe_int) (pe_op op_add (pv 4) pe_int)) pe_int) (fun _ _ => rfl))))))
 (pss_one (ps_expr (pe_bm PySem.F.plainAttrs_list PySem.F.slot_list_append PySem.F.type_list_append mt_append (pv 1) (pa_cons (pv 3) pa_nil)))))))
 (pss_one (ps_ret (pv 1))))), ?_⟩
  refine Go.run (K := K) (B := H) ?_ (.refl H)
  refine go_setL (el_lst ea_nil (by simp)) fun l vs0 H1 hl u1 hl1 m0 => ?_
  cases m0
  refine Go.run (K := K) (B := H1) (H := H1) ?_ (.refl H1)
  refine go_seq (go_forR1 (n := 4) ev_int (by decide) (by decide) fun H2 u2 =>
    ⟨fun i σ' H' => ∃ (a b c : Option V) (ss : List Str), σ' = [some (.ref p), some (.ref l), a, b, c] ∧ ss.length = i ∧ (∀ s ∈ ss, PN s) ∧ Same H H' ∧ H' l = some (.lst (ss.map V.str)),
      ⟨_, _, _, [], rfl, rfl, (fun s hs => nomatch hs), u1.1.trans u2.1, u2.1 _ _ hl1⟩, fun i σ' H' hi ⟨a, b, c, ss, es, hss, hpn, sm, hl'⟩ => ?_, fun σ' H' ⟨a, b, c, ss, es, hss, hpn, sm, hl'⟩ => ?_⟩)
  · subst es
    have hp' : SqL K H' p (xs.map V.int) := sm.seq hp
    obtain ⟨ch, hch, ech⟩ : ∃ ch, (97 ≤ ch ∧ ch ≤ 122) ∧ atI ("abcd" : Str).cps.toList (((0 : Int) + i + xs.getD 0 0) % 4) = some ch := by
      obtain ⟨x, h1, h2⟩ := at_some (xs := ("abcd" : Str).cps.toList) (i := (0 : Int) + i + xs.getD 0 0) (n := 4) (by decide) (by decide +kernel)
      exact ⟨x, (by decide +kernel : ∀ x ∈ ("abcd" : Str).cps.toList, 97 ≤ x ∧ x ≤ 122) x h1, h2⟩
    obtain ⟨m, hm, em⟩ : ∃ m : Nat, m ≤ 7 ∧ atI [PyData.int 0, .int 0, .int (xs.getD i 0 % 3), .int (xs.getD i 0 % 8)] (xs.getD 1 0 % 4) = some (.int (m : Int)) := by
      obtain ⟨d, h1, h2⟩ := at_some (xs := [PyData.int 0, .int 0, .int (xs.getD i 0 % 3), .int (xs.getD i 0 % 8)]) (i := xs.getD 1 0) (n := 4) (by decide) rfl
      have a3 := Int.emod_lt_of_pos (xs.getD i 0) (show (0 : Int) < 3 by decide)
      have b3 := Int.emod_nonneg (xs.getD i 0) (show (3 : Int) ≠ 0 by decide)
      have a8 := Int.emod_lt_of_pos (xs.getD i 0) (show (0 : Int) < 8 by decide)
      have b8 := Int.emod_nonneg (xs.getD i 0) (show (8 : Int) ≠ 0 by decide)
      simp only [List.mem_cons, List.not_mem_nil, or_false] at h1
      rcases h1 with rfl | rfl | rfl | rfl
      · exact ⟨0, by omega, h2⟩
      · exact ⟨0, by omega, h2⟩
      · exact ⟨(xs.getD i 0 % 3).toNat, by omega, by rw [Int.toNat_of_nonneg b3]; exact h2⟩
      · exact ⟨(xs.getD i 0 % 8).toNat, by omega, by rw [Int.toNat_of_nonneg b8]; exact h2⟩
    have kx : ∀ {σ : St} {H'' : Hp}, σ[0]? = some (some (.ref p)) → σ[2]? = some (some (.int (0 + (i : Int)))) → Ev K H' (tOp (rIxL K) (tVar 0) (tVar 2)) σ H'' (.int (xs.getD i 0)) := fun e0 e2 => ev_xs e0 hp' (ev_it (ev_var e2 (.int _)) (by omega)) (by omega)
    refine (go_set (K := K) (B := H') (H := H') (ev_ixS (ev_str (x := "abcd")) (ev_mod (ev_add (ev_var (i := 2) rfl (.int _)) (ev_xs (k := 0) rfl hp' ev_int (by omega))) ev_int (by decide)) (by decide +kernel) ech) fun v3 H3 u3 h3 => ?_) H' (.refl (.refl _))
    have e3 := h3.str_inv
    subst e3
    refine go_seq (go_forR1 (n := m) (ev_ixN (ds := [PyData.int 0, .int 0, .int (xs.getD i 0 % 3), .int (xs.getD i 0 % 8)]) (el_lst (ea_cons ev_int (ea_cons ev_int (ea_cons (ev_mod (kx rfl rfl) ev_int (by decide)) (ea_cons (ev_mod (kx rfl rfl) ev_int (by decide)) ea_nil)))) (by simp)) (ev_mod (ev_xs (k := 1) rfl hp' ev_int (by omega)) ev_int (by decide)) em) (by omega) (by omega) fun H4 u4 =>
      ⟨fun j σ' H'' => ∃ (s : Str) (c' : Option V), σ' = [some (.ref p), some (.ref l), some (.int (0 + (i : Int))), some (.str s), c'] ∧ Lt (j + 1) s ∧ Same H' H'', ⟨_, _, rfl, Lt.one hch, u4.1⟩, fun j σ' H'' hj ⟨s, c', es, hs, s4⟩ => ?_, fun σ' H'' ⟨s, c', es, hs, s4⟩ => ?_⟩)
    · subst es
      obtain ⟨c2, hc2, ec2⟩ : ∃ ch, (97 ≤ ch ∧ ch ≤ 122) ∧ atI ("abcdexyz" : Str).cps.toList (xs.getD i 0 / 8 / (0 + (j : Int) + 1) % 8) = some ch := by
        obtain ⟨x, h1, h2⟩ := at_some (xs := ("abcdexyz" : Str).cps.toList) (i := xs.getD i 0 / 8 / (0 + (j : Int) + 1)) (n := 8) (by decide) (by decide +kernel)
        exact ⟨x, (by decide +kernel : ∀ x ∈ ("abcdexyz" : Str).cps.toList, 97 ≤ x ∧ x ≤ 122) x h1, h2⟩
      refine (go_set1 (K := K) (B := H') (H := H'') (ev_addS (ev_var (i := 3) rfl (.str s)) (ev_ixS (ev_str (x := "abcdexyz")) (ev_mod (ev_fdiv (ev_fdiv (kx rfl rfl) ev_int ⟨by decide, by decide⟩) (ev_add (ev_var (i := 4) rfl (.int _)) ev_int) ⟨by omega, by omega⟩) ev_int (by decide)) (by decide +kernel) ec2) ?_) fun v5 H5 u5 h5 => ?_) H'' ⟨s4, .refl _⟩
      · have a := hs.1
        have b : (⟨#[c2]⟩ : Str).length = 1 := rfl
        omega
      · have e5 := h5.str_inv
        subst e5
        exact ⟨_, _, rfl, hs.app (Lt.one hc2), u5.1⟩
    · subst es
      refine go_app (K := K) (B := H) (φ := fun d => d = .str s) (sm.trans s4) hl rfl (s4 _ _ hl') (strs_im ss) (by simp; omega) ((ev_var (i := 3) rfl (.str s)).p rfl) fun d v H7 hd s7 k7 hl7 m7 => ?_
      subst hd
      obtain ⟨d, hd', hdm⟩ := m7.getV (i := ss.length) (by simp; rfl)
      have hv : v = .str s := by
        rw [List.getElem?_append_right (by simp)] at hd'
        simp at hd'
        subst hd'
        exact hdm.str_inv
      subst hv
      exact ⟨_, _, _, ss ++ [s], rfl, by simp [hss], fun t ht => by
        rw [List.mem_append] at ht
        rcases ht with ht | ht
        · exact hpn t ht
        · rw [List.mem_singleton.mp ht]; exact hs.pn (by omega) (by omega), s7, by rw [List.map_append]; exact hl7⟩
  · subst es
    exact ⟨_, rfl, q l ss H' hss hpn hl sm hl'⟩
end Fw
set_option Elab.async false
set_option linter.all false
set_option maxRecDepth 100000
set_option maxHeartbeats 1000000
namespace Fw
open PySem L2 Fd
variable {P : Program} {w : World} {K : PySem.W.Frag} {mg : Str → Option Value} {base : Heap}
/-! ### a book -/
def rowD (r : Str × Kd) : PyData := .tuple [.str r.1, kd r.2]
def bkD (bk : Bk) : PyData := .tuple (bk.map rowD)
/-- a book as it stands -/
def BkV (K : PySem.W.Frag) (H : Hp) (v : V) (bk : Bk) : Prop := ∃ (a : Addr) (o : Obj) (ws : List V), v = .ref a ∧ H a = some (.frz o (.tup ws)) ∧ o.dict = none ∧ ImAll K H ws (bk.map rowD)
theorem BkV.im {H : Hp} {v : V} {bk : Bk} (h : BkV K H v bk) : Im K H v (bkD bk) := by
  obtain ⟨a, o, ws, rfl, h1, h2, h3⟩ := h
  exact .tup (.inl (.inr ⟨o, h1⟩)) h3
theorem BkV.keep {H H' : Hp} {v : V} {bk : Bk} (h : BkV K H v bk) (s : Same H H') : BkV K H' v bk := by
  obtain ⟨a, o, ws, e, h1, h2, h3⟩ := h
  exact ⟨a, o, ws, e, s _ _ h1, h2, h3.keep (.of s)⟩
/-- a fine book -/
structure BkOk (bk : Bk) (n : Nat) : Prop where
  nodup : (bk.map Prod.fst).Nodup
  some_ : 0 < bk.length
  few : bk.length ≤ 3
  each : ∀ r ∈ bk, PN r.1 ∧ Kd.settled r.2 ∧ Kd.depth r.2 ≤ n ∧ namesK PN r.2
theorem Ev.up' {B B2 H : Hp} {σ : St} {te : TE} {d : PyData} (h : Ev K B te σ H d) (s : Same B B2) : Ev K B2 te σ H d := fun H1 u Q q => h H1 ⟨s.trans u.1, u.2⟩ Q q
def fghk : List Nat := ("fghk" : Str).cps.toList
theorem fghk_at (i : Int) : ∃ ch, (97 ≤ ch ∧ ch ≤ 122) ∧ atI ("fghk" : Str).cps.toList (i % 4) = some ch ∧ some ch = fghk[rest i 4]? := by
  have hl := rest_lt (i := i) (n := 4) (by decide)
  rw [show (4 : Int) = ((4 : Nat) : Int) from rfl, rest_eq (i := i) (n := 4) (by decide)]
  generalize rest i 4 = j at hl ⊢
  match j, hl with
  | 0, _ => exact ⟨102, by decide, by decide +kernel, by decide +kernel⟩
  | 1, _ => exact ⟨103, by decide, by decide +kernel, by decide +kernel⟩
  | 2, _ => exact ⟨104, by decide, by decide +kernel, by decide +kernel⟩
  | 3, _ => exact ⟨107, by decide, by decide +kernel, by decide +kernel⟩
theorem head_app (c : Nat) (y : Str) : ((⟨#[c]⟩ : Str) ++ y).cps.toList[0]? = some c := by
  have e : ((⟨#[c]⟩ : Str) ++ y).cps.toList = [c] ++ y.cps.toList := by show ((#[c] : Array Nat) ++ y.cps).toList = _; simp
  rw [e]; rfl
def InBk (x0 : Int) (n : Nat) (bk : Bk) : Prop := ∀ (i : Nat) (r : Str × Kd), bk[i]? = some r → (PN r.1 ∧ Kd.settled r.2 ∧ Kd.depth r.2 ≤ n ∧ namesK PN r.2) ∧ r.1.cps.toList[0]? = fghk[rest (i + x0) 4]?
theorem InBk.ok {x0 : Int} {n : Nat} {bk : Bk} (h : InBk x0 n bk) (h0 : 0 < bk.length) (h3 : bk.length ≤ 3) : BkOk bk n := by
  refine ⟨?_, h0, h3, fun r hr => ?_⟩
  · refine List.pairwise_iff_getElem.mpr fun i j hi hj hij e => ?_
    rw [List.length_map] at hi hj
    rw [List.getElem_map, List.getElem_map] at e
    have e' : (bk[i]'(by omega)).1 = bk[j].1 := e
    have a := (h i _ (List.getElem?_eq_getElem (by omega))).2
    have b := (h j _ (List.getElem?_eq_getElem hj)).2
    rw [e', b] at a
    have inj : ∀ u v : Fin 4, fghk[u.val]? = fghk[v.val]? → u = v := by decide +kernel
    have l1 := rest_lt (i := (i : Int) + x0) (n := 4) (by decide)
    have l2 := rest_lt (i := (j : Int) + x0) (n := 4) (by decide)
    have z := congrArg Fin.val (inj ⟨_, l2⟩ ⟨_, l1⟩ a)
    have r1 := rest_eq (i := (i : Int) + x0) (n := 4) (by decide)
    have r2 := rest_eq (i := (j : Int) + x0) (n := 4) (by decide)
    have z' : rest ((j : Int) + x0) 4 = rest ((i : Int) + x0) 4 := z
    rw [z'] at r2
    omega
  · obtain ⟨i, hi⟩ := List.getElem?_of_mem hr
    exact (h i r hi).1
theorem InBk.snoc {x0 : Int} {n : Nat} {bk : Bk} (h : InBk x0 n bk) {s : Str} {k : Kd} (h1 : PN s ∧ Kd.settled k ∧ Kd.depth k ≤ n ∧ namesK PN k) (h2 : s.cps.toList[0]? = fghk[rest (bk.length + x0) 4]?) : InBk x0 n (bk ++ [(s, k)]) := fun i r hi => by
  by_cases hlt : i < bk.length
  · rw [List.getElem?_append_left hlt] at hi
    exact h i r hi
  · rw [List.getElem?_append_right (by omega)] at hi
    have e : i = bk.length := by
      by_cases z : i - bk.length = 0
      · omega
      · rw [List.getElem?_eq_none (by simp; omega)] at hi; cases hi
    subst e
    simp at hi
    subst hi
    exact ⟨h1, h2⟩
abbrev s__law_book : Stmt := top 50
abbrev nm__law_book : List Str := ["_law_xs", "_law_names_here", "_law_many", "_law_deep", "_law_found", "_law_k", "_law_name"]
theorem sc__law_book : FnScope nm__law_book ["_law_xs", "_law_names_here", "_law_many", "_law_deep"] (defScope s__law_book) := ⟨rfl, rfl, rfl, by decide +kernel, rfl, by decide +kernel, by decide +kernel⟩
def spBook (K : PySem.W.Frag) (n : Nat) : Sp := fun vs H Q _ => ∃ (px pn : Addr) (xs : List Int) (ss : List Str) (m : Nat), 4 ≤ xs.length ∧ 1 ≤ m ∧ m ≤ 3 ∧ 0 < ss.length ∧ (∀ s ∈ ss, PN s) ∧ vs = [.ref px, .ref pn, .int m, .int n] ∧ SqL K H px (xs.map V.int) ∧ SqL K H pn (ss.map V.str) ∧
  ∀ bk v H', BkOk bk n → Same H H' → BkV K H' v bk → Q v H'
theorem book_ok (T : Tx K mg) (n : Nat) (D : Dfn K mg "_law_book" s__law_book ["_law_xs", "_law_names_here", "_law_many", "_law_deep"]) (CK : Cal P w K mg base (n + 2) "_law_kind" ["_law_x", "_law_names_here", "_law_deep"] (spKind K (n + 1))) : Cal P w K mg base (n + 3) "_law_book" ["_law_xs", "_law_names_here", "_law_many", "_law_deep"] (spBook K n) := by
  obtain ⟨f, fd, F, m_, b_⟩ := D
  obtain ⟨_, _, G__law_kind, m__law_kind, k__law_kind, b__law_kind⟩ := CK
  refine ⟨f, fd, F.ok sc__law_book (fun vs H Q E ⟨_, _, _, _, _, _, _, _, _, _, e, _⟩ => by rw [e]; rfl) (fun cdv A outer s H vs Q E hr h => ?_), m_, F.kp, b_⟩
  obtain ⟨px, pn, xs, ss, m, hxl, hm1, hm3, hs0, hspn, rfl, hx, hn, q⟩ := h
  refine ⟨_, (pss_cons (ps_set (i := 4) sc__law_book.nd rfl (Or.inl rfl) (pe_lst pa_nil))
 (pss_cons (ps_for PassesOwn.never rfl (pi_range1 rfl T.range_ (pa_cons (pv 2) pa_nil)) (pg_name (i := 5) sc__law_book.nd rfl (Or.inl rfl))
 (pss_cons (ps_set (i := 6) sc__law_book.nd rfl (Or.inl rfl) (pe_op op_add_str (pe_ix ix_str pe_str (pe_op op_mod (pe_op op_add (pv 5) (pe_ix ix_list (pv 0) pe_int (fun _ _ => rfl))) pe_int) (fun _ _ => rfl)) (pe_ix ix_list (pe_lst (pa_cons pe_str (pa_cons pe_str (pa_cons pe_str (pa_cons pe_str pa_nil))))) (pe_op op_mod (pe_op op_fdiv (pe_ix ix_list (pv 0) (pe_op op_add (pv 5) pe_int) (fun _ _ => rfl)) pe_int) pe_int) (fun _ _ => rfl))))
 (pss_one (ps_expr (pe_bm PySem.F.plainAttrs_list PySem.F.slot_list_append PySem.F.type_list_append mt_append (pv 4) (pa_cons (pe_tup (pa_cons (pv 6) (pa_cons (pe_call G__law_kind hr rfl m__law_kind k__law_kind b__law_kind .nil pass0 (pa_cons (pe_ix ix_list (pv 0) (pe_op op_add (pv 5) pe_int) (fun _ _ => rfl)) (pa_cons (pv 1) (pa_cons (pv 3) pa_nil)))) pa_nil))) pa_nil))))))
 (pss_one (ps_ret (pe_callTy call_tupF rfl T.tuple_ (by decide +kernel) (pa_cons (pv 4) pa_nil)))))), ?_⟩
  refine Go.run (K := K) (B := H) ?_ (.refl H)
  refine go_setL (el_lst ea_nil (by simp)) fun l vs0 H1 hl u1 hl1 m0 => ?_
  cases m0
  refine Go.run (K := K) (B := H1) (H := H1) ?_ (.refl H1)
  refine go_seq (go_forR1 (n := m) (ev_var (i := 2) rfl (.int _)) (by omega) (by omega) fun H2 u2 =>
    ⟨fun i σ' H' => ∃ (a b : Option V) (bk : Bk) (acc : List V), σ' = [some (.ref px), some (.ref pn), some (.int m), some (.int n), some (.ref l), a, b] ∧ bk.length = i ∧ InBk (xs.getD 0 0) n bk ∧ Same H H' ∧ H' l = some (.lst acc) ∧ ImAll K H' acc (bk.map rowD),
      ⟨_, _, [], [], rfl, rfl, (fun i r hi => by simp at hi), u1.1.trans u2.1, u2.1 _ _ hl1, .nil⟩, fun i σ' H' hi ⟨a, b, bk, acc, es, hb, hin, sm, hl', ma⟩ => ?_, fun σ' H' ⟨a, b, bk, acc, es, hb, hin, sm, hl', ma⟩ => ?_⟩)
  · subst es
    have hx' : SqL K H' px (xs.map V.int) := sm.seq hx
    have hn' : SqL K H' pn (ss.map V.str) := sm.seq hn
    obtain ⟨ch, hch, ech, h0⟩ := fghk_at ((i : Int) + xs.getD 0 0)
    rw [show (i : Int) + xs.getD 0 0 = (0 : Int) + i + xs.getD 0 0 by omega] at ech
    obtain ⟨y, m', hy, hm', ey⟩ : ∃ (y : Str) (m' : Nat), Lt m' y ∧ m' ≤ 4 ∧ atI [PyData.str "", .str "f", .str "gg", .str "fghk"] (xs.getD (i + 1) 0 / 5 % 4) = some (.str y) := by
      obtain ⟨d, h1, h2⟩ := at_some (xs := [PyData.str "", .str "f", .str "gg", .str "fghk"]) (i := xs.getD (i + 1) 0 / 5) (n := 4) (by decide) rfl
      simp only [List.mem_cons, List.not_mem_nil, or_false] at h1
      rcases h1 with rfl | rfl | rfl | rfl
      · exact ⟨"", 0, ⟨by decide +kernel, by decide +kernel⟩, by decide, h2⟩
      · exact ⟨"f", 1, ⟨by decide +kernel, by decide +kernel⟩, by decide, h2⟩
      · exact ⟨"gg", 2, ⟨by decide +kernel, by decide +kernel⟩, by decide, h2⟩
      · exact ⟨"fghk", 4, ⟨by decide +kernel, by decide +kernel⟩, by decide, h2⟩
    have x1 : ∀ {σ : St} {H'' : Hp}, σ[0]? = some (some (.ref px)) → σ[5]? = some (some (.int (0 + (i : Int)))) → Ev K H' (tOp (rIxL K) (tVar 0) (tOp (rI0 fun i j => .int (i + j)) (tVar 5) (tC (.int 1)))) σ H'' (.int (xs.getD (i + 1) 0)) := fun e0 e5 => ev_xs e0 hx' (ev_it (ev_add (ev_var e5 (.int _)) ev_int) (by omega)) (by omega)
    have hlt : Lt (1 + m') (⟨#[ch]⟩ ++ y) := (Lt.one hch).app hy
    refine (go_set (K := K) (B := H') (H := H') (ev_addS (ev_ixS (ev_str (x := "fghk")) (ev_mod (ev_add (ev_var (i := 5) rfl (.int _)) (ev_xs (k := 0) rfl hx' ev_int (by omega))) ev_int (by decide)) (by decide +kernel) ech)
      (ev_ixN (ds := [PyData.str "", .str "f", .str "gg", .str "fghk"]) (el_lst (ea_cons ev_str (ea_cons ev_str (ea_cons ev_str (ea_cons ev_str ea_nil)))) (by simp)) (ev_mod (ev_fdiv (x1 rfl rfl) ev_int ⟨by decide, by decide⟩) ev_int (by decide)) ey) ?_) fun v3 H3 u3 h3 => ?_) H' (.refl (.refl _))
    · have a := hy.1
      have b : (⟨#[ch]⟩ : Str).length = 1 := rfl
      omega
    have e3 := h3.str_inv
    subst e3
    obtain ⟨k1, k2, k3⟩ := kindF_ok hs0 hspn n (xs.getD (i + 1) 0)
    refine fun H4 u4 => go_app (K := K) (B := H) (φ := fun d => d = rowD (⟨#[ch]⟩ ++ y, kindF ss n (xs.getD (i + 1) 0))) (sm.trans u4.1) hl rfl (u4.1 _ _ hl') (ma.keep (.of u4.1)) (by simp; omega) ((ev_tup (ea_cons (ev_var (i := 6) rfl (.str _)) (ea_cons (ev_callR (d := kd (kindF ss n (xs.getD (i + 1) 0))) (er_X ((x1 rfl rfl).up' u4.1).x (er_X (ex_var (i := 1) rfl) (er_X (ex_var (i := 3) rfl) er_nil))) fun vs H2 Q' E' u ⟨vs1, e1, vs2, e2, vs3, e3, e4⟩ q' => ?_) ea_nil)) (by simp)).p rfl) fun d v H7 hd s7 k7 hl7 m7 => ?_
    · subst hd
      exact ⟨_, _, bk ++ [(⟨#[ch]⟩ ++ y, kindF ss n (xs.getD (i + 1) 0))], _, rfl, by simp [hb], hin.snoc ⟨hlt.pn (by omega) (by omega), k1, k2, k3⟩ (by rw [hb, ← h0]; exact head_app _ _), s7, hl7, by rw [List.map_append]; exact m7⟩
    · subst e4 e3 e2 e1
      exact ⟨_, ss, pn, n, by omega, rfl, (u4.1.trans u.1).seq hn', hs0, q'⟩
  · subst es
    exact ⟨_, rfl, l, acc, rfl, SqL.of hl', fun t o ho ht => q bk _ _ (hin.ok (by omega) (by omega)) (sm.trans (same_new ht _)) ⟨t, o, acc, rfl, upd_same, ho, ma.keep (.of (same_new ht _))⟩⟩
end Fw
set_option Elab.async false
set_option linter.all false
set_option maxRecDepth 100000
set_option maxHeartbeats 1000000
namespace Fw
open PySem L2 Fd
variable {P : Program} {w : World} {K : PySem.W.Frag} {mg : Str → Option Value} {base : Heap}
theorem u65 {k : Nat} {A : Around} (r : Room k A) : A.units + 65 < cLine := by have := r.un; omega
theorem u1 {k : Nat} {A : Around} (r : Room k A) : A.units + 1 < cLine := by have := r.un; omega
/-! ### a heap without one place -/
def wo (H : Hp) (l : Addr) : Hp := fun x => if x = l then none else H x
theorem wo_l {H : Hp} {l : Addr} : wo H l l = none := if_pos rfl
theorem wo_ne {H : Hp} {l x : Addr} (h : x ≠ l) : wo H l x = H x := if_neg h
theorem wo_same {H : Hp} {l : Addr} : Same (wo H l) H := fun x o h => by
  unfold wo at h
  split at h
  · cases h
  · exact h
theorem wo_sub {B H : Hp} {l : Addr} (s : Same B H) (h : B l = none) : Same B (wo H l) := fun x o q => by
  rw [wo_ne (ne_of_none q h)]
  exact s x o q
/-! ### ways out of a kind -/
structure Row where
  wants : List Kd
  goal : Str
  road : List Str
def Row.d (r : Row) : PyData := .tuple [.tuple (r.wants.map kd), .str r.goal, .tuple (r.road.map .str)]
def outsF : Kd → List Row
  | .nm s => [⟨[], s, []⟩]
  | .num _ => []
  | .way a b => (outsF b).map fun r => ⟨a :: r.wants, r.goal, "do" :: r.road⟩
  | .pair a b => ((outsF a).map fun r => ⟨r.wants, r.goal, "first" :: r.road⟩) ++ (outsF b).map fun r => ⟨r.wants, r.goal, "second" :: r.road⟩
theorem outsF_len (k : Kd) : (outsF k).length ≤ 2 ^ k.depth := by
  induction k with
  | nm s => simp [outsF, Kd.depth]
  | num n => simp [outsF]
  | way a b _ ih =>
    simp only [outsF, List.length_map, Kd.depth]
    have := Nat.pow_le_pow_right (n := 2) (by omega) (show b.depth ≤ max a.depth b.depth + 1 by omega)
    omega
  | pair a b i1 i2 =>
    simp only [outsF, List.length_append, List.length_map, Kd.depth]
    have h1 := Nat.pow_le_pow_right (n := 2) (by omega) (show a.depth ≤ max a.depth b.depth by omega)
    have h2 := Nat.pow_le_pow_right (n := 2) (by omega) (show b.depth ≤ max a.depth b.depth by omega)
    rw [Nat.pow_succ]
    omega
theorem outsF_road (k : Kd) : ∀ r ∈ outsF k, r.road.length ≤ k.depth ∧ r.wants.length ≤ k.depth := by
  induction k with
  | nm s => intro r hr; simp [outsF] at hr; subst hr; simp
  | num n => intro r hr; simp [outsF] at hr
  | way a b _ ih =>
    intro r hr
    simp only [outsF, List.mem_map] at hr
    obtain ⟨r', h, rfl⟩ := hr
    have := ih r' h
    simp only [List.length_cons, Kd.depth]
    omega
  | pair a b i1 i2 =>
    intro r hr
    simp only [outsF, List.mem_append, List.mem_map] at hr
    rcases hr with ⟨r', h, rfl⟩ | ⟨r', h, rfl⟩
    · have := i1 r' h
      simp only [List.length_cons, Kd.depth]
      omega
    · have := i2 r' h
      simp only [List.length_cons, Kd.depth]
      omega
/-- one loop: each row turned and put into the list -/
theorem outs_loop {B H : Hp} {D : Ends} {ti te : TE} {l : Addr} {v : V} {a b c k wd : Option V} {acc : List V} {ds : List PyData} {rows : List Row} {f : Row → PyData} (hs : Same B H) (hB : B l = none) (hl : H l = some (.lst acc)) (ma : ImAll K H acc ds)
    (hi : EvL K H ti [some v, some (.ref l), a, b, c, k, wd] H (rows.map Row.d)) (hlen : ds.length + rows.length < 100000)
    (he : ∀ r ∈ rows, ∀ x y z H', TK K H H' → Im K H' x (.tuple (r.wants.map kd)) → Im K H' y (.str r.goal) → Im K H' z (.tuple (r.road.map .str)) → Ev K H' te [some v, some (.ref l), some x, some y, some z, k, wd] H' (f r))
    (q : ∀ a b c acc' H', Same B H' → TK K H H' → H' l = some (.lst acc') → ImAll K H' acc' (ds ++ rows.map f) → D.nx [some v, some (.ref l), a, b, c, k, wd] H') :
    tFor (iList K ti) (gTup K 3 (gCons (gName 2) (gCons (gName 3) (gCons (gName 4) gNil)))) (tDrop (tBM K "list" rAppend (tVar 1) (tCons te tNil))) D [some v, some (.ref l), a, b, c, k, wd] H := by
  refine (go_forM (K := K) (B := H) (H := H) hi fun p ws H2 hp u2 hp2 hm => ⟨fun i σ' H' => ∃ a b c acc', σ' = [some v, some (.ref l), a, b, c, k, wd] ∧ Same B H' ∧ TK K H2 H' ∧ H' p = some (.lst ws) ∧ H' l = some (.lst acc') ∧ ImAll K H' acc' (ds ++ (rows.map f).take i),
    ⟨a, b, c, acc, rfl, hs.trans u2.1, .refl _, hp2, u2.1 _ _ hl, by rw [List.take_zero, List.append_nil]; exact ma.keep u2.2⟩, fun i σ' H' ⟨_, _, _, _, _, _, h1, h2, _⟩ => ⟨h2, h1⟩, fun i d x σ' H' hd ⟨a, b, c, acc', es, sm, tk, hp', hl', ma'⟩ hx => ?_, fun σ' H' ⟨a, b, c, acc', es, sm, tk, hp', hl', ma'⟩ => ?_⟩) H (.refl (.refl _))
  · subst es
    rw [List.take_of_length_le (by simp)] at ma'
    exact q _ _ _ _ _ sm (u2.2.trans tk) hl' ma'
  · subst es
    rw [List.getElem?_map] at hd
    cases e : rows[i]? with
    | none => rw [e] at hd; cases hd
    | some r =>
      rw [e] at hd
      cases hd
      have hlp : p ≠ l := by intro z; subst z; rw [hp] at hl; cases hl
      have hir := (List.getElem?_eq_some_iff.mp e).1
      refine g_3 hx fun x y z hx hy hz => go_app (K := K) (B := wo H' l) (φ := fun d => d = f r) wo_same wo_l rfl hl' ma' (by simp; omega) ((he r (List.mem_of_getElem? e) x y z H' (u2.2.trans tk) hx hy hz).p rfl) fun d v7 H7 hd s7 k7 hl7 m7 => ?_
      subst hd
      refine ⟨_, _, _, _, rfl, (wo_sub sm hB).trans s7, tk.trans k7, s7 _ _ (by rw [wo_ne hlp]; exact hp'), hl7, ?_⟩
      rw [List.take_succ, List.getElem?_map, e, ← List.append_assoc]
      exact m7
abbrev s__law_outs : Stmt := top 51
abbrev nm__law_outs : List Str := ["_law_kind_here", "_law_found", "_law_wants", "_law_name", "_law_road", "_law_k", "_law_word"]
theorem sc__law_outs : FnScope nm__law_outs ["_law_kind_here"] (defScope s__law_outs) := ⟨rfl, rfl, rfl, by decide +kernel, rfl, by decide +kernel, by decide +kernel⟩
def rOuts (n : Nat) : List PyData → List PyData → Prop := fun ds r => ∃ k : Kd, k.depth < n ∧ k.depth ≤ 4 ∧ k.settled ∧ ds = [kd k] ∧ r = (outsF k).map Row.d
def accP (a b : Kd) : Nat → List PyData
  | 0 => []
  | 1 => (outsF a).map fun r => Row.d ⟨r.wants, r.goal, "first" :: r.road⟩
  | _ => (outsF (.pair a b)).map Row.d
theorem outs_part {n : Nat} {E : XK} {D : Ends} {H' : Hp} {l : Addr} {v x : V} {a' b' c' k' w' : Option V} {acc' : List V} (j : Int) (wd : Str) (kk : Kd) (ds ps : List PyData) (hk1 : kk.depth < n) (hk2 : kk.depth ≤ 3) (hk3 : kk.settled) (hds : ds.length ≤ 8) (h2 : Im K H' v (.tuple ps)) (hat : atI ps j = some (kd kk)) (hx : Im K H' x (.tuple [.int j, .str wd]))
    (hl' : H' l = some (.lst acc')) (mad : ImAll K H' acc' ds) (fin : ∀ k'' w'' a' b' c' acc'' H'', Same (wo H' l) H'' → TK K H' H'' → H'' l = some (.lst acc'') → ImAll K H'' acc'' (ds ++ (outsF kk).map fun r => Row.d ⟨r.wants, r.goal, wd :: r.road⟩) → D.nx [some v, some (.ref l), a', b', c', k'', w''] H'') :
    gTup K 2 (gCons (gName 5) (gCons (gName 6) gNil)) x [some v, some (.ref l), a', b', c', k', w'] H' fun σ2 H3 => tFor (iList K (tCall (spL K (rOuts n)) [] E (tCons (tOp (rIxT K) (tVar 0) (tVar 5)) tNil))) (gTup K 3 (gCons (gName 2) (gCons (gName 3) (gCons (gName 4) gNil))))
      (tDrop (tBM K "list" rAppend (tVar 1) (tCons (tTup (tCons (tVar 2) (tCons (tVar 3) (tCons (tOp (rCatA K) (tTup (tCons (tVar 6) tNil)) (tVar 4)) tNil)))) tNil))) D σ2 H3 := by
  have lk := outsF_len kk
  have lk2 := Nat.pow_le_pow_right (n := 2) (by omega) hk2
  refine g_2 hx fun xk xw hxk hxw => ?_
  refine outs_loop (B := wo H' l) (H := H') wo_same wo_l hl' mad (el_call (ea_cons (ev_ix (ev_var (i := 0) rfl h2) (ev_var (i := 5) rfl hxk) hat) ea_nil) ⟨kk, hk1, by omega, hk3, rfl, rfl⟩) (by omega) (f := fun r => Row.d ⟨r.wants, r.goal, wd :: r.road⟩) (fun r hr x y z H'' tk' hx hy hz => ?_) fun a' b' c' acc' H'' sm tk hl' m' => fin _ _ _ _ _ _ _ sm tk hl' m'
  have hrr := outsF_road kk r hr
  exact ev_tup (ea_cons (ev_var (i := 2) rfl hx) (ea_cons (ev_var (i := 3) rfl hy) (ea_cons (ev_cat (ev_tup (ea_cons (ev_var (i := 6) rfl (hxw.keep tk')) ea_nil) (by simp)) (ev_var (i := 4) rfl hz) (by simp; omega)) ea_nil))) (by simp)
theorem outs_ok (T : Tx K mg) (D : Dfn K mg "_law_outs" s__law_outs ["_law_kind_here"]) : ∀ n, Cal P w K mg base n "_law_outs" ["_law_kind_here"] (spL K (rOuts n)) := by
  obtain ⟨f, fd, F, m__law_outs, b__law_outs⟩ := D
  have k__law_outs := F.kp
  intro n
  refine ⟨f, fd, ?_, m__law_outs, k__law_outs, b__law_outs⟩
  induction n with
  | zero => exact fn_none fun vs H Q E ⟨ds, d, ⟨x, hx, _⟩, _⟩ => absurd hx (by omega)
  | succ n G__law_outs =>
    refine F.ok sc__law_outs (spL_len fun ds d ⟨_, _, _, _, e, _⟩ => by rw [e]; rfl) (fun cdv A outer s H vs Q E hr h => ?_)
    obtain ⟨ds, r, ⟨k, hd, h4, hs, rfl, rfl⟩, hm, q⟩ := h
    obtain ⟨v, rfl, h0⟩ := inv1 hm
    refine ⟨_, (pss_cons (ps_if (pt_val (pe_callB call_isi rfl T.isinstance_ (by decide +kernel) (pa_cons (pv 0) (pa_cons (pe_bltn (v := .ty "str") rfl T.str_ (by decide +kernel) rfl) pa_nil))))
 (pss_one (ps_ret (pe_lst (pa_cons (pe_tup (pa_cons (pe_tup pa_nil) (pa_cons (pv 0) (pa_cons (pe_tup pa_nil) pa_nil)))) pa_nil))))
 pss_nil)
 (pss_cons (ps_set (i := 1) sc__law_outs.nd rfl (Or.inl rfl) (pe_lst pa_nil))
 (pss_cons (ps_if (pt_cmpR op_eq (pe_ix ix_tup (pv 0) pe_int (fun _ _ => rfl)) pe_str (nomark _))
 (pss_cons (ps_for PassesOwn.never rfl (pi_list (pe_call G__law_outs hr rfl m__law_outs k__law_outs b__law_outs .nil pass0 (pa_cons (pe_ix ix_tup (pv 0) pe_int (fun _ _ => rfl)) pa_nil))) (pg_tup rfl (pgs_cons (pg_name (i := 2) sc__law_outs.nd rfl (Or.inl rfl)) (pgs_cons (pg_name (i := 3) sc__law_outs.nd rfl (Or.inl rfl)) (pgs_cons (pg_name (i := 4) sc__law_outs.nd rfl (Or.inl rfl)) pgs_nil))))
 (pss_one (ps_expr (pe_bm PySem.F.plainAttrs_list PySem.F.slot_list_append PySem.F.type_list_append mt_append (pv 1) (pa_cons (pe_tup (pa_cons (pe_op op_catA (pe_tup (pa_cons (pe_ix ix_tup (pv 0) pe_int (fun _ _ => rfl)) pa_nil)) (pv 2)) (pa_cons (pv 3) (pa_cons (pe_op op_catA (pe_tup (pa_cons pe_str pa_nil)) (pv 4)) pa_nil)))) pa_nil)))))
 (pss_one (ps_ret (pv 1))))
 pss_nil)
 (pss_cons (ps_for PassesOwn.never rfl (pi_list (pe_lst (pa_cons (pe_tup (pa_cons pe_int (pa_cons pe_str pa_nil))) (pa_cons (pe_tup (pa_cons pe_int (pa_cons pe_str pa_nil))) pa_nil)))) (pg_tup rfl (pgs_cons (pg_name (i := 5) sc__law_outs.nd rfl (Or.inl rfl)) (pgs_cons (pg_name (i := 6) sc__law_outs.nd rfl (Or.inl rfl)) pgs_nil)))
 (pss_one (ps_for PassesOwn.never rfl (pi_list (pe_call G__law_outs hr rfl m__law_outs k__law_outs b__law_outs .nil pass0 (pa_cons (pe_ix ix_tup (pv 0) (pv 5) (fun _ _ => rfl)) pa_nil))) (pg_tup rfl (pgs_cons (pg_name (i := 2) sc__law_outs.nd rfl (Or.inl rfl)) (pgs_cons (pg_name (i := 3) sc__law_outs.nd rfl (Or.inl rfl)) (pgs_cons (pg_name (i := 4) sc__law_outs.nd rfl (Or.inl rfl)) pgs_nil))))
 (pss_one (ps_expr (pe_bm PySem.F.plainAttrs_list PySem.F.slot_list_append PySem.F.type_list_append mt_append (pv 1) (pa_cons (pe_tup (pa_cons (pv 2) (pa_cons (pv 3) (pa_cons (pe_op op_catA (pe_tup (pa_cons (pv 6) pa_nil)) (pv 4)) pa_nil)))) pa_nil)))))))
 (pss_one (ps_ret (pv 1))))))), ?_⟩
    refine Go.run (K := K) (B := H) ?_ (.refl H)
    rcases kd_settled hs with ⟨s, rfl⟩ | ⟨a, b, rfl, ha, hb⟩ | ⟨a, b, rfl, ha, hb⟩
    · refine go_ifs (b := true) (et_B (ev_isi (ev_var rfl h0) k_ss)) (fun _ => ?_) (fun z => nomatch z)
      exact go_retL (el_lst (ea_cons (ev_tup (ea_cons (ev_tup ea_nil (by simp)) (ea_cons (ev_var rfl h0) (ea_cons (ev_tup ea_nil (by simp)) ea_nil))) (by simp)) ea_nil) (by simp)) fun p vs H1 hp u h1 m1 => q p vs H1 hp u.1 h1 m1
    · simp only [Kd.depth] at hd h4
      have lb := outsF_len b
      have lb2 := Nat.pow_le_pow_right (n := 2) (by omega) (show b.depth ≤ 3 by omega)
      refine go_ifs (b := false) (et_B (ev_isi (ev_var rfl h0) k_ts)) (fun z => nomatch z) (fun _ => ?_)
      refine go_setL (el_lst ea_nil (by simp)) fun l vs0 H1 hl u1 hl1 m0 => ?_
      cases m0
      refine Go.run (K := K) (B := H1) (H := H1) ?_ (.refl H1)
      refine go_ifs (b := true) (et_word (i := 0) rfl (h0.keep u1.2) (by decide +kernel)) (fun _ H2 u2 => ?_) (fun z => nomatch z)
      have h2 := h0.keep (u1.2.trans u2.2)
      refine outs_loop (B := H) (H := H2) (u1.1.trans u2.1) hl (u2.1 _ _ hl1) .nil (el_call (ea_cons (ev_ix (ev_var (i := 0) rfl h2) ev_int rfl) ea_nil) ⟨b, by omega, by omega, hb, rfl, rfl⟩) (by simp; omega) (f := fun r => Row.d ⟨a :: r.wants, r.goal, "do" :: r.road⟩) (fun r hr x y z H' tk hx hy hz => ?_) fun a' b' c' acc' H' sm tk hl' m' => ?_
      · have hrr := outsF_road b r hr
        exact ev_tup (ea_cons (ev_cat (ev_tup (ea_cons (ev_ix (ev_var (i := 0) rfl (h2.keep tk)) ev_int rfl) ea_nil) (by simp)) (ev_var (i := 2) rfl hx) (by simp; omega)) (ea_cons (ev_var (i := 3) rfl hy) (ea_cons (ev_cat (ev_tup (ea_cons ev_str ea_nil) (by simp)) (ev_var (i := 4) rfl hz) (by simp; omega)) ea_nil))) (by simp)
      · refine ⟨_, rfl, q l acc' H' hl sm hl' ?_⟩
        rw [outsF, List.map_map]
        exact m'
    · simp only [Kd.depth] at hd h4
      have la := outsF_len a
      have la2 := Nat.pow_le_pow_right (n := 2) (by omega) (show a.depth ≤ 3 by omega)
      have lb := outsF_len b
      have lb2 := Nat.pow_le_pow_right (n := 2) (by omega) (show b.depth ≤ 3 by omega)
      refine go_ifs (b := false) (et_B (ev_isi (ev_var rfl h0) k_ts)) (fun z => nomatch z) (fun _ => ?_)
      refine go_setL (el_lst ea_nil (by simp)) fun l vs0 H1 hl u1 hl1 m0 => ?_
      cases m0
      refine Go.run (K := K) (B := H1) (H := H1) ?_ (.refl H1)
      refine go_ifs (b := false) (et_word (i := 0) rfl (h0.keep u1.2) (by decide +kernel)) (fun z => nomatch z) (fun _ => ?_)
      refine go_seq (go_forM (ds := [.tuple [.int 1, .str "first"], .tuple [.int 2, .str "second"]]) (el_lst (ea_cons (ev_tup (ea_cons ev_int (ea_cons ev_str ea_nil)) (by simp)) (ea_cons (ev_tup (ea_cons ev_int (ea_cons ev_str ea_nil)) (by simp)) ea_nil)) (by simp)) fun p ws H2 hp u2 hp2 hm2 =>
        ⟨fun i σ' H' => ∃ a' b' c' k' w' acc', σ' = [some v, some (.ref l), a', b', c', k', w'] ∧ Same H H' ∧ TK K H2 H' ∧ H' p = some (.lst ws) ∧ H' l = some (.lst acc') ∧ ImAll K H' acc' (accP a b i),
          ⟨_, _, _, _, _, [], rfl, u1.1.trans u2.1, .refl _, hp2, u2.1 _ _ hl1, .nil⟩, fun i σ' H' ⟨_, _, _, _, _, _, _, _, h1, h2, _⟩ => ⟨h2, h1⟩, fun i d x σ' H' hd' ⟨a', b', c', k', w', acc', es, sm, tk, hp', hl', ma'⟩ hx => ?_, fun σ' H' ⟨a', b', c', k', w', acc', es, sm, tk, hp', hl', ma'⟩ => ?_⟩)
      · subst es
        have hlp : p ≠ l := by intro z; subst z; rw [hp] at hl1; cases hl1
        have h2 := h0.keep (u1.2.trans (u2.2.trans tk))
        match i, hd', ma' with
        | 0, hd', ma' =>
          cases hd'
          exact outs_part 1 "first" a [] _ (by omega) (by omega) ha (by simp) h2 rfl hx hl' ma' fun k'' w'' a' b' c' acc'' H'' s'' k'' hl'' m'' => ⟨_, _, _, _, _, _, rfl, (wo_sub sm hl).trans s'', tk.trans k'', s'' _ _ (by rw [wo_ne hlp]; exact hp'), hl'', m''⟩
        | 1, hd', ma' =>
          cases hd'
          refine outs_part 2 "second" b (accP a b 1) _ (by omega) (by omega) hb (by show ((outsF a).map _).length ≤ 8; rw [List.length_map]; omega) h2 rfl hx hl' ma' fun k'' w'' a' b' c' acc'' H'' s'' k'' hl'' m'' => ⟨_, _, _, _, _, _, rfl, (wo_sub sm hl).trans s'', tk.trans k'', s'' _ _ (by rw [wo_ne hlp]; exact hp'), hl'', ?_⟩
          have e : accP a b (1 + 1) = accP a b 1 ++ (outsF b).map fun r => Row.d ⟨r.wants, r.goal, "second" :: r.road⟩ := by
            show (outsF (.pair a b)).map Row.d = _
            rw [outsF, List.map_append, List.map_map, List.map_map]
            rfl
          rw [e]
          exact m''
      · subst es
        exact ⟨_, rfl, q l acc' H' hl sm hl' ma'⟩
end Fw
set_option Elab.async false
set_option linter.all false
set_option maxRecDepth 100000
set_option maxHeartbeats 1000000
namespace Fw
open PySem L2 Fd
section
variable {K : PySem.W.Frag} {B H H1 H2 : Hp} {σ : St} {ta tb te : TE} {v : V} {d : PyData}
/-- lists put together -/
theorem el_cat {l : Addr} {xs : List V} {ds es : List PyData} (ha : EvX K B ta σ H (.ref l)) (hl : B l = some (.lst xs)) (hm : ImAll K H xs ds) (hb : EvL K B tb σ H es) (hlen : ds.length + es.length ≤ 100000) : EvL K B (tOp rCat ta tb) σ H (ds ++ es) := fun H1 u Q q =>
  ha H1 u _ fun H2 s2 => hb H2 (u.then s2) _ fun p ws H3 hp s3 h3 m3 => by
    have u3 := (u.then s2).then s3
    refine ⟨l, p, xs, ws, rfl, rfl, u3.1 _ _ hl, h3, by rw [hm.length, m3.length]; exact sz_of hlen, fun a ha => q a _ _ ?_ ?_ upd_same (((hm.keep u3.2).append m3).keep (.of (same_new ha _)))⟩
    · exact (s2.trans s3).free ha
    · exact (s2.trans s3).trans (same_new ha _)
/-- over a range -/
theorem el_lcR {j n : Nat} {rs : List PyData} (hi : Ev K B ta σ H (.int (n : Int))) (hn : n < 100000) (hrl : rs.length = n)
    (he : ∀ (i : Nat) r H1, rs[i]? = some r → Up K B H H1 → Ev K B te ((σ.set j none).set j (some (.int (0 + i)))) H1 r) : EvL K B (tLc (iRng1 (tCons ta tNil)) (gName j) tYes te [j]) σ H rs := fun H1 u Q q => hi H1 u _ fun v H2 s2 m => by
  have u2 := u.then s2
  refine ⟨n, by rw [m.int_inv], by omega, by omega, fun E hE => ?_⟩
  rw [show ((n : Int)).toNat = n by omega]
  refine lcJ (K := K) (n := n) (ac := fun i => rs.take i) hE (List.take_zero) (fun i hi => by rw [List.length_take]; omega) (fun H' s => ⟨fun i hi => hi, Nat.le_refl _⟩) (fun i y H' H'' hi' s hy => ?_) fun H' acc s hacc ma => ?_
  · obtain ⟨e, rfl⟩ := hy
    have hr : i < rs.length := by rw [hrl]; exact hi'
    refine ⟨e, (σ.set j none).set j (some (.int (0 + i))), fun P p => p, by show ((σ.set j none).set j _).set j none = σ.set j none; simp [List.set_set], true, et_yes, fun _ => ⟨rs[i], ?_, ?_⟩, fun z => nomatch z⟩
    · rw [List.take_succ, List.getElem?_eq_getElem hr]; rfl
    · intro H3 u3 Q3 q3
      exact he i rs[i] H' (List.getElem?_eq_getElem hr) (u2.then s) H3 ⟨u2.1.trans u3.1, u3.2⟩ Q3 q3
  · rw [List.take_of_length_le (by rw [hrl]; exact Nat.le_refl _)] at ma
    exact q E acc H' (s2.free hE) (s2.trans s) hacc ma
end
variable {P : Program} {w : World} {K : PySem.W.Frag} {mg : Str → Option Value} {base : Heap}
theorem ixK {X : Cx} {K : PySem.W.Frag} (e : X.K = K) : IxR X (rIxT K) := e ▸ ix_tup
theorem inK {X : Cx} {K : PySem.W.Frag} (e : X.K = K) : OpR X (compareOp .In) (rIn K false) := e ▸ op_in_seq
theorem ninK {X : Cx} {K : PySem.W.Frag} (e : X.K = K) : OpR X (compareOp .NotIn) (rIn K true) := e ▸ op_notIn_seq
/-! ### heads -/
def spotsF (Γ : List Kd) : List (Dd × Kd) := (List.range Γ.length).map fun i => (.spot i, Γ.getD i (.nm ""))
def headsF (bk : Bk) (Γ : List Kd) : List (Dd × Kd) := bk.map (fun r => (.book r.1, r.2)) ++ spotsF Γ
def headD (h : Dd × Kd) : PyData := .tuple [dd h.1, kd h.2]
abbrev s__law_heads : Stmt := top 52
abbrev nm__law_heads : List Str := ["_law_book_here", "_law_given", "_law_found", "_law_name", "_law_kind_here", "_law_n"]
theorem sc__law_heads : FnScope nm__law_heads ["_law_book_here", "_law_given"] (defScope s__law_heads) := ⟨rfl, rfl, rfl, by decide +kernel, rfl, by decide +kernel, by decide +kernel⟩
def rHeads : List PyData → List PyData → Prop := fun ds r => ∃ (bk : Bk) (Γ : List Kd), bk.length ≤ 3 ∧ Γ.length < 1000 ∧ ds = [bkD bk, .tuple (Γ.map kd)] ∧ r = (headsF bk Γ).map headD
theorem heads_ok (T : Tx K mg) (D : Dfn K mg "_law_heads" s__law_heads ["_law_book_here", "_law_given"]) : Cal P w K mg base 1 "_law_heads" ["_law_book_here", "_law_given"] (spL K rHeads) := by
  obtain ⟨f, fd, F, m_, b_⟩ := D
  refine ⟨f, fd, F.ok sc__law_heads (spL_len fun ds d ⟨_, _, _, _, e, _⟩ => by rw [e]; rfl) (fun cdv A outer s H vs Q E hr h => ?_), m_, F.kp, b_⟩
  obtain ⟨ds, r, ⟨bk, Γ, hb3, hΓ, rfl, rfl⟩, hm, q⟩ := h
  obtain ⟨v, vg, rfl, h0, h1⟩ := inv2 hm
  refine ⟨_, (pss_cons (ps_setLc (i := 2) (own := [("_law_name", 3), ("_law_kind_here", 4)]) (g := gTup K 2 (gCons (gName 3) (gCons (gName 4) gNil))) (tt := tYes) rfl sc__law_heads.nd rfl rfl (sw_true rfl rfl rfl (by decide +kernel)) (pi_tup (pv 0)) (blkOk_by (own := [("_law_name", 3), ("_law_kind_here", 4)]) (N := nm__law_heads) (sc := defScope s__law_heads) (by decide +kernel)) (fun _ _ _ _ _ => (pg_tup rfl (pgs_cons (pg_name (i := 3) sc__law_heads.nd rfl (Or.inl rfl)) (pgs_cons (pg_name (i := 4) sc__law_heads.nd rfl (Or.inl rfl)) pgs_nil)))) (fun _ _ _ _ _ => pts_nil) (fun _ _ _ _ _ => (pe_tup (pa_cons (pe_tup (pa_cons pe_str (pa_cons (pv 3) pa_nil))) (pa_cons (pv 4) pa_nil)))))
 (pss_one (ps_ret (pe_op op_cat (pv 2) (pe_lc (own := [("_law_n", 5)]) (g := gName 5) (tt := tYes) rfl sc__law_heads.nd (pi_range1 rfl T.range_ (pa_cons (pe_callB call_len_seq rfl T.len_ (by decide +kernel) (pa_cons (pv 1) pa_nil)) pa_nil)) (blkOk_by (own := [("_law_n", 5)]) (N := nm__law_heads) (sc := defScope s__law_heads) (by decide +kernel)) (fun _ _ _ _ _ => (pg_name (i := 5) sc__law_heads.nd rfl (Or.inl rfl))) (fun _ _ _ _ _ => pts_nil) (fun _ _ _ _ _ => (pe_tup (pa_cons (pe_tup (pa_cons pe_str (pa_cons (pv 5) pa_nil))) (pa_cons (pe_ix (ixK (K := K) rfl) (pv 1) (pv 5) (fun _ _ => rfl)) pa_nil))))))))), ?_⟩
  refine Go.run (K := K) (B := H) ?_ (.refl H)
  refine go_setL (el_lcP (ds := bk.map rowD) (rs := bk.map fun r => headD (.book r.1, r.2)) (by decide) (ev_var rfl h0) (by simp; omega) (by simp) fun i d r H1 hd hr u => ?_) fun l ws H1 hl u1 hl1 m1 => ?_
  · rw [List.getElem?_map] at hd hr
    cases e : bk[i]? with
    | none => rw [e] at hd; cases hd
    | some r' =>
      rw [e] at hd hr
      cases hd
      cases hr
      exact ⟨.str r'.1, kd r'.2, rfl, fun x y hx hy => ev_tup (ea_cons (ev_tup (ea_cons ev_str (ea_cons (ev_var rfl hx) ea_nil)) (by simp)) (ea_cons (ev_var rfl hy) ea_nil)) (by simp)⟩
  · refine Go.run (K := K) (B := H1) (H := H1) ?_ (.refl H1)
    refine go_retL (el_cat (ex_var rfl) hl1 m1 (el_lcR (n := Γ.length) (rs := (spotsF Γ).map headD) ((ev_lenT (ev_var rfl (h1.keep u1.2))).is (by rw [List.length_map])) (by omega) (by simp [spotsF]) fun i r H2 hr u2 => ?_) (by simp [spotsF]; omega)) fun p vs H2 hp u2 h2 m2 => q p vs H2 (u1.1.free hp) (u1.1.trans u2.1) h2 (by rw [headsF, List.map_append, List.map_map]; exact m2)
    rw [spotsF, List.getElem?_map, List.getElem?_map] at hr
    cases e : (List.range Γ.length)[i]? with
    | none => rw [e] at hr; cases hr
    | some i' =>
      rw [e] at hr
      cases hr
      have hlt := (List.getElem?_eq_some_iff.mp e).1
      rw [List.length_range] at hlt
      rw [List.getElem?_range hlt] at e
      cases e
      exact ev_tup (ea_cons (ev_tup (ea_cons ev_str (ea_cons ((ev_var rfl (.int _)).is (by rw [Int.zero_add])) ea_nil)) (by simp)) (ea_cons (ev_ix (ev_var rfl (h1.keep (u1.2.trans u2.2))) ((ev_var rfl (.int _)).is (by rw [Int.zero_add])) (atI_nat (by rw [List.getElem?_map]; show _ = some (kd (Γ.getD i (.nm ""))); rw [List.getD_eq_getElem?_getD, List.getElem?_eq_getElem hlt]; rfl))) ea_nil)) (by simp)
/-! ### a head and what is done about it -/
def goneF : Dd → List Str → List Dd → Dd
  | h, [], _ => h
  | h, w :: r, ps => if w = "do" then (match ps with | [] => h | p :: q => goneF (.dod h p) r q) else goneF (if w = "first" then .first h else .second h) r ps
theorem goneF_ne {h : Dd} {w : Str} {r : List Str} {ps : List Dd} (e : ¬ w = "do") : goneF h (w :: r) ps = goneF (if w = "first" then .first h else .second h) r ps := by
  cases ps <;> rw [goneF.eq_def] <;> exact if_neg e
def RoadOk (road : List Str) (n : Nat) : Prop := (∀ w ∈ road, w = "do" ∨ w = "first" ∨ w = "second") ∧ road.count ("do" : Str) = n
abbrev s__law_gone : Stmt := top 53
abbrev nm__law_gone : List Str := ["_law_head", "_law_road", "_law_parts", "_law_found", "_law_at", "_law_word"]
theorem sc__law_gone : FnScope nm__law_gone ["_law_head", "_law_road", "_law_parts"] (defScope s__law_gone) := ⟨rfl, rfl, rfl, by decide +kernel, rfl, by decide +kernel, by decide +kernel⟩
def spGone (K : PySem.W.Frag) : Sp := fun vs H Q _ => ∃ (h : Dd) (road : List Str) (ps : List Dd) (vh vr : V) (p : Addr) (ws : List V), vs = [vh, vr, .ref p] ∧ Im K H vh (dd h) ∧ Im K H vr (.tuple (road.map .str)) ∧ SqL K H p ws ∧ ImAll K H ws (ps.map dd) ∧ RoadOk road ps.length ∧
  ∀ v' H', Same H H' → Im K H' v' (dd (goneF h road ps)) → Q v' H'
theorem gone_ok (T : Tx K mg) (D : Dfn K mg "_law_gone" s__law_gone ["_law_head", "_law_road", "_law_parts"]) : Cal P w K mg base 1 "_law_gone" ["_law_head", "_law_road", "_law_parts"] (spGone K) := by
  obtain ⟨f, fd, F, m_, b_⟩ := D
  refine ⟨f, fd, F.ok sc__law_gone (fun vs H Q E ⟨_, _, _, _, _, _, _, e, _⟩ => by rw [e]; rfl) (fun cdv A outer s H vs Q E hr h => ?_), m_, F.kp, b_⟩
  obtain ⟨h, road, ps, vh, vr, p, ws, rfl, h0, h1, hp, hps, hok, q⟩ := h
  refine ⟨_, (pss_cons (ps_set (i := 3) sc__law_gone.nd rfl (Or.inl rfl) (pv 0))
 (pss_cons (ps_set (i := 4) sc__law_gone.nd rfl (Or.inl rfl) pe_int)
 (pss_cons (ps_for PassesOwn.never rfl (pi_tup (pv 1)) (pg_name (i := 5) sc__law_gone.nd rfl (Or.inl rfl))
 (pss_one (ps_if (pt_cmpR op_eq (pv 5) pe_str (nomark _))
 (pss_cons (ps_set (i := 3) sc__law_gone.nd rfl (Or.inl rfl) (pe_tup (pa_cons pe_str (pa_cons (pv 3) (pa_cons (pe_ix ix_list (pv 2) (pv 4) (fun _ _ => rfl)) pa_nil)))))
 (pss_one (ps_set (i := 4) sc__law_gone.nd rfl (Or.inl rfl) (pe_op op_add (pv 4) pe_int))))
 (pss_one (ps_set (i := 3) sc__law_gone.nd rfl (Or.inl rfl) (pe_tup (pa_cons (pv 5) (pa_cons (pv 3) pa_nil))))))))
 (pss_one (ps_ret (pv 3)))))), ?_⟩
  refine Go.run (K := K) (B := H) ?_ (.refl H)
  refine fun H1 u1 => (ev_var (i := 0) rfl h0 : Ev K H (tVar 0) [some vh, some vr, some (.ref p), none, none, none] H _) H1 u1 _ fun v2 H2 s2 h2 => ?_
  refine Go.run (K := K) (B := H) (H := H2) ?_ (u1.1.trans s2)
  refine go_set ev_int fun v3 H3 u3 h3 => ?_
  have e3 := h3.int_inv
  subst e3
  have k3 : TK K H H3 := u1.2.trans ((TK.of s2).trans u3.2)
  refine go_seq (go_forT (ev_var (i := 1) rfl (h1.keep k3)) fun H4 u4 => ⟨fun i σ' H' => ∃ (vf : V) (h' : Dd) (m : Nat) (c : Option V), σ' = [some vh, some vr, some (.ref p), some vf, some (.int m), c] ∧ Same H H' ∧ TK K H4 H' ∧ Im K H' vf (dd h') ∧ goneF h' (road.drop i) (ps.drop m) = goneF h road ps ∧ (road.drop i).count ("do" : Str) + m = ps.length,
    ⟨v2, h, 0, _, rfl, u4.1, .refl _, h2.keep (u3.2.trans u4.2), rfl, hok.2⟩, fun i σ' H' ⟨_, _, _, _, _, _, tk, _⟩ => tk, fun i d x σ' H' hd ⟨vf, h', m, c, es, sm, tk, hf, hg, hc⟩ hx => ?_, fun σ' H' ⟨vf, h', m, c, es, sm, tk, hf, hg, hc⟩ => ?_⟩)
  · subst es
    rw [List.getElem?_map] at hd
    cases e : road[i]? with
    | none => rw [e] at hd; cases hd
    | some wd =>
      rw [e] at hd
      cases hd
      have ex := hx.str_inv
      subst ex
      have hir := (List.getElem?_eq_some_iff.mp e).1
      have hdr : road.drop i = wd :: road.drop (i + 1) := by
        rw [List.drop_eq_getElem_cons hir]
        rw [List.getElem?_eq_getElem hir] at e
        cases e
        rfl
      rw [hdr] at hg hc
      have hwd := hok.1 wd (List.mem_of_getElem? e)
      refine (go_if (K := K) (B := H) (H := H') (b := decide (wd = "do")) (et_test (ev_eqS (ev_var (i := 5) rfl (.str _)) ev_str)) (fun z => ?_) (fun z => ?_)) H' ⟨sm, .refl _⟩
      · have ew := of_decide_eq_true z
        subst ew
        rw [List.count_cons_self] at hc
        have hm : m < ps.length := by omega
        rw [List.drop_eq_getElem_cons hm, goneF, if_pos rfl] at hg
        refine go_set (ev_tup (ea_cons ev_str (ea_cons (ev_var (i := 3) rfl hf) (ea_cons (ev_ixL (ex_var (i := 2) rfl) hp ((hps.keep (.of sm))) (ev_var (i := 4) rfl (.int _)) (atI_nat (by rw [List.getElem?_map, List.getElem?_eq_getElem hm]; rfl))) ea_nil))) (by simp)) fun v5 H5 u5 h5 => ?_
        refine go_set1 (ev_add (ev_var (i := 4) rfl (.int _)) ev_int) fun v6 H6 u6 h6 => ?_
        have e6 := h6.int_inv
        subst e6
        exact ⟨v5, .dod h' ps[m], m + 1, _, rfl, u6.1, tk.trans (u5.2.trans u6.2), h5.keep u6.2, hg, by omega⟩
      · have ew := of_decide_eq_false z
        rw [List.count_cons_of_ne (fun q => ew (by simpa using q))] at hc
        rw [goneF_ne ew] at hg
        refine go_set1 (ev_tup (ea_cons (ev_var (i := 5) rfl (.str _)) (ea_cons (ev_var (i := 3) rfl hf) ea_nil)) (by simp)) fun v5 H5 u5 h5 => ?_
        refine ⟨v5, if wd = "first" then .first h' else .second h', m, _, rfl, u5.1, tk.trans u5.2, ?_, hg, hc⟩
        rcases hwd with rfl | rfl | rfl
        · exact absurd rfl ew
        · rw [if_pos rfl]; exact h5
        · rw [if_neg (by decide +kernel)]; exact h5
  · subst es
    rw [List.length_map, List.drop_length] at hg
    have : dd h' = dd (goneF h road ps) := by rw [← hg]; rfl
    exact ⟨_, rfl, q vf H' sm (this ▸ hf)⟩
end Fw
set_option Elab.async false
set_option linter.all false
set_option maxRecDepth 100000
set_option maxHeartbeats 1000000
namespace Fw
open PySem L2 Fd
/-! ### what the fit is worth -/
inductive PAll (R : Dd → Kd → Prop) : List Dd → List Kd → Prop
  | nil : PAll R [] []
  | cons {p a ps as} : R p a → PAll R ps as → PAll R (p :: ps) (a :: as)
theorem PAll.len {R : Dd → Kd → Prop} {ps : List Dd} {as : List Kd} (h : PAll R ps as) : ps.length = as.length := by
  induction h with
  | nil => rfl
  | cons _ _ ih => simp [ih]
theorem PAll.of {R : Dd → Kd → Prop} : ∀ {ps : List Dd} {as : List Kd}, ps.length = as.length → (∀ (j : Nat) p, ps[j]? = some p → ∃ a, as[j]? = some a ∧ R p a) → PAll R ps as
  | [], [], _, _ => .nil
  | [], _ :: _, e, _ => by cases e
  | _ :: _, [], e, _ => by cases e
  | p :: ps, a :: as, e, h => .cons (by obtain ⟨b, hb, r⟩ := h 0 p rfl; cases hb; exact r) (PAll.of (by simpa using e) fun j q hq => h (j + 1) q hq)
theorem PAll.imp {R S : Dd → Kd → Prop} {ps : List Dd} {as : List Kd} (h : PAll R ps as) (f : ∀ p a, a ∈ as → R p a → S p a) : PAll S ps as := by
  induction h with
  | nil => exact .nil
  | cons r _ ih => exact .cons (f _ _ List.mem_cons_self r) (ih fun p a ha => f p a (List.mem_cons_of_mem _ ha))
theorem PAll.all {R : Dd → Kd → Prop} {ps : List Dd} {as : List Kd} (h : PAll R ps as) : ∀ p ∈ ps, ∃ a ∈ as, R p a := by
  induction h with
  | nil => intro p hp; cases hp
  | cons r _ ih =>
    intro p hp
    rcases List.mem_cons.mp hp with rfl | hp
    · exact ⟨_, List.mem_cons_self, r⟩
    · obtain ⟨a, ha, q⟩ := ih p hp
      exact ⟨a, List.mem_cons_of_mem _ ha, q⟩
theorem s_do : ("first" : Str) ≠ "do" := by decide +kernel
theorem s_do2 : ("second" : Str) ≠ "do" := by decide +kernel
theorem s_fs : ("second" : Str) ≠ "first" := by decide +kernel
variable {bk : Bk}
theorem outsF_ok (k : Kd) : ∀ r ∈ outsF k, RoadOk r.road r.wants.length ∧ (∀ a ∈ r.wants, a.depth ≤ k.depth ∧ (k.settled → a.settled)) := by
  induction k with
  | nm s => intro r hr; simp [outsF] at hr; subst hr; exact ⟨⟨(fun w hw => by cases hw), rfl⟩, (fun a ha => by cases ha)⟩
  | num n => intro r hr; simp [outsF] at hr
  | way a b _ ih =>
    intro r hr
    simp only [outsF, List.mem_map] at hr
    obtain ⟨r', h, rfl⟩ := hr
    obtain ⟨⟨h1, h2⟩, h3⟩ := ih r' h
    refine ⟨⟨fun w hw => ?_, ?_⟩, fun c hc => ?_⟩
    · rcases List.mem_cons.mp hw with rfl | hw
      · exact .inl rfl
      · exact h1 w hw
    · show List.count ("do" : Str) (("do" : Str) :: r'.road) = _
      rw [List.count_cons_self, h2]; rfl
    · simp only [Kd.depth]
      rcases List.mem_cons.mp hc with rfl | hc
      · exact ⟨by omega, fun z => z.1⟩
      · obtain ⟨h4, h5⟩ := h3 c hc
        exact ⟨by omega, fun z => h5 z.2⟩
  | pair a b i1 i2 =>
    intro r hr
    simp only [outsF, List.mem_append, List.mem_map] at hr
    rcases hr with ⟨r', h, rfl⟩ | ⟨r', h, rfl⟩
    · obtain ⟨⟨h1, h2⟩, h3⟩ := i1 r' h
      refine ⟨⟨fun w hw => ?_, ?_⟩, fun c hc => ?_⟩
      · rcases List.mem_cons.mp hw with rfl | hw
        · exact .inr (.inl rfl)
        · exact h1 w hw
      · show List.count ("do" : Str) (("first" : Str) :: r'.road) = _
        rw [List.count_cons_of_ne s_do, h2]
      · obtain ⟨h4, h5⟩ := h3 c hc
        simp only [Kd.depth]
        exact ⟨by omega, fun z => h5 z.1⟩
    · obtain ⟨⟨h1, h2⟩, h3⟩ := i2 r' h
      refine ⟨⟨fun w hw => ?_, ?_⟩, fun c hc => ?_⟩
      · rcases List.mem_cons.mp hw with rfl | hw
        · exact .inr (.inr rfl)
        · exact h1 w hw
      · show List.count ("do" : Str) (("second" : Str) :: r'.road) = _
        rw [List.count_cons_of_ne s_do2, h2]
      · obtain ⟨h4, h5⟩ := h3 c hc
        simp only [Kd.depth]
        exact ⟨by omega, fun z => h5 z.2⟩
theorem gone_pl {Γ : List Kd} (k : Kd) : ∀ h, Pl bk false Γ h k → ∀ r ∈ outsF k, ∀ ps, PAll (fun p a => Pl bk true Γ p a) ps r.wants → Pl bk false Γ (goneF h r.road ps) (.nm r.goal) := by
  induction k with
  | nm s => intro h hp r hr ps hps; simp [outsF] at hr; subst hr; exact hp
  | num n => intro h hp r hr; simp [outsF] at hr
  | way a b _ ih =>
    intro h hp r hr ps hps
    simp only [outsF, List.mem_map] at hr
    obtain ⟨r', hr', rfl⟩ := hr
    cases hps with
    | cons h1 h2 =>
      show Pl bk false Γ (goneF h (("do" : Str) :: r'.road) _) _
      rw [goneF, if_pos rfl]
      exact ih _ (.dod hp h1) r' hr' _ h2
  | pair a b i1 i2 =>
    intro h hp r hr ps hps
    simp only [outsF, List.mem_append, List.mem_map] at hr
    rcases hr with ⟨r', hr', rfl⟩ | ⟨r', hr', rfl⟩
    · show Pl bk false Γ (goneF h (("first" : Str) :: r'.road) _) _
      rw [goneF_ne s_do, if_pos rfl]
      exact i1 _ (.first hp) r' hr' _ hps
    · show Pl bk false Γ (goneF h (("second" : Str) :: r'.road) _) _
      rw [goneF_ne s_do2, if_neg s_fs]
      exact i2 _ (.second hp) r' hr' _ hps
/-- a measure of heads and parts -/
theorem gone_le {μ ν : Dd → Nat} (h1 : ∀ f e, μ (.dod f e) ≤ 1 + max (μ f) (ν e)) (h2 : ∀ f, μ (.first f) ≤ 1 + μ f) (h3 : ∀ f, μ (.second f) ≤ 1 + μ f) : ∀ (road : List Str) (h : Dd) (ps : List Dd) (c : Nat), μ h ≤ c → (∀ p ∈ ps, ν p ≤ c) → μ (goneF h road ps) ≤ road.length + c := by
  intro road
  induction road with
  | nil => intro h ps c hc _; cases ps <;> simpa [goneF] using hc
  | cons w r ih =>
    intro h ps c hc hps
    by_cases e : w = "do"
    · subst e
      cases ps with
      | nil => rw [goneF.eq_def]; simp; omega
      | cons p q =>
        rw [goneF, if_pos rfl]
        have := ih (.dod h p) q (c + 1) (by have := h1 h p; have := hps p List.mem_cons_self; omega) (fun x hx => by have := hps x (List.mem_cons_of_mem _ hx); omega)
        rw [List.length_cons]; omega
    · rw [goneF_ne e, List.length_cons]
      have := ih (if w = "first" then .first h else .second h) ps (c + 1) (by split; have := h2 h; omega; have := h3 h; omega) (fun x hx => by have := hps x hx; omega)
      omega
theorem gone_names {p : Str → Prop} : ∀ (road : List Str) (h : Dd) (ps : List Dd), namesD p h → (∀ q ∈ ps, namesD p q) → namesD p (goneF h road ps) := by
  intro road
  induction road with
  | nil => intro h ps hh _; cases ps <;> simpa [goneF] using hh
  | cons w r ih =>
    intro h ps hh hps
    by_cases e : w = "do"
    · subst e
      cases ps with
      | nil => rw [goneF.eq_def]; simpa using hh
      | cons x q =>
        rw [goneF, if_pos rfl]
        exact ih _ _ ⟨hh, hps x List.mem_cons_self⟩ fun y hy => hps y (List.mem_cons_of_mem _ hy)
    · rw [goneF_ne e]
      exact ih _ _ (by split; exact hh; exact hh) hps
theorem lookup_nodup {s : Str} {k : Kd} : ∀ {bk : Bk}, (bk.map Prod.fst).Nodup → (s, k) ∈ bk → bk.lookup s = some k
  | [], _, h => nomatch h
  | (x, k') :: r, hn, h => by
    rw [List.map_cons, List.nodup_cons] at hn
    rw [List.lookup_cons]
    rcases List.mem_cons.mp h with e | h'
    · cases e; simp
    · have hne : (s == x) = false := by
        simp only [beq_eq_false_iff_ne]
        intro e
        subst e
        exact hn.1 (List.mem_map.mpr ⟨_, h', rfl⟩)
      rw [hne]
      exact lookup_nodup hn.2 h'
/-- fine givens -/
def GOk (Γ : List Kd) : Prop := ∀ k ∈ Γ, Kd.depth k ≤ 2 ∧ Kd.settled k
theorem heads_in {Γ : List Kd} (hb : BkOk bk 2) (hΓ : GOk Γ) {h : Dd} {k : Kd} (m : (h, k) ∈ headsF bk Γ) : Pl bk false Γ h k ∧ namesD PN h ∧ cw 3 false h = 1 ∧ dw 3 false h = 1 ∧ h.depth = 1 ∧ k.depth ≤ 2 ∧ k.settled := by
  unfold headsF at m
  rcases List.mem_append.mp m with m | m
  · obtain ⟨r, hr, e⟩ := List.mem_map.mp m
    cases e
    obtain ⟨h1, h2, h3, h4⟩ := hb.each r hr
    exact ⟨.book (lookup_nodup hb.nodup (by simpa using hr)), h1, rfl, rfl, rfl, h3, h2⟩
  · unfold spotsF at m
    obtain ⟨i, hi, e⟩ := List.mem_map.mp m
    rw [List.mem_range] at hi
    cases e
    have e : Γ[i]? = some (Γ.getD i (.nm "")) := by rw [List.getD_eq_getElem?_getD, List.getElem?_eq_getElem hi]; rfl
    have := hΓ _ (List.mem_of_getElem? e)
    exact ⟨.spot e, trivial, rfl, rfl, rfl, this.1, this.2⟩
structure FitOk (bk : Bk) (Γ : List Kd) (k : Kd) (e : Nat) (d : Dd) : Prop where
  pl : Pl bk true Γ d k
  names : namesD PN d
  cw : Fd.cw 3 true d ≤ 17 + 11 * e + k.depth
  dw : Fd.dw 3 true d ≤ 13 + 10 * e + k.depth
  depth : d.depth ≤ 3 + 4 * e + k.depth
theorem Cf3 (c : Nat) : Cf 3 c = 7 + max c 10 := by simp only [Cf]; omega
theorem Df3 (c : Nat) : Df 3 c = 6 + max c 7 := by simp only [Df]; omega
theorem fit_name {Γ : List Kd} (hb : BkOk bk 2) (hΓ : GOk Γ) {h : Dd} {k : Kd} (m : (h, k) ∈ headsF bk Γ) {r : Row} (hr : r ∈ outsF k) {e : Nat} {ps : List Dd} (hps : PAll (fun p a => FitOk bk Γ a (e - 1) p) ps r.wants) (h0 : e = 0 → ps = []) : FitOk bk Γ (.nm r.goal) e (goneF h r.road ps) := by
  obtain ⟨h1, h2, h3, h4, h5, h6, h7⟩ := heads_in hb hΓ m
  have pl := gone_pl k h h1 r hr ps (hps.imp fun p a _ z => z.pl)
  have hrl := (outsF_road k r hr).1
  have hw := (outsF_ok k r hr).2
  have neu := pl.neu rfl
  have each : ∀ p ∈ ps, ∃ a, Kd.depth a ≤ 2 ∧ FitOk bk Γ a (e - 1) p ∧ 1 ≤ e := fun p hp => by
    obtain ⟨a, ha, z⟩ := hps.all p hp
    have := (hw a ha).1
    refine ⟨a, by omega, z, ?_⟩
    by_cases q : e = 0
    · rw [h0 q] at hp; cases hp
    · omega
  have c1 := gone_le (μ := cw 3 false) (ν := cw 3 true) (fun f e => Nat.le_refl _) (fun f => Nat.le_refl _) (fun f => Nat.le_refl _) r.road h ps (if e = 0 then 1 else 8 + 11 * e) (by split <;> omega) (fun p hp => by
    obtain ⟨a, h1, h2, h3⟩ := each p hp
    have := h2.cw
    rw [if_neg (by omega)]; omega)
  have c2 := gone_le (μ := dw 3 false) (ν := dw 3 true) (fun f e => Nat.le_refl _) (fun f => Nat.le_refl _) (fun f => Nat.le_refl _) r.road h ps (if e = 0 then 1 else 5 + 10 * e) (by split <;> omega) (fun p hp => by
    obtain ⟨a, h1, h2, h3⟩ := each p hp
    have := h2.dw
    rw [if_neg (by omega)]; omega)
  have c3 := gone_le (μ := Dd.depth) (ν := Dd.depth) (fun f e => by simp only [Dd.depth]; omega) (fun f => by simp only [Dd.depth]; omega) (fun f => by simp only [Dd.depth]; omega) r.road h ps (1 + 4 * e) (by omega) (fun p hp => by
    obtain ⟨a, h1, h2, h3⟩ := each p hp
    have := h2.depth
    omega)
  refine ⟨.head pl, gone_names _ _ _ h2 fun p hp => ?_, ?_, ?_, ?_⟩
  · obtain ⟨a, _, z, _⟩ := each p hp
    exact z.names
  · rw [cw_neu neu, Cf3]
    simp only [Kd.depth]
    split at c1 <;> omega
  · rw [dw_neu neu, Df3]
    simp only [Kd.depth]
    split at c2 <;> omega
  · simp only [Kd.depth]
    omega
theorem fit_way {Γ : List Kd} {a b : Kd} {e : Nat} {d : Dd} (h : FitOk bk (Γ ++ [a]) b e d) : FitOk bk Γ (.way a b) e (.turn d) :=
  ⟨.turn h.pl, h.names, by have := h.cw; simp only [Fd.cw, Kd.depth]; omega, by have := h.dw; simp only [Fd.dw, Kd.depth]; omega, by have := h.depth; simp only [Dd.depth, Kd.depth]; omega⟩
theorem fit_pair {Γ : List Kd} {a b : Kd} {e : Nat} {x y : Dd} (h : FitOk bk Γ a e x) (k : FitOk bk Γ b e y) : FitOk bk Γ (.pair a b) e (.both x y) :=
  ⟨.both h.pl k.pl, ⟨h.names, k.names⟩, by have := h.cw; have := k.cw; simp only [Fd.cw, Kd.depth]; omega, by have := h.dw; have := k.dw; simp only [Fd.dw, Kd.depth]; omega, by have := h.depth; have := k.depth; simp only [Dd.depth, Kd.depth]; omega⟩
end Fw
set_option Elab.async false
set_option linter.all false
set_option maxRecDepth 100000
set_option maxHeartbeats 1000000
namespace Fw
open PySem L2 Fd
section
variable {K : PySem.W.Frag} {B H H1 H2 : Hp} {σ : St} {ta tb te : TE} {v : V} {d : PyData} {D : Ends} {t2 : TS} {tr : TA}
/-- a new list of some kind -/
def EvLP (K : PySem.W.Frag) (B : Hp) (te : TE) (σ : St) (H : Hp) (Φ : List PyData → Prop) : Prop := ∀ H1, Up K B H H1 → ∀ Q : VK, (∀ p vs H2 ds, Φ ds → H1 p = none → Same H1 H2 → H2 p = some (.lst vs) → ImAll K H2 vs ds → Q (.ref p) H2) → te σ H1 Q
theorem go_setLP {i : Nat} {Φ : List PyData → Prop} (h : EvLP K B te σ H Φ) (q : ∀ p vs H1 ds, Φ ds → B p = none → Up K B H H1 → H1 p = some (.lst vs) → ImAll K H1 vs ds → t2 D (σ.set i (some (.ref p))) H1) : Go K B (tSeq (tAsg te (gName i)) t2) D σ H := fun H1 u => h H1 u _ fun p vs H2 ds hds hp s2 h2 m =>
  q p vs H2 ds hds (u.1.free hp) (u.then s2) h2 m
/-- from data to a new list of some kind -/
def spLP (K : PySem.W.Frag) (rel : List PyData → (List PyData → Prop) → Prop) : Sp := fun vs H Q _ => ∃ ds Φ, rel ds Φ ∧ ImAll K H vs ds ∧ ∀ p ws H' rs, Φ rs → H p = none → Same H H' → H' p = some (.lst ws) → ImAll K H' ws rs → Q (.ref p) H'
theorem elp_call {rel : List PyData → (List PyData → Prop) → Prop} {E : XK} {ds : List PyData} {Φ : List PyData → Prop} (h : EvA K B tr σ H ds) (hr : rel ds Φ) : EvLP K B (tCall (spLP K rel) [] E tr) σ H Φ := fun H1 u Q q =>
  h H1 u _ fun vs H2 s2 m => by
    show spLP K rel (vs ++ []) H2 Q E
    rw [List.append_nil]
    exact ⟨ds, Φ, hr, m, fun p ws H3 rs hrs hp s3 h3 m3 => q p ws H3 rs hrs (s2.free hp) (s2.trans s3) h3 m3⟩
theorem spLP_len {rel : List PyData → (List PyData → Prop) → Prop} {n : Nat} (h : ∀ ds d, rel ds d → ds.length = n) : ∀ vs H Q E, spLP K rel vs H Q E → vs.length = n := fun vs H Q E ⟨ds, d, r, m, _⟩ => by
  rw [m.length]; exact h ds d r
/-- a, b, c = e -/
theorem go_set3 {i j k : Nat} {a b c : PyData} (h : Ev K B te σ H (.tuple [a, b, c])) (q : ∀ x y z H1, Up K B H H1 → Im K H1 x a → Im K H1 y b → Im K H1 z c → Go K B t2 D (((σ.set i (some x)).set j (some y)).set k (some z)) H1) :
    Go K B (tSeq (tAsg te (gTup K 3 (gCons (gName i) (gCons (gName j) (gCons (gName k) gNil))))) t2) D σ H := fun H1 u => h H1 u _ fun v H2 s2 m =>
  g_3 m fun x y z hx hy hz => q x y z H2 (u.then s2) hx hy hz H2 ⟨(u.then s2).1, .refl _⟩
/-- None not in x -/
theorem ev_nin {i : Nat} {l : Addr} {acc : List V} {os : List (Option Dd)} (e : σ[i]? = some (some (.ref l))) (hl : B l = some (.lst acc)) (ma : ImAll K H acc (os.map od)) (hs : SeqAt.shaped (.list (os.map od)) = true) :
    Ev K B (tOp (rNotInD K) (tC .non) (tVar i)) σ H (.bool (!os.any Option.isNone)) := fun H1 u Q q => by
  refine ⟨.ref l, e, .none, os.map od, .non, .lst (SqL.of (u.1 _ _ hl)) (ma.keep u.2).dp, by decide +kernel, hs, ?_⟩
  have e : ((os.map od).any fun z => PyData.eqv z .none) = os.any Option.isNone := by
    rw [List.any_map]
    congr 1
    funext o
    cases o with
    | none => rfl
    | some d => cases d <;> rfl
  rw [e]
  exact q _ H1 (.refl _) (.bl _)
end
/-! ### data shallow enough to be compared -/
theorem pn_ok {s : Str} (h : PN s) : PyData.strOk s = true := by
  unfold PyData.strOk
  rw [← Array.all_toList, List.all_eq_true]
  intro c hc
  have := (h.2.2 c hc).2
  exact decide_eq_true (by omega)
theorem lay_dd {d : Dd} (h : namesD PN d) : (dd d).canLay0 = true := by
  have w1 : PyData.strOk "spot" = true := by decide +kernel
  have w2 : PyData.strOk "book" = true := by decide +kernel
  have w3 : PyData.strOk "turn" = true := by decide +kernel
  have w4 : PyData.strOk "do" = true := by decide +kernel
  have w5 : PyData.strOk "both" = true := by decide +kernel
  have w6 : PyData.strOk "first" = true := by decide +kernel
  have w7 : PyData.strOk "second" = true := by decide +kernel
  induction d with
  | spot n => simp only [dd, PyData.canLay0, PyData.canLayAll0, w1, Bool.and_self]
  | book s => simp only [dd, PyData.canLay0, PyData.canLayAll0, w2, pn_ok h, Bool.and_self]
  | turn d ih => simp only [dd, PyData.canLay0, PyData.canLayAll0, w3, ih h, Bool.and_self]
  | dod f e i1 i2 => simp only [dd, PyData.canLay0, PyData.canLayAll0, w4, i1 h.1, i2 h.2, Bool.and_self]
  | both f e i1 i2 => simp only [dd, PyData.canLay0, PyData.canLayAll0, w5, i1 h.1, i2 h.2, Bool.and_self]
  | first d ih => simp only [dd, PyData.canLay0, PyData.canLayAll0, w6, ih h, Bool.and_self]
  | second d ih => simp only [dd, PyData.canLay0, PyData.canLayAll0, w7, ih h, Bool.and_self]
theorem depth_dd (d : Dd) : (dd d).depth = d.depth := by
  induction d with
  | spot n => simp only [dd, PyData.depth, PyData.depthAll, Dd.depth]; omega
  | book s => simp only [dd, PyData.depth, PyData.depthAll, Dd.depth]; omega
  | turn d ih => simp only [dd, PyData.depth, PyData.depthAll, Dd.depth]; omega
  | dod f e i1 i2 => simp only [dd, PyData.depth, PyData.depthAll, Dd.depth]; omega
  | both f e i1 i2 => simp only [dd, PyData.depth, PyData.depthAll, Dd.depth]; omega
  | first d ih => simp only [dd, PyData.depth, PyData.depthAll, Dd.depth]; omega
  | second d ih => simp only [dd, PyData.depth, PyData.depthAll, Dd.depth]; omega
theorem shaped_os {os : List (Option Dd)} (h : ∀ d, some d ∈ os → namesD PN d ∧ d.depth ≤ 60) : SeqAt.shaped (.list (os.map od)) = true := by
  have z : PyData.canLayAll0 (os.map od) = true ∧ PyData.depthAll (os.map od) ≤ 60 := by
    induction os with
    | nil => exact ⟨rfl, Nat.zero_le _⟩
    | cons o r ih =>
      obtain ⟨h1, h2⟩ := ih fun d hd => h d (List.mem_cons_of_mem _ hd)
      cases o with
      | none => exact ⟨by simp only [List.map_cons, od, PyData.canLay0, PyData.canLayAll0, h1, Bool.and_self], by simp only [List.map_cons, od, PyData.depthAll, PyData.depth]; omega⟩
      | some d =>
        obtain ⟨h3, h4⟩ := h d List.mem_cons_self
        exact ⟨by simp only [List.map_cons, od, PyData.canLayAll0, lay_dd h3, h1, Bool.and_self], by simp only [List.map_cons, od, PyData.depthAll, depth_dd]; omega⟩
  unfold SeqAt.shaped
  rw [Bool.and_eq_true]
  refine ⟨by simp only [PyData.canLay0]; exact z.1, decide_eq_true ?_⟩
  have := z.2
  simp only [PyData.depth]
  omega
variable {P : Program} {w : World} {K : PySem.W.Frag} {mg : Str → Option Value} {base : Heap}
/-! ### options -/
def Opt (bk : Bk) (Γ : List Kd) (s : Str) (d : PyData) : Prop := ∃ h k r, (h, k) ∈ headsF bk Γ ∧ r ∈ outsF k ∧ r.goal = s ∧ d = .tuple [dd h, .tuple (r.wants.map kd), .tuple (r.road.map .str)]
abbrev s__law_options : Stmt := top 54
abbrev nm__law_options : List Str := ["_law_book_here", "_law_given", "_law_name", "_law_found", "_law_head", "_law_kind_here", "_law_wants", "_law_goal", "_law_road"]
theorem sc__law_options : FnScope nm__law_options ["_law_book_here", "_law_given", "_law_name"] (defScope s__law_options) := ⟨rfl, rfl, rfl, by decide +kernel, rfl, by decide +kernel, by decide +kernel⟩
def rOptions : List PyData → (List PyData → Prop) → Prop := fun ds Φ => ∃ (bk : Bk) (Γ : List Kd) (s : Str), BkOk bk 2 ∧ GOk Γ ∧ Γ.length ≤ 100 ∧ ds = [bkD bk, .tuple (Γ.map kd), .str s] ∧ Φ = fun rs => rs.length ≤ 2000 ∧ ∀ r ∈ rs, Opt bk Γ s r
theorem options_ok (T : Tx K mg) (D : Dfn K mg "_law_options" s__law_options ["_law_book_here", "_law_given", "_law_name"]) (CH : Cal P w K mg base 1 "_law_heads" ["_law_book_here", "_law_given"] (spL K rHeads)) (CO : Cal P w K mg base 3 "_law_outs" ["_law_kind_here"] (spL K (rOuts 3))) :
    Cal P w K mg base 4 "_law_options" ["_law_book_here", "_law_given", "_law_name"] (spLP K rOptions) := by
  obtain ⟨f, fd, F, m_, b_⟩ := D
  obtain ⟨_, _, G__law_heads, m__law_heads, k__law_heads, b__law_heads⟩ := CH.mono (show 1 ≤ 3 by omega)
  obtain ⟨_, _, G__law_outs, m__law_outs, k__law_outs, b__law_outs⟩ := CO
  refine ⟨f, fd, F.ok sc__law_options (spLP_len fun ds d ⟨_, _, _, _, _, _, e, _⟩ => by rw [e]; rfl) (fun cdv A outer s H vs Q E hr h => ?_), m_, F.kp, b_⟩
  obtain ⟨ds, Φ, ⟨bk, Γ, s, hb, hΓ, hl, rfl, rfl⟩, hm, q⟩ := h
  obtain ⟨vb, vg, vs', rfl, h0, h1, h2⟩ := inv3 hm
  have es := h2.str_inv
  subst es
  refine ⟨_, (pss_cons (ps_set (i := 3) sc__law_options.nd rfl (Or.inl rfl) (pe_lst pa_nil))
 (pss_cons (ps_for PassesOwn.never rfl (pi_list (pe_call G__law_heads hr rfl m__law_heads k__law_heads b__law_heads .nil pass0 (pa_cons (pv 0) (pa_cons (pv 1) pa_nil)))) (pg_tup rfl (pgs_cons (pg_name (i := 4) sc__law_options.nd rfl (Or.inl rfl)) (pgs_cons (pg_name (i := 5) sc__law_options.nd rfl (Or.inl rfl)) pgs_nil)))
 (pss_one (ps_for PassesOwn.never rfl (pi_list (pe_call G__law_outs hr rfl m__law_outs k__law_outs b__law_outs .nil pass0 (pa_cons (pv 5) pa_nil))) (pg_tup rfl (pgs_cons (pg_name (i := 6) sc__law_options.nd rfl (Or.inl rfl)) (pgs_cons (pg_name (i := 7) sc__law_options.nd rfl (Or.inl rfl)) (pgs_cons (pg_name (i := 8) sc__law_options.nd rfl (Or.inl rfl)) pgs_nil))))
 (pss_one (ps_if (pt_cmpR op_eq (pv 7) (pv 2) (nomark _))
 (pss_one (ps_expr (pe_bm PySem.F.plainAttrs_list PySem.F.slot_list_append PySem.F.type_list_append mt_append (pv 3) (pa_cons (pe_tup (pa_cons (pv 4) (pa_cons (pv 6) (pa_cons (pv 8) pa_nil)))) pa_nil))))
 pss_nil)))))
 (pss_one (ps_ret (pv 3))))), ?_⟩
  refine Go.run (K := K) (B := H) ?_ (.refl H)
  refine go_setL (el_lst ea_nil (by simp)) fun l vs0 H1 hl1 u1 hl1' m0 => ?_
  cases m0
  refine Go.run (K := K) (B := H1) (H := H1) ?_ (.refl H1)
  have nh : ((headsF bk Γ).map headD).length ≤ 103 := by
    have := hb.few
    simp [headsF, spotsF]; omega
  refine go_seq (go_forM (el_call (ea_cons (ev_var (i := 0) rfl (h0.keep u1.2)) (ea_cons (ev_var (i := 1) rfl (h1.keep u1.2)) ea_nil)) ⟨bk, Γ, hb.few, by omega, rfl, rfl⟩) fun p ws H2 hp u2 hp2 hm2 =>
    ⟨fun i σ' H' => ∃ a b c e g acc rs, σ' = [some vb, some vg, some (.str s), some (.ref l), a, b, c, e, g] ∧ Same H H' ∧ TK K H2 H' ∧ H' p = some (.lst ws) ∧ H' l = some (.lst acc) ∧ ImAll K H' acc rs ∧ rs.length ≤ 4 * i ∧ ∀ r ∈ rs, Opt bk Γ s r,
      ⟨_, _, _, _, _, [], [], rfl, u1.1.trans u2.1, .refl _, hp2, u2.1 _ _ hl1', .nil, Nat.zero_le _, fun r hr => by cases hr⟩, fun i σ' H' ⟨_, _, _, _, _, _, _, _, _, k1, k2, _⟩ => ⟨k2, k1⟩, fun i d x σ' H' hd ⟨a, b, c, e, g, acc, rs, es, sm, tk, hp', hl', ma, hrl, hro⟩ hx => ?_, fun σ' H' ⟨a, b, c, e, g, acc, rs, es, sm, tk, hp', hl', ma, hrl, hro⟩ => ?_⟩)
  · subst es
    rw [List.getElem?_map] at hd
    cases e' : (headsF bk Γ)[i]? with
    | none => rw [e'] at hd; cases hd
    | some hk =>
      rw [e'] at hd
      cases hd
      have hmem := List.mem_of_getElem? e'
      have hi : i < 103 := by
        have := (List.getElem?_eq_some_iff.mp e').1
        rw [List.length_map] at nh
        omega
      obtain ⟨-, -, -, -, -, hk2, hks⟩ := heads_in hb hΓ (h := hk.1) (k := hk.2) hmem
      have lk := outsF_len hk.2
      have lk2 := Nat.pow_le_pow_right (n := 2) (by omega) hk2
      have hlp : p ≠ l := by intro z; subst z; rw [hp] at hl1'; cases hl1'
      refine g_2 hx fun xh xk hxh hxk => ?_
      refine (go_forM (K := K) (B := H') (H := H') (el_call (ea_cons (ev_var (i := 5) rfl hxk) ea_nil) ⟨hk.2, by omega, by omega, hks, rfl, rfl⟩) fun p3 ws3 H3 hp3 u3 hp3' hm3 =>
        ⟨fun j σ'' H'' => ∃ c e g acc' rs', σ'' = [some vb, some vg, some (.str s), some (.ref l), some xh, some xk, c, e, g] ∧ Same (wo H' l) H'' ∧ TK K H3 H'' ∧ H'' p3 = some (.lst ws3) ∧ H'' l = some (.lst acc') ∧ ImAll K H'' acc' rs' ∧ rs'.length ≤ 4 * i + j ∧ ∀ r ∈ rs', Opt bk Γ s r,
          ⟨_, _, _, acc, rs, rfl, (wo_same.trans u3.1), .refl _, hp3', u3.1 _ _ hl', ma.keep u3.2, hrl, hro⟩, fun j σ'' H'' ⟨_, _, _, _, _, _, _, k1, k2, _⟩ => ⟨k2, k1⟩, fun j d y σ'' H'' hd' ⟨c, e, g, acc', rs', es, s4, t4, hp4, hl4, ma4, hrl4, hro4⟩ hy => ?_, fun σ'' H'' ⟨c, e, g, acc', rs', es, s4, t4, hp4, hl4, ma4, hrl4, hro4⟩ => ?_⟩) H' (.refl (.refl _))
      · subst es
        rw [List.getElem?_map] at hd'
        cases e'' : (outsF hk.2)[j]? with
        | none => rw [e''] at hd'; cases hd'
        | some r =>
          rw [e''] at hd'
          cases hd'
          have hj := (List.getElem?_eq_some_iff.mp e'').1
          have hlp3 : p3 ≠ l := by intro z; subst z; rw [hp3] at hl'; cases hl'
          refine g_3 hy fun y1 y2 y3 hy1 hy2 hy3 => ?_
          have ey := hy2.str_inv
          subst ey
          refine (go_if (K := K) (B := H'') (H := H'') (b := decide (r.goal = s)) (et_test (ev_eqS (ev_var (i := 7) rfl (.str _)) (ev_var (i := 2) rfl (.str _)))) (fun z H5 u5 => ?_) (fun z => go_next fun H5 u5 => ?_)) H'' (.refl (.refl _))
          · have ez := of_decide_eq_true z
            have hxh5 := hxh.keep (u3.2.trans (t4.trans u5.2))
            refine go_app (K := K) (B := wo H5 l) (φ := fun d => d = .tuple [dd hk.1, .tuple (r.wants.map kd), .tuple (r.road.map .str)]) wo_same wo_l rfl (u5.1 _ _ hl4) (ma4.keep u5.2) (by omega) ((ev_tup (ea_cons (ev_var (i := 4) rfl hxh5) (ea_cons (ev_var (i := 6) rfl (hy1.keep u5.2)) (ea_cons (ev_var (i := 8) rfl (hy3.keep u5.2)) ea_nil))) (by simp)).p rfl) fun d v7 H7 hd7 s7 k7 hl7 m7 => ?_
            subst hd7
            refine ⟨_, _, _, _, _, rfl, ?_, t4.trans (u5.2.trans k7), s7 _ _ (by rw [wo_ne hlp3]; exact u5.1 _ _ hp4), hl7, m7, by simp; omega, fun r' hr' => ?_⟩
            · exact (wo_sub (s4.trans u5.1) wo_l).trans s7
            · rcases List.mem_append.mp hr' with hr' | hr'
              · exact hro4 r' hr'
              · rw [List.mem_singleton.mp hr']
                exact ⟨hk.1, hk.2, r, hmem, List.mem_of_getElem? e'', ez, rfl⟩
          · exact ⟨_, _, _, _, _, rfl, s4.trans u5.1, t4.trans u5.2, u5.1 _ _ hp4, u5.1 _ _ hl4, ma4.keep u5.2, by omega, hro4⟩
      · subst es
        rw [List.length_map] at hrl4
        exact ⟨_, _, _, _, _, _, rs', rfl, (wo_sub sm hl1).trans s4, tk.trans (u3.2.trans t4), s4 _ _ (by rw [wo_ne hlp]; exact hp'), hl4, ma4, by omega, hro4⟩
  · subst es
    exact ⟨_, rfl, q l acc H' rs ⟨by omega, hro⟩ hl1 sm hl' ma⟩
end Fw
set_option Elab.async false
set_option linter.all false
set_option maxRecDepth 100000
set_option maxHeartbeats 1000000
namespace Fw
open PySem L2 Fd
variable {P : Program} {w : World} {K : PySem.W.Frag} {mg : Str → Option Value} {base : Heap}
theorem inv5 {H : Hp} {vs : List V} {a b c d e : PyData} (h : ImAll K H vs [a, b, c, d, e]) : ∃ x y z u t, vs = [x, y, z, u, t] ∧ Im K H x a ∧ Im K H y b ∧ Im K H z c ∧ Im K H u d ∧ Im K H t e := by
  cases h with | cons h1 h2 => obtain ⟨y, z, u, t, rfl, hy, hz, hu, ht⟩ := inv4 h2; exact ⟨_, y, z, u, t, rfl, h1, hy, hz, hu, ht⟩
theorem somes : ∀ {os : List (Option Dd)}, os.any Option.isNone = false → ∃ ps : List Dd, os = ps.map some
  | [], _ => ⟨[], rfl⟩
  | none :: _, h => by simp at h
  | some d :: r, h => by
    rw [List.any_cons, Bool.or_eq_false_iff] at h
    obtain ⟨ps, e⟩ := somes h.2
    exact ⟨d :: ps, by rw [e]; rfl⟩
/-! ### a fitting deed -/
abbrev s__law_fit : Stmt := top 55
abbrev nm__law_fit : List Str := ["_law_book_here", "_law_given", "_law_kind_here", "_law_x", "_law_deep", "_law_inner", "_law_one", "_law_other", "_law_options_here", "_law_k", "_law_head", "_law_wants", "_law_road", "_law_parts", "_law_need"]
theorem sc__law_fit : FnScope nm__law_fit ["_law_book_here", "_law_given", "_law_kind_here", "_law_x", "_law_deep"] (defScope s__law_fit) := ⟨rfl, rfl, rfl, by decide +kernel, rfl, by decide +kernel, by decide +kernel⟩
def rFit (n : Nat) : List PyData → (PyData → Prop) → Prop := fun ds φ => ∃ (bk : Bk) (Γ : List Kd) (k : Kd) (x : Int) (e : Nat), 3 * e + k.depth < n ∧ k.depth ≤ 2 ∧ e ≤ 2 ∧ k.settled ∧ BkOk bk 2 ∧ GOk Γ ∧ Γ.length + k.depth + 2 * e ≤ 90 ∧ ds = [bkD bk, .tuple (Γ.map kd), kd k, .int x, .int e] ∧ φ = fun r => ∃ o, r = od o ∧ ∀ d, o = some d → FitOk bk Γ k e d
theorem od_isN (o : Option Dd) : isN (od o) = o.isNone := by
  cases o with
  | none => rfl
  | some d => exact isN_dd d
theorem fit_ok (T : Tx K mg) (D : Dfn K mg "_law_fit" s__law_fit ["_law_book_here", "_law_given", "_law_kind_here", "_law_x", "_law_deep"]) (CO : Cal P w K mg base 4 "_law_options" ["_law_book_here", "_law_given", "_law_name"] (spLP K rOptions)) (CG : Cal P w K mg base 1 "_law_gone" ["_law_head", "_law_road", "_law_parts"] (spGone K)) (CM : Cal P w K mg base 1 "_law_mix" ["_law_x", "_law_way"] (spI K rMix)) :
    ∀ n, Cal P w K mg base (n + 4) "_law_fit" ["_law_book_here", "_law_given", "_law_kind_here", "_law_x", "_law_deep"] (spP K (rFit n)) := by
  obtain ⟨f, fd, F, m__law_fit, b__law_fit⟩ := D
  have k__law_fit := F.kp
  intro n
  refine ⟨f, fd, ?_, m__law_fit, k__law_fit, b__law_fit⟩
  induction n with
  | zero => exact fn_none fun vs H Q E ⟨ds, d, ⟨_, _, _, _, _, hx, _⟩, _⟩ => absurd hx (by omega)
  | succ n G__law_fit =>
    obtain ⟨_, _, G__law_options, m__law_options, k__law_options, b__law_options⟩ := CO.mono (show 4 ≤ n + 4 by omega)
    obtain ⟨_, _, G__law_gone, m__law_gone, k__law_gone, b__law_gone⟩ := CG.mono (show 1 ≤ n + 4 by omega)
    obtain ⟨_, _, G__law_mix, m__law_mix, k__law_mix, b__law_mix⟩ := CM.mono (show 1 ≤ n + 4 by omega)
    refine F.ok sc__law_fit (spP_len fun ds d ⟨_, _, _, _, _, _, _, _, _, _, _, _, e, _⟩ => by rw [e]; rfl) (fun cdv A outer s H vs Q E hr h => ?_)
    obtain ⟨ds, φ, ⟨bk, Γ, k, x, e, hn, hk2, he2, hks, hb, hΓ, hlen, rfl, rfl⟩, hm, q⟩ := h
    obtain ⟨vb, vg, vk, vx, ve, rfl, h0, h1, h2, h3, h4⟩ := inv5 hm
    have ex := h3.int_inv
    subst ex
    have ee := h4.int_inv
    subst ee
    refine ⟨_, (pss_cons (ps_if (PW.pt (pw_and (pt_not (pt_val (pe_callB call_isi rfl T.isinstance_ (by decide +kernel) (pa_cons (pv 2) (pa_cons (pe_bltn (v := .ty "str") rfl T.str_ (by decide +kernel) rfl) pa_nil))))) (pw_and1 (pt_cmpR op_eq (pe_ix ix_tup (pv 2) pe_int (fun _ _ => rfl)) pe_str (nomark _)))))
 (pss_cons (ps_set (i := 5) sc__law_fit.nd rfl (Or.inl rfl) (pe_call G__law_fit hr rfl m__law_fit k__law_fit b__law_fit .nil pass0 (pa_cons (pv 0) (pa_cons (pe_op op_catA (pv 1) (pe_tup (pa_cons (pe_ix ix_tup (pv 2) pe_int (fun _ _ => rfl)) pa_nil))) (pa_cons (pe_ix ix_tup (pv 2) pe_int (fun _ _ => rfl)) (pa_cons (pv 3) (pa_cons (pv 4) pa_nil)))))))
 (pss_one (ps_ret (pe_ifExp (pt_cmp (pc_isN (pv 5))) pe_non (pe_tup (pa_cons pe_str (pa_cons (pv 5) pa_nil)))))))
 pss_nil)
 (pss_cons (ps_if (pt_not (pt_val (pe_callB call_isi rfl T.isinstance_ (by decide +kernel) (pa_cons (pv 2) (pa_cons (pe_bltn (v := .ty "str") rfl T.str_ (by decide +kernel) rfl) pa_nil)))))
 (pss_cons (ps_set (i := 6) sc__law_fit.nd rfl (Or.inl rfl) (pe_call G__law_fit hr rfl m__law_fit k__law_fit b__law_fit .nil pass0 (pa_cons (pv 0) (pa_cons (pv 1) (pa_cons (pe_ix ix_tup (pv 2) pe_int (fun _ _ => rfl)) (pa_cons (pe_call G__law_mix hr rfl m__law_mix k__law_mix b__law_mix .nil pass0 (pa_cons (pv 3) (pa_cons pe_int pa_nil))) (pa_cons (pv 4) pa_nil)))))))
 (pss_cons (ps_if (pt_cmp (pc_isN (pv 6)))
 (pss_one (ps_ret pe_non))
 pss_nil)
 (pss_cons (ps_set (i := 7) sc__law_fit.nd rfl (Or.inl rfl) (pe_call G__law_fit hr rfl m__law_fit k__law_fit b__law_fit .nil pass0 (pa_cons (pv 0) (pa_cons (pv 1) (pa_cons (pe_ix ix_tup (pv 2) pe_int (fun _ _ => rfl)) (pa_cons (pe_call G__law_mix hr rfl m__law_mix k__law_mix b__law_mix .nil pass0 (pa_cons (pv 3) (pa_cons pe_int pa_nil))) (pa_cons (pv 4) pa_nil)))))))
 (pss_one (ps_ret (pe_ifExp (pt_cmp (pc_isN (pv 7))) pe_non (pe_tup (pa_cons pe_str (pa_cons (pv 6) (pa_cons (pv 7) pa_nil))))))))))
 pss_nil)
 (pss_cons (ps_set (i := 8) sc__law_fit.nd rfl (Or.inl rfl) (pe_call G__law_options hr rfl m__law_options k__law_options b__law_options .nil pass0 (pa_cons (pv 0) (pa_cons (pv 1) (pa_cons (pv 2) pa_nil)))))
 (pss_cons (ps_for PassesOwn.never rfl (pi_range1 rfl T.range_ (pa_cons (pe_callB call_len_seq rfl T.len_ (by decide +kernel) (pa_cons (pv 8) pa_nil)) pa_nil)) (pg_name (i := 9) sc__law_fit.nd rfl (Or.inl rfl))
 (pss_cons (ps_asg (pe_ix ix_list (pv 8) (pe_op op_mod (pe_op op_add (pv 3) (pv 9)) (pe_callB call_len_seq rfl T.len_ (by decide +kernel) (pa_cons (pv 8) pa_nil))) (fun _ _ => rfl)) (pg_tup rfl (pgs_cons (pg_name (i := 10) sc__law_fit.nd rfl (Or.inl rfl)) (pgs_cons (pg_name (i := 11) sc__law_fit.nd rfl (Or.inl rfl)) (pgs_cons (pg_name (i := 12) sc__law_fit.nd rfl (Or.inl rfl)) pgs_nil)))))
 (pss_cons (ps_set (i := 13) sc__law_fit.nd rfl (Or.inl rfl) (pe_lst pa_nil))
 (pss_cons (ps_for PassesOwn.never rfl (pi_tup (pv 11)) (pg_name (i := 14) sc__law_fit.nd rfl (Or.inl rfl))
 (pss_one (ps_if (PW.pt (pw_and (pt_cmpR op_gt (pv 4) pe_int (nomark _)) (pw_and1 (pt_cmpR (op_notInD (u65 hr)) pe_non (pv 13) rfl))))
 (pss_one (ps_expr (pe_bm PySem.F.plainAttrs_list PySem.F.slot_list_append PySem.F.type_list_append mt_append (pv 13) (pa_cons (pe_call G__law_fit hr rfl m__law_fit k__law_fit b__law_fit .nil pass0 (pa_cons (pv 0) (pa_cons (pv 1) (pa_cons (pv 14) (pa_cons (pe_call G__law_mix hr rfl m__law_mix k__law_mix b__law_mix .nil pass0 (pa_cons (pe_op op_add (pv 3) (pv 9)) (pa_cons pe_int pa_nil))) (pa_cons (pe_op op_sub (pv 4) pe_int) pa_nil)))))) pa_nil))))
 pss_nil)))
 (pss_one (ps_if (PW.pt (pw_and (pt_cmpR op_eq (pe_callB call_len_seq rfl T.len_ (by decide +kernel) (pa_cons (pv 13) pa_nil)) (pe_callB call_len_seq rfl T.len_ (by decide +kernel) (pa_cons (pv 11) pa_nil)) (nomark _)) (pw_and1 (pt_cmpR (op_notInD (u65 hr)) pe_non (pv 13) rfl))))
 (pss_one (ps_ret (pe_call G__law_gone hr rfl m__law_gone k__law_gone b__law_gone .nil pass0 (pa_cons (pv 10) (pa_cons (pv 12) (pa_cons (pv 13) pa_nil))))))
 pss_nil))))))
 (pss_one (ps_ret pe_non)))))), ?_⟩
    refine Go.run (K := K) (B := H) ?_ (.refl H)
    have fin : ∀ (o : Option Dd) v H1, (∀ d, o = some d → FitOk bk Γ k e d) → Up K H H H1 → Im K H1 v (od o) → Q v H1 := fun o v H1 ho u hv => q (od o) v H1 ⟨o, rfl, ho⟩ u.1 hv
    have hb' : Im K H vb (bkD bk) := h0
    rcases kd_settled hks with ⟨s, rfl⟩ | ⟨a, b, rfl, ha, hbs⟩ | ⟨a, b, rfl, ha, hbs⟩
    · simp only [Kd.depth] at hn hlen
      refine go_ifs (b := false) (et_and (a := false) (b := false) (et_not (a := true) (et_B (ev_isi (ev_var rfl h2) k_ss))) (fun z => nomatch z)) (fun z => nomatch z) (fun _ => ?_)
      refine go_ifs (b := false) (et_not (a := true) (et_B (ev_isi (ev_var rfl h2) k_ss))) (fun z => nomatch z) (fun _ => ?_)
      refine go_setLP (elp_call (ea_cons (ev_var rfl h0) (ea_cons (ev_var rfl h1) (ea_cons (ev_var rfl h2) ea_nil))) ⟨bk, Γ, s, hb, hΓ, by omega, rfl, rfl⟩) fun po wso H1 opts hopt hpo u1 hpo1 mo => ?_
      refine Go.run (K := K) (B := H1) (H := H1) ?_ (.refl H1)
      refine go_seq (go_forR1 (n := opts.length) ((ev_lenX (ex_var (i := 8) rfl) (SqL.of hpo1)).is (by rw [mo.length])) (by omega) (by have := hopt.1; omega) fun H2 u2 =>
        ⟨fun i σ' H' => ∃ a b c d e' g, σ' = [some vb, some vg, some vk, some (.int x), some (.int e), none, none, none, some (.ref po), a, b, c, d, e', g] ∧ Same H1 H', ⟨_, _, _, _, _, _, rfl, u2.1⟩, fun i σ' H' hi ⟨a9, a10, a11, a12, a13, a14, es, sm⟩ => ?_, fun σ' H' ⟨a9, a10, a11, a12, a13, a14, es, sm⟩ => ?_⟩)
      · subst es
        obtain ⟨od', hod, hat⟩ := at_some (xs := opts) (i := x + (0 + (i : Int))) (n := opts.length) (by omega) rfl
        obtain ⟨h, k', r, hhk, hr', hgoal, rfl⟩ := hopt.2 od' hod
        obtain ⟨hpl, hhn, -, -, -, hk2', hks'⟩ := heads_in hb hΓ hhk
        have hrow := outsF_ok k' r hr'
        have hroad := outsF_road k' r hr'
        have tk1 : TK K H H' := u1.2.trans (.of sm)
        refine (go_set3 (K := K) (B := H') (H := H') (ev_ixL (ex_var (i := 8) rfl) (SqL.of (sm _ _ hpo1)) (mo.keep (.of sm)) (ev_mod (ev_add (ev_var (i := 3) rfl (.int _)) (ev_var (i := 9) rfl (.int _))) ((ev_lenX (ex_var (i := 8) rfl) (SqL.of (sm _ _ hpo1))).is (by rw [mo.length])) (by omega)) hat) fun xh xw xr H3 u3 hxh hxw hxr => ?_) H' (.refl (.refl _))
        refine go_setL (el_lst ea_nil (by simp)) fun l vs0 H4 hl u4 hl4 m0 => ?_
        cases m0
        have tk4 : TK K H H4 := tk1.trans (u3.2.trans u4.2)
        refine go_seq (go_forT (B := H4) (H := H4) (ev_var (i := 11) rfl (hxw.keep u4.2)) fun H5 u5 =>
          ⟨fun j σ'' H'' => ∃ (g : Option V) (acc : List V) (os : List (Option Dd)), σ'' = [some vb, some vg, some vk, some (.int x), some (.int e), none, none, none, some (.ref po), some (.int (0 + (i : Int))), some xh, some xw, some xr, some (.ref l), g] ∧ Same H' H'' ∧ TK K H5 H'' ∧ H'' l = some (.lst acc) ∧ ImAll K H'' acc (os.map od) ∧
            (os.any Option.isNone = false → 0 < e → os.length = j) ∧ (e = 0 → os = []) ∧ os.length ≤ j ∧ ∀ (m : Nat) (p : Dd), os[m]? = some (some p) → ∃ a, r.wants[m]? = some a ∧ FitOk bk Γ a (e - 1) p,
            ⟨_, [], [], rfl, u4.1.trans u5.1, .refl _, u5.1 _ _ hl4, .nil, fun _ _ => rfl, fun _ => rfl, Nat.le_refl _, fun m p hm => by simp at hm⟩, fun j σ'' H'' ⟨_, _, _, _, _, t, _⟩ => t, fun j d y σ'' H'' hd ⟨g, acc, os, es, s5, t5, hl5, ma, ho1, ho2, ho3, ho4⟩ hy => ?_, fun σ'' H'' ⟨g, acc, os, es, s5, t5, hl5, ma, ho1, ho2, ho3, ho4⟩ => ?_⟩) H4 (.refl (.refl _))
        · subst es
          rw [List.getElem?_map] at hd
          cases ew : r.wants[j]? with
          | none => rw [ew] at hd; cases hd
          | some a =>
            rw [ew] at hd
            cases hd
            have hamem := List.mem_of_getElem? ew
            have hj := (List.getElem?_eq_some_iff.mp ew).1
            have had := hrow.2 a hamem
            have hsh : SeqAt.shaped (.list (os.map od)) = true := shaped_os fun d hd => by
              obtain ⟨m, hm⟩ := List.getElem?_of_mem hd
              obtain ⟨a', ha', hf⟩ := ho4 m d hm
              have := (hrow.2 a' (List.mem_of_getElem? ha')).1
              have := hf.depth
              exact ⟨hf.names, by omega⟩
            refine (go_if (K := K) (B := H'') (H := H'') (et_and ((et_test (ev_gt (ev_var (i := 4) rfl (.int _)) ev_int)).is (show _ = decide (0 < e) from dc (by omega))) fun _ => et_test (ev_nin (i := 13) rfl hl5 ma hsh)) (fun z H6 u6 => ?_) (fun z => go_next fun H6 u6 => ?_)) H'' (.refl (.refl _))
            · rw [Bool.and_eq_true, decide_eq_true_eq, Bool.not_eq_true'] at z
              have tk6 : TK K H H6 := tk4.trans (u5.2.trans (t5.trans u6.2))
              refine go_app (K := K) (B := H') (φ := fun r => ∃ o, r = od o ∧ ∀ d, o = some d → FitOk bk Γ a (e - 1) d) (s5.trans u6.1) hl rfl (u6.1 _ _ hl5) (ma.keep u6.2) (by simp; omega) (ep_call (ea_cons (ev_var (i := 0) rfl (h0.keep tk6)) (ea_cons (ev_var (i := 1) rfl (h1.keep tk6)) (ea_cons (ev_var (i := 14) rfl (hy.keep u6.2)) (ea_cons (ev_call (ea_cons (ev_add (ev_var (i := 3) rfl (.int _)) (ev_var (i := 9) rfl (.int _))) (ea_cons ev_int ea_nil)) ⟨_, 2, by omega, rfl, rfl⟩) (ea_cons ((ev_sub (ev_var (i := 4) rfl (.int _)) ev_int).is (show _ = PyData.int ((e - 1 : Nat) : Int) by congr 1; omega)) ea_nil))))) ⟨bk, Γ, a, _, e - 1, by omega, by omega, by omega, had.2 hks', hb, hΓ, by omega, rfl, rfl⟩) fun d v7 H7 hd7 s7 k7 hl7 m7 => ?_
              obtain ⟨o, rfl, ho⟩ := hd7
              have hlen' := ho1 z.2 z.1
              refine ⟨_, _, os ++ [o], rfl, s7, t5.trans (u6.2.trans k7), hl7, by rw [List.map_append]; exact m7, fun _ _ => by simp [hlen'], fun e0 => by omega, by simp; omega, fun m p hm => ?_⟩
              by_cases hlt : m < os.length
              · rw [List.getElem?_append_left hlt] at hm
                exact ho4 m p hm
              · rw [List.getElem?_append_right (by omega)] at hm
                have em : m = os.length := by
                  by_cases q : m - os.length = 0
                  · omega
                  · rw [List.getElem?_eq_none (by simp; omega)] at hm; cases hm
                subst em
                simp at hm
                exact ⟨a, by rw [hlen']; exact ew, ho p hm⟩
            · refine ⟨_, acc, os, rfl, s5.trans u6.1, t5.trans u6.2, u6.1 _ _ hl5, ma.keep u6.2, fun h1 h2 => ?_, ho2, by omega, ho4⟩
              rw [h1, Bool.not_false, Bool.and_true, decide_eq_false_iff_not] at z
              exact absurd h2 z
        · subst es
          rw [List.length_map] at ho1 ho3
          have tk6 : TK K H4 H'' := u5.2.trans t5
          have hsh : SeqAt.shaped (.list (os.map od)) = true := shaped_os fun d hd => by
            obtain ⟨m, hm⟩ := List.getElem?_of_mem hd
            obtain ⟨a', ha', hf⟩ := ho4 m d hm
            have := (hrow.2 a' (List.mem_of_getElem? ha')).1
            have := hf.depth
            exact ⟨hf.names, by omega⟩
          refine (go_if (K := K) (B := H'') (H := H'') (et_and ((et_test (ev_eqI (ev_lenX (ex_var (i := 13) rfl) (SqL.of hl5)) (ev_lenT (ev_var (i := 11) rfl (hxw.keep (u4.2.trans tk6)))))).is (show _ = decide (os.length = r.wants.length) from dc (by rw [ma.length, List.length_map, List.length_map]; omega))) fun _ => et_test (ev_nin (i := 13) rfl hl5 ma hsh)) (fun z => ?_) (fun z => go_next fun H6 u6 => ?_)) H'' (.refl (.refl _))
          · rw [Bool.and_eq_true, decide_eq_true_eq, Bool.not_eq_true'] at z
            obtain ⟨ps, rfl⟩ := somes z.2
            rw [List.length_map] at z
            have hpa : PAll (fun p a => FitOk bk Γ a (e - 1) p) ps r.wants := PAll.of z.1 fun m p hm => ho4 m p (by rw [List.getElem?_map, hm]; rfl)
            have hfin := fit_name hb hΓ hhk hr' hpa fun e0 => by
              have := ho2 e0
              cases ps with
              | nil => rfl
              | cons _ _ => cases this
            rw [hgoal] at hfin
            refine go_ret (ev_callR (d := dd (goneF h r.road ps)) (er_D (ev_var (i := 10) rfl (hxh.keep (u4.2.trans tk6))) (er_D (ev_var (i := 12) rfl (hxr.keep (u4.2.trans tk6))) (er_X (ex_var (i := 13) rfl) er_nil))) fun vs H2 Q' E' u ⟨v1, vs1, e1, hv1, v2, vs2, e2, hv2, vs3, e3, e4⟩ q' => ?_) fun v7 H7 u7 h7 => fin (some (goneF h r.road ps)) v7 H7 (fun d hd => by cases hd; exact hfin) ⟨u1.1.trans (sm.trans (s5.trans u7.1)), tk4.trans (tk6.trans u7.2)⟩ h7
            subst e4 e3 e2 e1
            exact ⟨h, r.road, ps, v1, v2, l, acc, rfl, hv1, hv2, SqL.of (u.1 _ _ hl5), by rw [List.map_map] at ma; exact ma.keep u.2, by rw [z.1]; exact hrow.1, q'⟩
          · exact ⟨_, _, _, _, _, _, rfl, sm.trans (s5.trans u6.1)⟩
      · subst es
        exact fin none .non H' (fun d hd => nomatch hd) ⟨u1.1.trans sm, u1.2.trans (.of sm)⟩ .non
    · simp only [Kd.depth] at hn hk2 hlen
      refine go_ifs (b := true) (et_and (a := true) (b := true) (et_not (a := false) (et_B (ev_isi (ev_var rfl h2) k_ts))) fun _ => et_word rfl h2 (by decide +kernel)) (fun _ => ?_) (fun z => nomatch z)
      refine go_setP (φ := fun r => ∃ o, r = od o ∧ ∀ d, o = some d → FitOk bk (Γ ++ [a]) b e d) (ep_call (ea_cons (ev_var rfl h0) (ea_cons (ev_cat (ev_var rfl h1) (ev_tup (ea_cons (ev_ix (ev_var rfl h2) ev_int rfl) ea_nil) (by simp)) (by simp; omega)) (ea_cons (ev_ix (ev_var rfl h2) ev_int rfl) (ea_cons (ev_var rfl h3) (ea_cons (ev_var rfl h4) ea_nil))))) ⟨bk, Γ ++ [a], b, x, e, by omega, by omega, he2, hbs, hb, fun k hk => ?_, by simp; omega, by simp, rfl⟩) fun d v5 H5 hd u5 h5 => ?_
      · rcases List.mem_append.mp hk with hk | hk
        · exact hΓ k hk
        · rw [List.mem_singleton.mp hk]; exact ⟨by omega, ha⟩
      obtain ⟨o, rfl, ho⟩ := hd
      refine go_ret (d := od (o.map Dd.turn)) (ev_ite (b := o.isNone) ((et_B (ev_isN' (ev_var (i := 5) rfl h5))).is (od_isN o)) (fun z => ?_) (fun z => ?_)) fun v6 H6 u6 h6 => fin (o.map Dd.turn) v6 H6 (fun d hd => ?_) ⟨u6.1, u5.2.trans u6.2⟩ h6
      · cases o with
        | none => exact ev_non
        | some d => cases z
      · cases o with
        | none => cases z
        | some d => exact ev_tup (ea_cons ev_str (ea_cons (ev_var (i := 5) rfl h5) ea_nil)) (by simp)
      · cases o with
        | none => cases hd
        | some d' => cases hd; exact fit_way (ho d' rfl)
    · simp only [Kd.depth] at hn hk2 hlen
      refine go_ifs (b := false) (et_and (a := true) (b := false) (et_not (a := false) (et_B (ev_isi (ev_var rfl h2) k_ts))) fun _ => et_word rfl h2 (by decide +kernel)) (fun z => nomatch z) (fun _ => ?_)
      refine go_ifs (b := true) (et_not (a := false) (et_B (ev_isi (ev_var rfl h2) k_ts))) (fun _ => ?_) (fun z => nomatch z)
      refine go_setP (φ := fun r => ∃ o, r = od o ∧ ∀ d, o = some d → FitOk bk Γ a e d) (ep_call (ea_cons (ev_var rfl h0) (ea_cons (ev_var rfl h1) (ea_cons (ev_ix (ev_var rfl h2) ev_int rfl) (ea_cons (ev_call (ea_cons (ev_var rfl h3) (ea_cons ev_int ea_nil)) ⟨x, 0, by omega, rfl, rfl⟩) (ea_cons (ev_var rfl h4) ea_nil))))) ⟨bk, Γ, a, _, e, by omega, by omega, he2, ha, hb, hΓ, by omega, rfl, rfl⟩) fun d v5 H5 hd u5 h5 => ?_
      obtain ⟨o, rfl, ho⟩ := hd
      refine go_ifs (b := o.isNone) ((et_B (ev_isN' (ev_var (i := 6) rfl h5))).is (od_isN o)) (fun z => go_ret ev_non fun v6 H6 u6 h6 => fin none v6 H6 (fun d hd => nomatch hd) ⟨u6.1, u5.2.trans u6.2⟩ h6) (fun z => ?_)
      obtain ⟨d1, rfl⟩ : ∃ d, o = some d := by
        cases o with
        | none => cases z
        | some d => exact ⟨d, rfl⟩
      have hd1 := ho d1 rfl
      refine go_setP (φ := fun r => ∃ o, r = od o ∧ ∀ d, o = some d → FitOk bk Γ b e d) (ep_call (ea_cons (ev_var (i := 0) rfl (h0.keep u5.2)) (ea_cons (ev_var (i := 1) rfl (h1.keep u5.2)) (ea_cons (ev_ix (ev_var (i := 2) rfl (h2.keep u5.2)) ev_int rfl) (ea_cons (ev_call (ea_cons (ev_var (i := 3) rfl (.int _)) (ea_cons ev_int ea_nil)) ⟨x, 1, by omega, rfl, rfl⟩) (ea_cons (ev_var (i := 4) rfl (.int _)) ea_nil))))) ⟨bk, Γ, b, _, e, by omega, by omega, he2, hbs, hb, hΓ, by omega, rfl, rfl⟩) fun d v6 H6 hd u6 h6 => ?_
      obtain ⟨o2, rfl, ho2⟩ := hd
      refine go_ret (d := od (o2.map fun y => Dd.both d1 y)) (ev_ite (b := o2.isNone) ((et_B (ev_isN' (ev_var (i := 7) rfl h6))).is (od_isN o2)) (fun z => ?_) (fun z => ?_)) fun v7 H7 u7 h7 => fin (o2.map fun y => Dd.both d1 y) v7 H7 (fun d hd => ?_) ⟨u7.1, u5.2.trans (u6.2.trans u7.2)⟩ h7
      · cases o2 with
        | none => exact ev_non
        | some d => cases z
      · cases o2 with
        | none => cases z
        | some d => exact ev_tup (ea_cons ev_str (ea_cons (ev_var (i := 6) rfl (h5.keep u6.2)) (ea_cons (ev_var (i := 7) rfl h6) ea_nil))) (by simp)
      · cases o2 with
        | none => cases hd
        | some d' => cases hd; exact fit_pair hd1 (ho2 d' rfl)
end Fw
set_option Elab.async false
set_option linter.all false
set_option maxRecDepth 100000
set_option maxHeartbeats 1000000
namespace Fw
open PySem L2 Fd
section
variable {K : PySem.W.Frag} {B H H1 H2 : Hp} {σ : St} {ta tb te : TE} {v : V} {d : PyData} {D : Ends} {t2 : TS} {tr : TA}
theorem elp_callR {sp : Sp} {E : XK} {R : List V → Hp → Prop} {Φ : List PyData → Prop} (h : EvR K B tr σ H R) (hr : ∀ vs H1 Q E, Up K B H H1 → R vs H1 → (∀ p ws H2 ds, Φ ds → H1 p = none → Same H1 H2 → H2 p = some (.lst ws) → ImAll K H2 ws ds → Q (.ref p) H2) → sp vs H1 Q E) : EvLP K B (tCall sp [] E tr) σ H Φ := fun H1 u Q q =>
  h H1 u _ fun vs H2 s2 m => by
    show sp (vs ++ []) H2 Q E
    rw [List.append_nil]
    exact hr vs H2 Q E (u.then s2) m fun p ws H3 ds hds hp s3 h3 m3 => q p ws H3 ds hds (s2.free hp) (s2.trans s3) h3 m3
/-- a value, told by what holds of it -/
def EvB (K : PySem.W.Frag) (B : Hp) (te : TE) (σ : St) (H : Hp) (R : V → Hp → Prop) : Prop := ∀ H1, Up K B H H1 → ∀ Q : VK, (∀ v H2, R v H2 → Same H1 H2 → Q v H2) → te σ H1 Q
theorem go_setB {i : Nat} {R : V → Hp → Prop} (h : EvB K B te σ H R) (q : ∀ v H1, R v H1 → Up K B H H1 → t2 D (σ.set i (some v)) H1) : Go K B (tSeq (tAsg te (gName i)) t2) D σ H := fun H1 u => h H1 u _ fun v H2 r s2 => q v H2 r (u.then s2)
theorem eb_callR {sp : Sp} {E : XK} {R : List V → Hp → Prop} {S : V → Hp → Prop} (h : EvR K B tr σ H R) (hr : ∀ vs H1 Q E, Up K B H H1 → R vs H1 → (∀ v H2, S v H2 → Same H1 H2 → Q v H2) → sp vs H1 Q E) : EvB K B (tCall sp [] E tr) σ H S := fun H1 u Q q =>
  h H1 u _ fun vs H2 s2 m => by
    show sp (vs ++ []) H2 Q E
    rw [List.append_nil]
    exact hr vs H2 Q E (u.then s2) m fun v H3 r s3 => q v H3 r (s2.trans s3)
/-- a slice of a new list -/
theorem elp_sl {tl th : TO} {lo hi : Option Int} {Φ : List PyData → Prop} (ha : EvLP K B ta σ H Φ) (h1 : EvO K B tl σ H lo) (h2 : EvO K B th σ H hi) : EvLP K B (tSl (rSlL K) ta tl th) σ H (fun rs => ∃ ds, Φ ds ∧ rs = cutD ds lo hi) := fun H1 u Q q =>
  ha H1 u _ fun p vs H2 ds hds hp s2 h2' hm => h1 H2 (u.then s2) _ fun H3 s3 => h2 H3 ((u.then s2).then s3) _ fun H4 s4 => by
    refine ⟨p, vs, rfl, SqL.of (s4 _ _ (s3 _ _ h2')), fun l hl => q l _ _ _ ⟨ds, hds, rfl⟩ ?_ ?_ upd_same ((((hm.keep (.of (s3.trans s4)))).cut lo hi).keep (.of (same_new hl _)))⟩
    · exact ((s2.trans s3).trans s4).free hl
    · exact ((s2.trans s3).trans s4).trans (same_new hl _)
theorem EvL.lp {ds : List PyData} {Φ : List PyData → Prop} (h : EvL K B te σ H ds) (hp : Φ ds) : EvLP K B te σ H Φ := fun H1 u Q q => h H1 u Q fun p vs H2 hn s h2 m => q p vs H2 ds hp hn s h2 m
theorem go_retTup {R : List V → Hp → Prop} (h : EvR K B tr σ H R) (hn : ∀ vs H1, R vs H1 → vs.length ≤ 100000) (q : ∀ vs H1 t, Up K B H H1 → R vs H1 → H1 t = none → D.rt (.ref t) (upd H1 t (.tup vs))) : Go K B (tRet (tTup tr)) D σ H := fun H1 u =>
  h H1 u _ fun vs H2 s2 r => ⟨sz_of (hn _ _ r), fun t ht => q vs H2 t (u.then s2) r ht⟩
/-- a, b = x, y -/
theorem go_par {i j : Nat} {tr : TA} {a b : PyData} (h : EvA K B tr σ H [a, b]) (q : ∀ x y H1, Up K B H H1 → Im K H1 x a → Im K H1 y b → D.nx ((σ.set i (some x)).set j (some y)) H1) : Go K B (tPar i j tr) D σ H := fun H1 u => h H1 u _ fun vs H2 s2 m => by
  obtain ⟨x, y, rfl, hx, hy⟩ := inv2 m
  exact ⟨x, y, rfl, q x y H2 (u.then s2) hx hy⟩
end
structure Drawn (bk : Bk) (k : Kd) (d : Dd) : Prop where
  book : BkOk bk 2
  kind : k.depth ≤ 2
  settled : k.settled
  fit : FitOk bk [] k 2 d
  size : d.size ≤ 60
  kn : namesK PN k
theorem drawn_else {bk : Bk} {s : Str} (h : BkOk bk 2) (hs : PN s) : Drawn bk (.way (.nm s) (.nm s)) (.turn (.spot 0)) :=
  ⟨h, by simp [Kd.depth], ⟨trivial, trivial⟩, ⟨.turn (.head (.spot rfl)), trivial, by simp only [Fd.cw, Cf3, Kd.depth]; omega, by simp only [Fd.dw, Df3, Kd.depth]; omega, by simp only [Dd.depth, Kd.depth]; omega⟩, by decide, hs, hs⟩
variable {P : Program} {w : World} {K : PySem.W.Frag} {mg : Str → Option Value} {base : Heap}
abbrev s__law_drawn : Stmt := top 64
abbrev nm__law_drawn : List Str := ["_law_script", "_law_k", "_law_xs", "_law_names_here", "_law_book_here", "_law_kind_here", "_law_deed"]
theorem sc__law_drawn : FnScope nm__law_drawn ["_law_script", "_law_k"] (defScope s__law_drawn) := ⟨rfl, rfl, rfl, by decide +kernel, rfl, by decide +kernel, by decide +kernel⟩
def spDrawn (K : PySem.W.Frag) : Sp := fun vs H Q _ => ∃ (p : Addr) (xs : List Int) (k : Nat), k < 1000 ∧ vs = [.ref p, .int k] ∧ SqL K H p (xs.map V.int) ∧
  ∀ (bk : Bk) (kk : Kd) (d : Dd) (ys : List Int) (t l : Addr) (vb vk vd : V) (H' : Hp), Drawn bk kk d → ys.length = 22 → Same H H' → SqT K H' t [vb, vk, vd, .ref l] → BkV K H' vb bk → Im K H' vk (kd kk) → Im K H' vd (dd d) → SqL K H' l (ys.map V.int) → Q (.ref t) H'
theorem drawn_ok (T : Tx K mg) (N : Nat) (hN : 13 ≤ N) (D : Dfn K mg "_law_drawn" s__law_drawn ["_law_script", "_law_k"]) (C1 : Cal P w K mg base 1 "_law_cell" ["_law_script", "_law_k"] (spCell K)) (C2 : Cal P w K mg base 1 "_law_numbers" ["_law_cell_here", "_law_many"] (spNumbers K))
    (C3 : Cal P w K mg base 1 "_law_names" ["_law_xs"] (spNames K)) (C4 : Cal P w K mg base 5 "_law_book" ["_law_xs", "_law_names_here", "_law_many", "_law_deep"] (spBook K 2)) (C5 : Cal P w K mg base 4 "_law_kind" ["_law_x", "_law_names_here", "_law_deep"] (spKind K 3))
    (C6 : Cal P w K mg base 13 "_law_fit" ["_law_book_here", "_law_given", "_law_kind_here", "_law_x", "_law_deep"] (spP K (rFit 9))) (C7 : Cal P w K mg base N "_law_size" ["_law_deed"] (spI K (rSize N))) :
    Cal P w K mg base (N + 1) "_law_drawn" ["_law_script", "_law_k"] (spDrawn K) := by
  obtain ⟨f, fd, F, m_, b_⟩ := D
  obtain ⟨_, _, G__law_cell, m__law_cell, k__law_cell, b__law_cell⟩ := C1.mono (show 1 ≤ N by omega)
  obtain ⟨_, _, G__law_numbers, m__law_numbers, k__law_numbers, b__law_numbers⟩ := C2.mono (show 1 ≤ N by omega)
  obtain ⟨_, _, G__law_names, m__law_names, k__law_names, b__law_names⟩ := C3.mono (show 1 ≤ N by omega)
  obtain ⟨_, _, G__law_book, m__law_book, k__law_book, b__law_book⟩ := C4.mono (show 5 ≤ N by omega)
  obtain ⟨_, _, G__law_kind, m__law_kind, k__law_kind, b__law_kind⟩ := C5.mono (show 4 ≤ N by omega)
  obtain ⟨_, _, G__law_fit, m__law_fit, k__law_fit, b__law_fit⟩ := C6.mono hN
  obtain ⟨_, _, G__law_size, m__law_size, k__law_size, b__law_size⟩ := C7
  refine ⟨f, fd, F.ok sc__law_drawn (fun vs H Q E ⟨_, _, _, _, e, _⟩ => by rw [e]; rfl) (fun cdv A outer s H vs Q E hr h => ?_), m_, F.kp, b_⟩
  obtain ⟨p, sc, k, hk, rfl, hp, q⟩ := h
  refine ⟨_, (pss_cons (ps_set (i := 2) sc__law_drawn.nd rfl (Or.inl rfl) (pe_call G__law_numbers hr rfl m__law_numbers k__law_numbers b__law_numbers .nil pass0 (pa_cons (pe_call G__law_cell hr rfl m__law_cell k__law_cell b__law_cell .nil pass0 (pa_cons (pv 0) (pa_cons (pv 1) pa_nil))) (pa_cons pe_int pa_nil))))
 (pss_cons (ps_set (i := 3) sc__law_drawn.nd rfl (Or.inl rfl) (pe_slice sl_list (pe_call G__law_names hr rfl m__law_names k__law_names b__law_names .nil pass0 (pa_cons (pv 2) pa_nil)) po_none (po_some (pe_op op_add pe_int (pe_op op_mod (pe_ix ix_list (pv 2) pe_int (fun _ _ => rfl)) pe_int)))))
 (pss_cons (ps_set (i := 4) sc__law_drawn.nd rfl (Or.inl rfl) (pe_call G__law_book hr rfl m__law_book k__law_book b__law_book .nil pass0 (pa_cons (pe_slice sl_list (pv 2) (po_some pe_int) po_none) (pa_cons (pv 3) (pa_cons (pe_op op_add pe_int (pe_op op_mod (pe_ix ix_list (pv 2) pe_int (fun _ _ => rfl)) pe_int)) (pa_cons pe_int pa_nil))))))
 (pss_cons (ps_set (i := 5) sc__law_drawn.nd rfl (Or.inl rfl) (pe_call G__law_kind hr rfl m__law_kind k__law_kind b__law_kind .nil pass0 (pa_cons (pe_ix ix_list (pv 2) pe_int (fun _ _ => rfl)) (pa_cons (pv 3) (pa_cons pe_int pa_nil)))))
 (pss_cons (ps_set (i := 6) sc__law_drawn.nd rfl (Or.inl rfl) (pe_call G__law_fit hr rfl m__law_fit k__law_fit b__law_fit .nil pass0 (pa_cons (pv 4) (pa_cons (pe_tup pa_nil) (pa_cons (pv 5) (pa_cons (pe_ix ix_list (pv 2) pe_int (fun _ _ => rfl)) (pa_cons pe_int pa_nil)))))))
 (pss_cons (ps_if (PW.pt (pw_or (pt_cmp (pc_isN (pv 6))) (pw_or1 (pt_cmpR op_gt (pe_call G__law_size hr rfl m__law_size k__law_size b__law_size .nil pass0 (pa_cons (pv 6) pa_nil)) pe_int (nomark _)))))
 (pss_one (ps_par (i := 5) (j := 6) rfl sc__law_drawn.nd rfl rfl (by decide) rfl rfl (pa_cons (pe_tup (pa_cons pe_str (pa_cons (pe_ix ix_list (pv 3) pe_int (fun _ _ => rfl)) (pa_cons (pe_ix ix_list (pv 3) pe_int (fun _ _ => rfl)) pa_nil)))) (pa_cons (pe_tup (pa_cons pe_str (pa_cons (pe_tup (pa_cons pe_str (pa_cons pe_int pa_nil))) pa_nil))) pa_nil)) rfl))
 pss_nil)
 (pss_one (ps_ret (pe_tup (pa_cons (pv 4) (pa_cons (pv 5) (pa_cons (pv 6) (pa_cons (pe_slice sl_list (pv 2) (po_some pe_int) po_none) pa_nil))))))))))))), ?_⟩
  refine Go.run (K := K) (B := H) ?_ (.refl H)
  refine go_setLP (Φ := fun ds => ∃ xs : List Int, xs.length = 34 ∧ ds = xs.map .int) (elp_callR (er_P (ep_callR (φ := fun d => ∃ j : Int, d = .int j) (er_X (ex_var rfl) (er_X (ex_var rfl) er_nil)) fun vs H1 Q E u ⟨vs1, e1, vs2, e2, e3⟩ q' => ?_) (er_X ex_c er_nil)) fun vs H1 Q E u ⟨d, v, vs1, e1, ⟨j, ej⟩, hv, vs2, e2, e3⟩ q' => ?_) fun lx wsx H1 dsx ⟨xs, hxl, ex⟩ hlx u1 hlx1 mx => ?_
  · subst e3 e2 e1
    exact ⟨p, sc, k, hk, rfl, u.1.seq hp, fun j H' s => q' _ _ H' ⟨j, rfl⟩ s (.int j)⟩
  · subst ej e3 e2 e1
    have := hv.int_inv
    subst this
    exact ⟨j, 34, by decide, rfl, fun l xs H' hx hl s hl' => q' l _ H' _ ⟨xs, hx, rfl⟩ hl s hl' (ints_im xs)⟩
  subst ex
  have ew := ints_of mx
  subst ew
  refine Go.run (K := K) (B := H1) (H := H1) ?_ (.refl H1)
  have hx1 : SqL K H1 lx (xs.map V.int) := SqL.of hlx1
  have rm := Int.emod_lt_of_pos (xs.getD 4 0) (show (0 : Int) < 3 by decide)
  have rm' := Int.emod_nonneg (xs.getD 4 0) (show (3 : Int) ≠ 0 by decide)
  have rn := Int.emod_lt_of_pos (xs.getD 9 0) (show (0 : Int) < 3 by decide)
  have rn' := Int.emod_nonneg (xs.getD 9 0) (show (3 : Int) ≠ 0 by decide)
  refine go_setLP (elp_sl (Φ := fun ds => ∃ ss : List Str, ss.length = 4 ∧ (∀ s ∈ ss, PN s) ∧ ds = ss.map .str) (elp_callR (er_X (ex_var rfl) er_nil) fun vs H2 Q E u ⟨vs1, e1, e2⟩ q' => ?_) eo_none (eo_some (ev_it (b := 1 + (xs.getD 4 0 % 3).toNat) (ev_add ev_int (ev_mod (ev_xs (k := 4) rfl hx1 ev_int (by omega)) ev_int (by decide))) (by omega)))) fun ln wsn H2 dsn ⟨ds', ⟨ss4, hs4, hspn, e1⟩, e2⟩ hln u2 hln2 mn => ?_
  · subst e2 e1
    exact ⟨lx, xs, by omega, rfl, u.1.seq hx1, fun l ss H' h4 hpn hl s hl' => q' l _ H' _ ⟨ss, h4, hpn, rfl⟩ hl s hl' (strs_im ss)⟩
  subst e1
  rw [cutD_lo _ _ (by simp; omega), ← List.map_take] at e2
  subst e2
  obtain ⟨ss, hss⟩ : ∃ ss, ss = ss4.take (1 + (xs.getD 4 0 % 3).toNat) := ⟨_, rfl⟩
  rw [← hss] at mn
  have ew := strs_of mn
  subst ew
  have hs0 : 0 < ss.length := by rw [hss, List.length_take]; omega
  have hspn' : ∀ s ∈ ss, PN s := fun s hs => hspn s (by rw [hss] at hs; exact List.mem_of_mem_take hs)
  refine Go.run (K := K) (B := H2) (H := H2) ?_ (.refl H2)
  have hx2 : SqL K H2 lx (xs.map V.int) := u2.1.seq hx1
  have hn2 : SqL K H2 ln (ss.map V.str) := SqL.of hln2
  refine go_setB (R := fun v H => ∃ bk, BkOk bk 2 ∧ BkV K H v bk) (eb_callR (er_L (el_slL (ex_var (i := 2) rfl) hx2 (ints_im xs) (eo_some ev_int) eo_none) (er_X (ex_var (i := 3) rfl) (er_X (ev_it (b := 1 + (xs.getD 9 0 % 3).toNat) (ev_add ev_int (ev_mod (ev_xs (k := 9) rfl hx2 ev_int (by omega)) ev_int (by decide))) (by omega)).x (er_X ex_c er_nil)))) fun vs H3 Q E u ⟨pl, wsl, vs1, e1, hpl, ml, vs2, e2, vs3, e3, vs4, e4, e5⟩ q' => ?_) fun vb H3 ⟨bk, hbk, hb3⟩ u3 => ?_
  · subst e5 e4 e3 e2 e1
    rw [show (5 : Int) = ((5 : Nat) : Int) from rfl, cutD_hi, ← List.map_drop] at ml
    have ew := ints_of ml
    subst ew
    exact ⟨pl, ln, xs.drop 5, ss, _, by simp; omega, by omega, by omega, hs0, hspn', rfl, hpl, u.1.seq hn2, fun bk v H' hbk s hv => q' v H' ⟨bk, hbk, hv⟩ s⟩
  refine Go.run (K := K) (B := H3) (H := H3) ?_ (.refl H3)
  have hx2 := u3.1.seq hx2
  have hn2 := u3.1.seq hn2
  refine go_set (ev_callR (d := kd (kindF ss 2 (xs.getD 10 0))) (er_X (ev_xs (k := 10) rfl hx2 ev_int (by omega)).x (er_X (ex_var (i := 3) rfl) (er_X ex_c er_nil))) fun vs H4 Q E u ⟨vs1, e1, vs2, e2, vs3, e3, e4⟩ q' => ?_) fun vk H4 u4 hk4 => ?_
  · subst e4 e3 e2 e1
    exact ⟨_, ss, ln, 2, by decide, rfl, u.1.seq hn2, hs0, q'⟩
  obtain ⟨kf1, kf2, kf3⟩ := kindF_ok hs0 hspn' 2 (xs.getD 10 0)
  generalize kindF ss 2 (xs.getD 10 0) = kk at hk4 kf1 kf2 kf3
  refine go_setP (ep_call (ea_cons (ev_var (i := 4) rfl (hb3.im.keep u4.2)) (ea_cons (ev_tup ea_nil (by simp)) (ea_cons (ev_var (i := 5) rfl hk4) (ea_cons (ev_xs (k := 11) rfl hx2 ev_int (by omega)) (ea_cons ev_int ea_nil))))) ⟨bk, [], kk, _, 2, by omega, kf2, by decide, kf1, hbk, fun k hk => (by cases hk), by simp; omega, rfl, rfl⟩) fun d vd H5 ⟨o, eo, ho⟩ u5 hd5 => ?_
  subst eo
  have sz : ∀ d, o = some d → Ev K H3 (tCall (spI K (rSize N)) [] E0 (tCons (tVar 6) tNil)) [some (.ref p), some (.int (k : Int)), some (.ref lx), some (.ref ln), some vb, some vk, some vd] H5 (.int d.size) := fun d e => by
    subst e
    exact ev_call (ea_cons (ev_var (i := 6) rfl hd5) ea_nil) ⟨d, by have := (ho d rfl).depth; omega, rfl, rfl⟩
  refine go_ifsR (b := o.isNone || (match o with | none => false | some d => decide (60 < d.size))) (fun σ' H' => ∃ (kk : Kd) (d : Dd) (vk vd : V), σ' = [some (.ref p), some (.int (k : Int)), some (.ref lx), some (.ref ln), some vb, some vk, some vd] ∧ Drawn bk kk d ∧ Up K H3 H5 H' ∧ Im K H' vk (kd kk) ∧ Im K H' vd (dd d)) (et_or ((et_B (ev_isN' (ev_var (i := 6) rfl hd5))).is (od_isN o)) fun z => ?_) ?_ ?_ ?_
  · cases o with
    | none => cases z
    | some d => exact (et_test (ev_gt (sz d rfl) ev_int)).is (dc (by omega))
  · rintro σ' H' ⟨kk, d, vk, vd, rfl, hdr, u6, hk6, hd6⟩
    refine (go_retTup (K := K) (B := H3) (H := H') (er_X (ex_var (i := 4) rfl) (er_D (ev_var (i := 5) rfl hk6) (er_D (ev_var (i := 6) rfl hd6) (er_L (el_slL (ex_var (i := 2) rfl) hx2 (ints_im xs) (eo_some (ev_int (i := 12))) eo_none) er_nil)))) (fun vs H7 ⟨vs1, e1, v2, vs2, e2, hv2, v3, vs3, e3, hv3, l, wsl, vs4, e4, hl, ml, e5⟩ => ?_) fun vs H7 t u7 ⟨vs1, e1, v2, vs2, e2, hv2, v3, vs3, e3, hv3, l, wsl, vs4, e4, hl, ml, e5⟩ ht => ?_) H' ⟨u6.1, .refl _⟩
    · subst e5 e4 e3 e2 e1
      show 4 ≤ 100000
      decide
    subst e5 e4 e3 e2 e1
    rw [show (12 : Int) = ((12 : Nat) : Int) from rfl, cutD_hi, ← List.map_drop] at ml
    have ew := ints_of ml
    subst ew
    have sn := same_new ht (.tup [vb, v2, v3, .ref l])
    exact q bk kk d (xs.drop 12) t l vb v2 v3 _ hdr (by simp; omega) (u1.1.trans (u2.1.trans (u3.1.trans (u7.1.trans sn)))) (.inl (.inl upd_same)) (hb3.keep (u7.1.trans sn)) (hv2.keep (.of sn)) (hv3.keep (.of sn)) (sn.seq hl)
  · intro hR _
    have nm : ∀ {σ : St} {H' : Hp}, σ[3]? = some (some (.ref ln)) → Ev K H3 (tOp (rIxL K) (tVar 3) (tC (.int 0))) σ H' (.str ss[0]) := fun e => ev_ixL (ex_var e) hn2 (strs_im ss) ev_int (atI_nat (j := 0) (by rw [List.getElem?_map, List.getElem?_eq_getElem hs0]; rfl))
    exact go_par (ea_cons (ev_tup (ea_cons ev_str (ea_cons (nm rfl) (ea_cons (nm rfl) ea_nil))) (by simp)) (ea_cons (ev_tup (ea_cons ev_str (ea_cons (ev_tup (ea_cons ev_str (ea_cons ev_int ea_nil)) (by simp)) ea_nil)) (by simp)) ea_nil)) fun x y H6 u6 hx hy => hR _ _ ⟨_, _, x, y, rfl, drawn_else (s := ss[0]) hbk (hspn' _ (List.getElem_mem hs0)), u6, hx, hy⟩
  · intro z H6 u6
    cases o with
    | none => cases z
    | some d =>
      exact ⟨kk, d, vk, vd, rfl, ⟨hbk, kf2, kf1, ho d rfl, by have := of_decide_eq_false z; omega, kf3⟩, u6, hk4.keep (u5.2.trans u6.2), hd5.keep u6.2⟩
end Fw
set_option Elab.async false
set_option linter.all false
set_option maxRecDepth 100000
set_option maxHeartbeats 1000000
namespace Fw
open PySem L2 Fd
/-! ### a book as a dict -/
theorem merge_not {k : Key} : ∀ (kvs : List (Key × V)) (acc : List (Key × V)), k ∉ kvs.map Prod.fst → valV (mergeK acc kvs) k = valV acc k
  | [], acc, _ => rfl
  | p :: r, acc, h => by
    rw [List.map_cons, List.mem_cons, not_or] at h
    show valV (mergeK (putK acc p.1 p.2) r) k = _
    rw [merge_not r _ h.2, valV_put, if_neg h.1]
theorem merge_get {kv : Key × V} : ∀ (kvs : List (Key × V)) (acc : List (Key × V)), (kvs.map Prod.fst).Nodup → kv ∈ kvs → valV (mergeK acc kvs) kv.1 = some kv.2
  | [], acc, _, h => nomatch h
  | p :: r, acc, hn, h => by
    rw [List.map_cons, List.nodup_cons] at hn
    show valV (mergeK (putK acc p.1 p.2) r) kv.1 = _
    rcases List.mem_cons.mp h with rfl | h'
    · rw [merge_not r _ hn.1, valV_put, if_pos rfl]
    · exact merge_get r _ hn.2 h'
/-- the rows of a book, as a dict's -/
def RowsV (K : PySem.W.Frag) (H : Hp) (bk : Bk) (kvs : List (Key × V)) : Prop := kvs.map Prod.fst = bk.map (fun r => Sum.inr r.1) ∧ ∀ r ∈ bk, ∃ v, (Sum.inr r.1, v) ∈ kvs ∧ Im K H v (kd r.2)
theorem RowsV.get {K : PySem.W.Frag} {H : Hp} {bk : Bk} {kvs : List (Key × V)} (h : RowsV K H bk kvs) (hn : (bk.map Prod.fst).Nodup) {s : Str} {k : Kd} (hl : bk.lookup s = some k) : ∃ v, valV (mergeK [] kvs) (.inr s) = some v ∧ Im K H v (kd k) := by
  have hm : (s, k) ∈ bk := by
    have : ∀ {bk : Bk}, bk.lookup s = some k → (s, k) ∈ bk := fun {bk} => by
      induction bk with
      | nil => intro h; cases h
      | cons r t ih =>
        intro h
        obtain ⟨x, k'⟩ := r
        rw [List.lookup_cons] at h
        split at h
        · rename_i e
          have e' : s = x := by simpa using e
          cases h
          rw [e']
          exact List.mem_cons_self
        · exact List.mem_cons_of_mem _ (ih h)
    exact this hl
  obtain ⟨v, hv, him⟩ := h.2 _ hm
  refine ⟨v, merge_get (kv := (Sum.inr s, v)) kvs [] ?_ hv, him⟩
  rw [h.1]
  have : bk.map (fun r => (Sum.inr r.1 : Key)) = (bk.map Prod.fst).map Sum.inr := by rw [List.map_map]; rfl
  rw [this]
  refine List.Pairwise.map _ (fun a b hab e => hab ?_) hn
  exact Sum.inr.inj e
theorem bk_rows {K : PySem.W.Frag} {H : Hp} : ∀ {bk : Bk} {ws : List V}, ImAll K H ws (bk.map rowD) → ∃ (ps : List Addr) (kvs : List (Key × V)), ws = ps.map V.ref ∧ Paired (fun p kv => SqT K H p [kV kv.1, kv.2]) ps kvs ∧ RowsV K H bk kvs
  | [], _, .nil => ⟨[], [], rfl, .nil, rfl, fun r hr => by cases hr⟩
  | r :: bk, _, .cons h q => by
    obtain ⟨ps, kvs, rfl, hp, h1, h2⟩ := bk_rows (bk := bk) q
    obtain ⟨a, xs, rfl, hs, hx⟩ := h.tup_inv
    obtain ⟨x, y, rfl, hx1, hy⟩ := inv2 hx
    have ex := hx1.str_inv
    subst ex
    refine ⟨a :: ps, (Sum.inr r.1, y) :: kvs, rfl, .cons hs hp, by rw [List.map_cons, List.map_cons, h1], fun r' hr' => ?_⟩
    rcases List.mem_cons.mp hr' with rfl | hr'
    · exact ⟨y, List.mem_cons_self, hy⟩
    · obtain ⟨v, hv, hm⟩ := h2 r' hr'
      exact ⟨v, List.mem_cons_of_mem _ hv, hm⟩
section
variable {K : PySem.W.Frag} {B H H1 H2 : Hp} {σ : St} {ta tb te : TE} {v : V} {d : PyData} {D : Ends} {t2 : TS} {tr : TA}
/-- a, b = e -/
theorem go_set2 {i j : Nat} {a b : PyData} (h : Ev K B te σ H (.tuple [a, b])) (q : ∀ x y H1, Up K B H H1 → Im K H1 x a → Im K H1 y b → Go K B t2 D ((σ.set i (some x)).set j (some y)) H1) :
    Go K B (tSeq (tAsg te (gTup K 2 (gCons (gName i) (gCons (gName j) gNil)))) t2) D σ H := fun H1 u => h H1 u _ fun v H2 s2 m =>
  g_2 m fun x y hx hy => q x y H2 (u.then s2) hx hy H2 ⟨(u.then s2).1, .refl _⟩
/-- dict(book)[name] -/
theorem ev_dget {i : Nat} {bk : Bk} {s : Str} {k : Kd} (e : σ[i]? = some (some v)) (hb : BkV K B v bk) (hn : (bk.map Prod.fst).Nodup) (hk : bk.lookup s = some k) (hi : Ev K B tb σ H (.str s)) : Ev K B (tDGet (tCB (rDictT K) (tCons (tVar i) tNil)) tb) σ H (kd k) := fun H1 u Q q => by
  obtain ⟨a, o, ws, rfl, h1, h2, h3⟩ := hb.keep u.1
  obtain ⟨ps, kvs, rfl, hp, hr⟩ := bk_rows h3
  obtain ⟨x, hx, hxm⟩ := hr.get hn hk
  refine ⟨_, e, a, o, ps, kvs, rfl, h1, h2, hp, fun p hpn => ?_⟩
  have sn := same_new hpn (.dK (mergeK [] kvs))
  refine hi _ (u.then sn) _ fun y H2 s2 hy => ?_
  have ey := hy.str_inv
  subst ey
  refine ⟨p, x, rfl, ?_, q x H2 (sn.trans s2) (hxm.keep (.of (sn.trans s2)))⟩
  have := DGet.k (k := .inr s) (s2 _ _ (upd_same (H := H1) (a := p) (o := .dK (mergeK [] kvs))))
  rw [hx] at this
  exact this
/-- arguments: a book first -/
theorem er_Bk {i : Nat} {bk : Bk} {R : List V → Hp → Prop} (e : σ[i]? = some (some v)) (hb : BkV K B v bk) (hr : EvR K B tr σ H R) : EvR K B (tCons (tVar i) tr) σ H (fun vs H' => ∃ v vs', vs = v :: vs' ∧ BkV K H' v bk ∧ R vs' H') := fun H1 u Q q =>
  ⟨v, e, hr H1 u _ fun vs H3 s3 r => q (v :: vs) H3 s3 ⟨v, vs, rfl, hb.keep (u.1.trans s3), r⟩⟩
end
theorem et_wd {K : PySem.W.Frag} {B H : Hp} {σ : St} {v : V} {i : Nat} {x s : Str} {b : Bool} (e : σ[i]? = some (some v)) (h : Im K H v (.str x)) (hb : decide (x = s) = b) : EvT K B (tTest (tOp rEq (tVar i) (tC (.str s)))) σ H b :=
  (et_test (ev_eqS (ev_var e h) ev_str)).is hb
theorem wd_nt {d : Dd} (h : ∀ b, d ≠ Dd.turn b) : ∃ x r, dd d = .tuple (.str x :: r) ∧ decide (x = "turn") = false := by
  cases d with
  | turn b => exact absurd rfl (h b)
  | spot n => exact ⟨_, _, rfl, by decide +kernel⟩
  | book n => exact ⟨_, _, rfl, by decide +kernel⟩
  | dod n m => exact ⟨_, _, rfl, by decide +kernel⟩
  | both n m => exact ⟨_, _, rfl, by decide +kernel⟩
  | first n => exact ⟨_, _, rfl, by decide +kernel⟩
  | second n => exact ⟨_, _, rfl, by decide +kernel⟩
theorem wd_nb {d : Dd} (h : ∀ a b, d ≠ Dd.both a b) : ∃ x r, dd d = .tuple (.str x :: r) ∧ decide (x = "both") = false := by
  cases d with
  | both a b => exact absurd rfl (h a b)
  | spot n => exact ⟨_, _, rfl, by decide +kernel⟩
  | book n => exact ⟨_, _, rfl, by decide +kernel⟩
  | dod n m => exact ⟨_, _, rfl, by decide +kernel⟩
  | turn n => exact ⟨_, _, rfl, by decide +kernel⟩
  | first n => exact ⟨_, _, rfl, by decide +kernel⟩
  | second n => exact ⟨_, _, rfl, by decide +kernel⟩
theorem op_depth {bk : Bk} {w : Bool} {c : Nat} {Γ : List Kd} {K : Kd} {d d' : Dd} (h : Op bk w c Γ K d d') : d.depth ≤ c := by
  induction h <;> (try simp only [Dd.depth, Dd.depth_moved] at *) <;> omega
variable {P : Program} {w : World} {K : PySem.W.Frag} {mg : Str → Option Value} {base : Heap}
abbrev s_road_opened : Stmt := top 41
abbrev nm_road_opened : List Str := ["book", "given", "deed", "word", "inner", "kind"]
theorem sc_road_opened : FnScope nm_road_opened ["book", "given", "deed"] (defScope s_road_opened) := ⟨rfl, rfl, rfl, by decide +kernel, rfl, by decide +kernel, by decide +kernel⟩
abbrev s_opened : Stmt := top 42
abbrev nm_opened : List Str := ["book", "given", "kind", "deed", "inner", "done", "one", "other"]
theorem sc_opened : FnScope nm_opened ["book", "given", "kind", "deed"] (defScope s_opened) := ⟨rfl, rfl, rfl, by decide +kernel, rfl, by decide +kernel, by decide +kernel⟩
def spOp (K : PySem.W.Frag) (c : Nat) : Sp := fun vs H Q _ => ∃ (bk : Bk) (Γ : List Kd) (k : Kd) (d d' : Dd) (vb v1 v2 v3 : V), Op bk true c Γ k d d' ∧ (bk.map Prod.fst).Nodup ∧ Γ.length + c ≤ 1000 ∧ vs = [vb, v1, v2, v3] ∧ BkV K H vb bk ∧ Im K H v1 (.tuple (Γ.map kd)) ∧ Im K H v2 (kd k) ∧ Im K H v3 (dd d) ∧
  ∀ v' H', Same H H' → Im K H' v' (dd d') → Q v' H'
def spRo (K : PySem.W.Frag) (c : Nat) : Sp := fun vs H Q _ => ∃ (bk : Bk) (Γ : List Kd) (k : Kd) (d d' : Dd) (vb v1 v3 : V), Op bk false c Γ k d d' ∧ (bk.map Prod.fst).Nodup ∧ Γ.length + c ≤ 1000 ∧ vs = [vb, v1, v3] ∧ BkV K H vb bk ∧ Im K H v1 (.tuple (Γ.map kd)) ∧ Im K H v3 (dd d) ∧
  ∀ v' H', Same H H' → Im K H' v' (.tuple [dd d', kd k]) → Q v' H'
theorem opened_ok (T : Tx K mg) (N : Nat) (DR : Dfn K mg "road_opened" s_road_opened ["book", "given", "deed"]) (DO : Dfn K mg "opened" s_opened ["book", "given", "kind", "deed"]) (CM : Cal P w K mg base N "moved" ["deed", "given", "by"] (spI K (rMoved N))) :
    ∀ c, c ≤ N → Cal P w K mg base (N + c) "road_opened" ["book", "given", "deed"] (spRo K c) ∧ Cal P w K mg base (N + c) "opened" ["book", "given", "kind", "deed"] (spOp K c) := by
  obtain ⟨fR, fdR, FR, m_road_opened, b_road_opened⟩ := DR
  obtain ⟨fO, fdO, FO, m_opened, b_opened⟩ := DO
  have k_road_opened := FR.kp
  have k_opened := FO.kp
  intro c hc
  suffices z : FnOk P w K mg base CX0 (N + c) fR fdR ["book", "given", "deed"] (spRo K c) ∧ FnOk P w K mg base CX0 (N + c) fO fdO ["book", "given", "kind", "deed"] (spOp K c) from
    ⟨⟨fR, fdR, z.1, m_road_opened, k_road_opened, b_road_opened⟩, ⟨fO, fdO, z.2, m_opened, k_opened, b_opened⟩⟩
  induction c with
  | zero => exact ⟨fn_none fun vs H Q E ⟨_, _, _, d, _, _, _, _, h, _⟩ => absurd (op_depth h) (by have := d.depth_pos; omega), fn_none fun vs H Q E ⟨_, _, _, d, _, _, _, _, _, h, _⟩ => absurd (op_depth h) (by have := d.depth_pos; omega)⟩
  | succ c ih =>
    obtain ⟨G_road_opened, G_opened⟩ := ih (by omega)
    obtain ⟨_, _, G_moved, m_moved, k_moved, b_moved⟩ := CM.mono (show N ≤ N + c by omega)
    constructor
    · refine FR.ok sc_road_opened (fun vs H Q E ⟨_, _, _, _, _, _, _, _, _, _, _, e, _⟩ => by rw [e]; rfl) (fun cdv A outer s H vs Q E hr h => ?_)
      obtain ⟨bk, Γ, k, d, d', vb, v1, v3, hop, hn, hl, rfl, hb, h1, h3, q⟩ := h
      have hu := u1 hr
      refine ⟨_, (pss_cons (ps_set (i := 3) sc_road_opened.nd rfl (Or.inl rfl) (pe_ix ix_tup (pv 2) pe_int (fun _ _ => rfl)))
 (pss_cons (ps_if (pt_cmpR op_eq (pv 3) pe_str (nomark _))
 (pss_one (ps_ret (pe_tup (pa_cons (pv 2) (pa_cons (pe_ix ix_tup (pv 1) (pe_ix ix_tup (pv 2) pe_int (fun _ _ => rfl)) (fun _ _ => rfl)) pa_nil)))))
 pss_nil)
 (pss_cons (ps_if (pt_cmpR op_eq (pv 3) pe_str (nomark _))
 (pss_one (ps_ret (pe_tup (pa_cons (pv 2) (pa_cons (pe_dget hu (pe_callTy (call_dictT rfl) rfl T.dict_ (by decide +kernel) (pa_cons (pv 0) pa_nil)) (pe_ix ix_tup (pv 2) pe_int (fun _ _ => rfl)) (fun _ _ => rfl)) pa_nil)))))
 pss_nil)
 (pss_cons (ps_asg (pe_call G_road_opened hr rfl m_road_opened k_road_opened b_road_opened .nil pass0 (pa_cons (pv 0) (pa_cons (pv 1) (pa_cons (pe_ix ix_tup (pv 2) pe_int (fun _ _ => rfl)) pa_nil)))) (pg_tup rfl (pgs_cons (pg_name (i := 4) sc_road_opened.nd rfl (Or.inl rfl)) (pgs_cons (pg_name (i := 5) sc_road_opened.nd rfl (Or.inl rfl)) pgs_nil))))
 (pss_cons (ps_if (pt_cmpR op_eq (pv 3) pe_str (nomark _))
 (pss_one (ps_ret (pe_tup (pa_cons (pe_tup (pa_cons pe_str (pa_cons (pv 4) (pa_cons (pe_call G_opened hr rfl m_opened k_opened b_opened .nil pass0 (pa_cons (pv 0) (pa_cons (pv 1) (pa_cons (pe_ix ix_tup (pv 5) pe_int (fun _ _ => rfl)) (pa_cons (pe_ix ix_tup (pv 2) pe_int (fun _ _ => rfl)) pa_nil))))) pa_nil)))) (pa_cons (pe_ix ix_tup (pv 5) pe_int (fun _ _ => rfl)) pa_nil)))))
 pss_nil)
 (pss_cons (ps_if (pt_cmpR op_eq (pv 3) pe_str (nomark _))
 (pss_one (ps_ret (pe_tup (pa_cons (pe_tup (pa_cons pe_str (pa_cons (pv 4) pa_nil))) (pa_cons (pe_ix ix_tup (pv 5) pe_int (fun _ _ => rfl)) pa_nil)))))
 pss_nil)
 (pss_one (ps_ret (pe_tup (pa_cons (pe_tup (pa_cons pe_str (pa_cons (pv 4) pa_nil))) (pa_cons (pe_ix ix_tup (pv 5) pe_int (fun _ _ => rfl)) pa_nil))))))))))), ?_⟩
      refine Go.run (K := K) (B := H) ?_ (.refl H)
      have fin : ∀ v H1, Up K H H H1 → Im K H1 v (.tuple [dd d', kd k]) → Q v H1 := fun v H1 u hv => q v H1 u.1 hv
      have ro : ∀ {σ : St} {H1 : Hp} {E : XK} {te : TE} {k : Kd} {d d' : Dd}, Op bk false c Γ k d d' → σ[0]? = some (some vb) → σ[1]? = some (some v1) → Im K H1 v1 (.tuple (Γ.map kd)) → Ev K H te σ H1 (dd d) →
          Ev K H (tCall (spRo K c) [] E (tCons (tVar 0) (tCons (tVar 1) (tCons te tNil)))) σ H1 (.tuple [dd d', kd k]) := fun {σ H1 E te k d d'} ho e0 e1 hg he =>
        ev_callR (er_Bk e0 hb (er_D (ev_var e1 hg) (er_D he er_nil))) fun vs H2 Q' E' u ⟨x0, vs1, q1, hx0, x1, vs2, q2, hx1, x2, vs3, q3, hx2, q4⟩ q' => by
          subst q4 q3 q2 q1
          exact ⟨bk, Γ, k, d, d', x0, x1, x2, ho, hn, by omega, rfl, hx0, hx1, hx2, q'⟩
      cases hop with
      | @spot _ _ n _ hk =>
        refine go_set (ev_word (i := 2) rfl h3) fun vw H1 u1 hw => ?_
        refine go_ifs (b := true) (et_wd (i := 3) rfl hw (by decide +kernel)) (fun _ => ?_) (fun z => nomatch z)
        refine go_ret (ev_tup (ea_cons (ev_var (i := 2) rfl (h3.keep u1.2)) (ea_cons (ev_ix (ev_var (i := 1) rfl (h1.keep u1.2)) (ev_ix (ev_var (i := 2) rfl (h3.keep u1.2)) ev_int rfl) (atI_nat (by rw [List.getElem?_map, hk]; rfl))) ea_nil)) (by simp)) fun v H2 u2 => fin v H2 ⟨u2.1, u1.2.trans u2.2⟩
      | @book _ _ s _ hk =>
        refine go_set (ev_word (i := 2) rfl h3) fun vw H1 u1 hw => ?_
        refine go_ifs (b := false) (et_wd (i := 3) rfl hw (by decide +kernel)) (fun z => nomatch z) (fun _ => ?_)
        refine go_ifs (b := true) (et_wd (i := 3) rfl hw (by decide +kernel)) (fun _ => ?_) (fun z => nomatch z)
        refine go_ret (ev_tup (ea_cons (ev_var (i := 2) rfl (h3.keep u1.2)) (ea_cons (ev_dget (i := 0) rfl hb hn hk (ev_ix (ev_var (i := 2) rfl (h3.keep u1.2)) ev_int rfl)) ea_nil)) (by simp)) fun v H2 u2 => fin v H2 ⟨u2.1, u1.2.trans u2.2⟩
      | @dod _ _ f f' e e' a _ hf he =>
        refine go_set (ev_word (i := 2) rfl h3) fun vw H1 u1 hw => ?_
        refine go_ifs (b := false) (et_wd (i := 3) rfl hw (by decide +kernel)) (fun z => nomatch z) (fun _ => ?_)
        refine go_ifs (b := false) (et_wd (i := 3) rfl hw (by decide +kernel)) (fun z => nomatch z) (fun _ => ?_)
        refine go_set2 (ro hf rfl rfl (h1.keep u1.2) (ev_ix (ev_var (i := 2) rfl (h3.keep u1.2)) ev_int rfl)) fun xi xk H2 u2 hxi hxk => ?_
        have tk := u1.2.trans u2.2
        refine go_ifs (b := true) (et_wd (i := 3) rfl (hw.keep u2.2) (by decide +kernel)) (fun _ => ?_) (fun z => nomatch z)
        refine go_ret (ev_tup (ea_cons (ev_tup (ea_cons ev_str (ea_cons (ev_var (i := 4) rfl hxi) (ea_cons (ev_callR (d := dd e') (er_Bk (i := 0) rfl hb (er_D (ev_var (i := 1) rfl (h1.keep tk)) (er_D (ev_ix (d := kd a) (ev_var (i := 5) rfl hxk) ev_int rfl) (er_D (ev_ix (d := dd e) (ev_var (i := 2) rfl (h3.keep tk)) ev_int rfl) er_nil)))) fun vs H2 Q' E' u ⟨x0, vs1, q1, hx0, x1, vs2, q2, hx1, x2, vs3, q3, hx2, x3, vs4, q4, hx3, q5⟩ q' => ?_) ea_nil))) (by simp)) (ea_cons (ev_ix (ev_var (i := 5) rfl hxk) ev_int rfl) ea_nil)) (by simp)) fun v H3 u3 => fin v H3 ⟨u3.1, tk.trans u3.2⟩
        subst q5 q4 q3 q2 q1
        exact ⟨bk, Γ, a, e, e', x0, x1, x2, x3, he, hn, by omega, rfl, hx0, hx1, hx2, hx3, q'⟩
      | @first _ _ x x' a b hf =>
        refine go_set (ev_word (i := 2) rfl h3) fun vw H1 u1 hw => ?_
        refine go_ifs (b := false) (et_wd (i := 3) rfl hw (by decide +kernel)) (fun z => nomatch z) (fun _ => ?_)
        refine go_ifs (b := false) (et_wd (i := 3) rfl hw (by decide +kernel)) (fun z => nomatch z) (fun _ => ?_)
        refine go_set2 (ro hf rfl rfl (h1.keep u1.2) (ev_ix (ev_var (i := 2) rfl (h3.keep u1.2)) ev_int rfl)) fun xi xk H2 u2 hxi hxk => ?_
        have tk := u1.2.trans u2.2
        refine go_ifs (b := false) (et_wd (i := 3) rfl (hw.keep u2.2) (by decide +kernel)) (fun z => nomatch z) (fun _ => ?_)
        refine go_ifs (b := true) (et_wd (i := 3) rfl (hw.keep u2.2) (by decide +kernel)) (fun _ => ?_) (fun z => nomatch z)
        refine go_ret (ev_tup (ea_cons (ev_tup (ea_cons ev_str (ea_cons (ev_var (i := 4) rfl hxi) ea_nil)) (by simp)) (ea_cons (ev_ix (ev_var (i := 5) rfl hxk) ev_int rfl) ea_nil)) (by simp)) fun v H3 u3 => fin v H3 ⟨u3.1, tk.trans u3.2⟩
      | @second _ _ x x' a b hf =>
        refine go_set (ev_word (i := 2) rfl h3) fun vw H1 u1 hw => ?_
        refine go_ifs (b := false) (et_wd (i := 3) rfl hw (by decide +kernel)) (fun z => nomatch z) (fun _ => ?_)
        refine go_ifs (b := false) (et_wd (i := 3) rfl hw (by decide +kernel)) (fun z => nomatch z) (fun _ => ?_)
        refine go_set2 (ro hf rfl rfl (h1.keep u1.2) (ev_ix (ev_var (i := 2) rfl (h3.keep u1.2)) ev_int rfl)) fun xi xk H2 u2 hxi hxk => ?_
        have tk := u1.2.trans u2.2
        refine go_ifs (b := false) (et_wd (i := 3) rfl (hw.keep u2.2) (by decide +kernel)) (fun z => nomatch z) (fun _ => ?_)
        refine go_ifs (b := false) (et_wd (i := 3) rfl (hw.keep u2.2) (by decide +kernel)) (fun z => nomatch z) (fun _ => ?_)
        refine go_ret (ev_tup (ea_cons (ev_tup (ea_cons ev_str (ea_cons (ev_var (i := 4) rfl hxi) ea_nil)) (by simp)) (ea_cons (ev_ix (ev_var (i := 5) rfl hxk) ev_int rfl) ea_nil)) (by simp)) fun v H3 u3 => fin v H3 ⟨u3.1, tk.trans u3.2⟩
    · refine FO.ok sc_opened (fun vs H Q E ⟨_, _, _, _, _, _, _, _, _, _, _, _, e, _⟩ => by rw [e]; rfl) (fun cdv A outer s H vs Q E hr h => ?_)
      obtain ⟨bk, Γ, k, d, d', vb, v1, v2, v3, hop, hn, hl, rfl, hb, h1, h2, h3, q⟩ := h
      refine ⟨_, (pss_cons (ps_if (pt_val (pe_callB call_isi rfl T.isinstance_ (by decide +kernel) (pa_cons (pv 2) (pa_cons (pe_bltn (v := .ty "str") rfl T.str_ (by decide +kernel) rfl) pa_nil))))
 (pss_one (ps_ret (pe_ix ix_tup (pe_call G_road_opened hr rfl m_road_opened k_road_opened b_road_opened .nil pass0 (pa_cons (pv 0) (pa_cons (pv 1) (pa_cons (pv 3) pa_nil)))) pe_int (fun _ _ => rfl))))
 pss_nil)
 (pss_cons (ps_if (pt_cmpR op_eq (pe_ix ix_tup (pv 2) pe_int (fun _ _ => rfl)) pe_str (nomark _))
 (pss_cons (ps_set (i := 4) sc_opened.nd rfl (Or.inl rfl) (pe_op op_catA (pv 1) (pe_tup (pa_cons (pe_ix ix_tup (pv 2) pe_int (fun _ _ => rfl)) pa_nil))))
 (pss_cons (ps_if (pt_cmpR op_eq (pe_ix ix_tup (pv 3) pe_int (fun _ _ => rfl)) pe_str (nomark _))
 (pss_one (ps_ret (pe_tup (pa_cons pe_str (pa_cons (pe_call G_opened hr rfl m_opened k_opened b_opened .nil pass0 (pa_cons (pv 0) (pa_cons (pv 4) (pa_cons (pe_ix ix_tup (pv 2) pe_int (fun _ _ => rfl)) (pa_cons (pe_ix ix_tup (pv 3) pe_int (fun _ _ => rfl)) pa_nil))))) pa_nil)))))
 pss_nil)
 (pss_cons (ps_set (i := 5) sc_opened.nd rfl (Or.inl rfl) (pe_tup (pa_cons pe_str (pa_cons (pe_call G_moved hr rfl m_moved k_moved b_moved .nil pass0 (pa_cons (pv 3) (pa_cons (pe_callB call_len_seq rfl T.len_ (by decide +kernel) (pa_cons (pv 1) pa_nil)) (pa_cons pe_int pa_nil)))) (pa_cons (pe_tup (pa_cons pe_str (pa_cons (pe_callB call_len_seq rfl T.len_ (by decide +kernel) (pa_cons (pv 1) pa_nil)) pa_nil))) pa_nil)))))
 (pss_one (ps_ret (pe_tup (pa_cons pe_str (pa_cons (pe_call G_opened hr rfl m_opened k_opened b_opened .nil pass0 (pa_cons (pv 0) (pa_cons (pv 4) (pa_cons (pe_ix ix_tup (pv 2) pe_int (fun _ _ => rfl)) (pa_cons (pv 5) pa_nil))))) pa_nil))))))))
 pss_nil)
 (pss_cons (ps_par (i := 6) (j := 7) rfl sc_opened.nd rfl rfl (by decide) rfl rfl (pa_cons (pe_tup (pa_cons pe_str (pa_cons (pv 3) pa_nil))) (pa_cons (pe_tup (pa_cons pe_str (pa_cons (pv 3) pa_nil))) pa_nil)) rfl)
 (pss_cons (ps_if (pt_cmpR op_eq (pe_ix ix_tup (pv 3) pe_int (fun _ _ => rfl)) pe_str (nomark _))
 (pss_one (ps_par (i := 6) (j := 7) rfl sc_opened.nd rfl rfl (by decide) rfl rfl (pa_cons (pe_ix ix_tup (pv 3) pe_int (fun _ _ => rfl)) (pa_cons (pe_ix ix_tup (pv 3) pe_int (fun _ _ => rfl)) pa_nil)) rfl))
 pss_nil)
 (pss_one (ps_ret (pe_tup (pa_cons pe_str (pa_cons (pe_call G_opened hr rfl m_opened k_opened b_opened .nil pass0 (pa_cons (pv 0) (pa_cons (pv 1) (pa_cons (pe_ix ix_tup (pv 2) pe_int (fun _ _ => rfl)) (pa_cons (pv 6) pa_nil))))) (pa_cons (pe_call G_opened hr rfl m_opened k_opened b_opened .nil pass0 (pa_cons (pv 0) (pa_cons (pv 1) (pa_cons (pe_ix ix_tup (pv 2) pe_int (fun _ _ => rfl)) (pa_cons (pv 7) pa_nil))))) pa_nil)))))))))), ?_⟩
      refine Go.run (K := K) (B := H) ?_ (.refl H)
      have fin : ∀ v H1, Up K H H H1 → Im K H1 v (dd d') → Q v H1 := fun v H1 u hv => q v H1 u.1 hv
      have op : ∀ {σ : St} {H1 : Hp} {E : XK} {i : Nat} {tk te : TE} {Γ' : List Kd} {k : Kd} {d d' : Dd} {vg : V}, Op bk true c Γ' k d d' → Γ'.length ≤ Γ.length + 1 → σ[0]? = some (some vb) → σ[i]? = some (some vg) → Im K H1 vg (.tuple (Γ'.map kd)) → Ev K H tk σ H1 (kd k) → Ev K H te σ H1 (dd d) →
          Ev K H (tCall (spOp K c) [] E (tCons (tVar 0) (tCons (tVar i) (tCons tk (tCons te tNil))))) σ H1 (dd d') := fun {σ H1 E i tk te Γ' k d d' vg} ho hlen e0 e1 hg hk he =>
        ev_callR (er_Bk e0 hb (er_D (ev_var e1 hg) (er_D hk (er_D he er_nil)))) fun vs H2 Q' E' u ⟨x0, vs1, q1, hx0, x1, vs2, q2, hx1, x2, vs3, q3, hx2, x3, vs4, q4, hx3, q5⟩ q' => by
          subst q5 q4 q3 q2 q1
          exact ⟨bk, Γ', k, d, d', x0, x1, x2, x3, ho, hn, by omega, rfl, hx0, hx1, hx2, hx3, q'⟩
      have inr : ∀ (a b : Kd), k = .way a b → Ev K H (tOp (rCatA K) (tVar 1) (tTup (tCons (tOp (rIxT K) (tVar 2) (tC (.int 1))) tNil))) (L2.start nm_opened [vb, v1, v2, v3]) H (.tuple ((Γ ++ [a]).map kd)) := fun a b e => by
        subst e
        exact (ev_cat (ev_var rfl h1) (ev_tup (ea_cons (ev_ix (ev_var rfl h2) ev_int rfl) ea_nil) (by simp)) (by simp; omega)).is (by rw [List.map_append]; rfl)
      cases hop with
      | @name _ _ s k' _ _ ho =>
        refine go_ifs (b := true) (et_B (ev_isi (ev_var rfl h2) k_ss)) (fun _ => ?_) (fun z => nomatch z)
        refine go_ret (ev_ix (ds := [dd d', kd k']) (ev_callR (er_Bk rfl hb (er_D (ev_var rfl h1) (er_D (ev_var rfl h3) er_nil))) fun vs H2 Q' E' u ⟨x0, vs1, q1, hx0, x1, vs2, q2, hx1, x2, vs3, q3, hx2, q4⟩ q' => ?_) ev_int rfl) fin
        subst q4 q3 q2 q1
        exact ⟨bk, Γ, k', d, d', x0, x1, x2, ho, hn, by omega, rfl, hx0, hx1, hx2, q'⟩
      | @turn _ _ a b x x' ho =>
        refine go_ifs (b := false) (et_B (ev_isi (ev_var rfl h2) k_ts)) (fun z => nomatch z) (fun _ => ?_)
        refine go_ifs (b := true) (et_word rfl h2 (by decide +kernel)) (fun _ => ?_) (fun z => nomatch z)
        refine go_set (inr a b rfl) fun vi H1 u1 hi => ?_
        refine go_ifs (b := true) (et_word (i := 3) rfl (h3.keep u1.2) (by decide +kernel)) (fun _ => ?_) (fun z => nomatch z)
        exact go_ret (ev_tup (ea_cons ev_str (ea_cons (op ho (by simp) rfl rfl hi (ev_ix (ev_var (i := 2) rfl (h2.keep u1.2)) ev_int rfl) (ev_ix (ev_var (i := 3) rfl (h3.keep u1.2)) ev_int rfl)) ea_nil)) (by simp)) fun v H3 u3 => fin v H3 ⟨u3.1, u1.2.trans u3.2⟩
      | @eta _ _ a b _ x' hnt ho =>
        refine go_ifs (b := false) (et_B (ev_isi (ev_var rfl h2) k_ts)) (fun z => nomatch z) (fun _ => ?_)
        refine go_ifs (b := true) (et_word rfl h2 (by decide +kernel)) (fun _ => ?_) (fun z => nomatch z)
        refine go_set (inr a b rfl) fun vi H1 u1 hi => ?_
        obtain ⟨x, r, ed, hx⟩ := wd_nt hnt
        have hdep : d.depth ≤ N := by
          have := op_depth ho
          simp only [Dd.depth, Dd.depth_moved] at this
          omega
        have hlG : ∀ {σ : St} {H2 : Hp}, TK K H1 H2 → σ[1]? = some (some v1) → Ev K H (tCB (fun xs H Q => ∃ p ys, xs = [V.ref p] ∧ (SqL K H p ys ∨ SqT K H p ys) ∧ Q (.int ys.length) H) (tCons (tVar 1) tNil)) σ H2 (.int (Γ.length : Nat)) := fun t e => (ev_lenT (ev_var e (h1.keep (u1.2.trans t)))).is (by rw [List.length_map])
        refine go_ifs (b := false) (et_word (i := 3) rfl ((show Im K H v3 (.tuple (.str x :: r)) from ed ▸ h3).keep u1.2) hx) (fun z => nomatch z) (fun _ => ?_)
        refine go_set (d := dd (.dod (Dd.moved Γ.length 1 d) (.spot Γ.length))) (ev_tup (ea_cons ev_str (ea_cons (ev_call (ea_cons (ev_var (i := 3) rfl (h3.keep u1.2)) (ea_cons (hlG (.refl _) rfl) (ea_cons ev_int ea_nil))) ⟨d, Γ.length, 1, hdep, rfl, rfl⟩) (ea_cons (ev_tup (ea_cons ev_str (ea_cons (hlG (.refl _) rfl) ea_nil)) (by simp)) ea_nil))) (by simp)) fun vd H2 u2 hd2 => ?_
        exact go_ret (ev_tup (ea_cons ev_str (ea_cons (op ho (by simp) rfl rfl (hi.keep u2.2) (ev_ix (ev_var (i := 2) rfl (h2.keep (u1.2.trans u2.2))) ev_int rfl) (ev_var (i := 5) rfl hd2)) ea_nil)) (by simp)) fun v H3 u3 => fin v H3 ⟨u3.1, u1.2.trans (u2.2.trans u3.2)⟩
      | @both _ _ a b x y x' y' ha hb' =>
        refine go_ifs (b := false) (et_B (ev_isi (ev_var rfl h2) k_ts)) (fun z => nomatch z) (fun _ => ?_)
        refine go_ifs (b := false) (et_word rfl h2 (by decide +kernel)) (fun z => nomatch z) (fun _ => ?_)
        refine go_seq (go_par (ea_cons (ev_tup (ea_cons ev_str (ea_cons (ev_var rfl h3) ea_nil)) (by simp)) (ea_cons (ev_tup (ea_cons ev_str (ea_cons (ev_var rfl h3) ea_nil)) (by simp)) ea_nil)) fun w1 w2 H1 u1 _ _ => ?_)
        refine Go.run (K := K) (B := H) (H := H1) ?_ u1.1
        refine go_ifs (b := true) (et_word (i := 3) rfl (h3.keep u1.2) (by decide +kernel)) (fun _ => ?_) (fun z => nomatch z)
        refine go_par (ea_cons (ev_ix (ev_var (i := 3) rfl (h3.keep u1.2)) ev_int rfl) (ea_cons (ev_ix (ev_var (i := 3) rfl (h3.keep u1.2)) ev_int rfl) ea_nil)) fun w1 w2 H2 u2 hw1 hw2 => ?_
        have tk := u1.2.trans u2.2
        refine Go.run (K := K) (B := H) (H := H2) ?_ u2.1
        exact go_ret (ev_tup (ea_cons ev_str (ea_cons (op ha (by omega) rfl rfl (h1.keep tk) (ev_ix (ev_var (i := 2) rfl (h2.keep tk)) ev_int rfl) (ev_var (i := 6) rfl hw1)) (ea_cons (op hb' (by omega) rfl rfl (h1.keep tk) (ev_ix (ev_var (i := 2) rfl (h2.keep tk)) ev_int rfl) (ev_var (i := 7) rfl hw2)) ea_nil))) (by simp)) fun v H3 u3 => fin v H3 ⟨u3.1, tk.trans u3.2⟩
      | @etap _ _ a b _ x' y' hnb ha hb' =>
        refine go_ifs (b := false) (et_B (ev_isi (ev_var rfl h2) k_ts)) (fun z => nomatch z) (fun _ => ?_)
        refine go_ifs (b := false) (et_word rfl h2 (by decide +kernel)) (fun z => nomatch z) (fun _ => ?_)
        refine go_seq (go_par (a := dd (.first d)) (b := dd (.second d)) (ea_cons (ev_tup (ea_cons ev_str (ea_cons (ev_var rfl h3) ea_nil)) (by simp)) (ea_cons (ev_tup (ea_cons ev_str (ea_cons (ev_var rfl h3) ea_nil)) (by simp)) ea_nil)) fun w1 w2 H1 u1 hw1 hw2 => ?_)
        refine Go.run (K := K) (B := H) (H := H1) ?_ u1.1
        obtain ⟨x, r, ed, hx⟩ := wd_nb hnb
        refine go_ifs (b := false) (et_word (i := 3) rfl ((show Im K H v3 (.tuple (.str x :: r)) from ed ▸ h3).keep u1.2) hx) (fun z => nomatch z) (fun _ => ?_)
        exact go_ret (ev_tup (ea_cons ev_str (ea_cons (op ha (by omega) rfl rfl (h1.keep u1.2) (ev_ix (ev_var (i := 2) rfl (h2.keep u1.2)) ev_int rfl) (ev_var (i := 6) rfl hw1)) (ea_cons (op hb' (by omega) rfl rfl (h1.keep u1.2) (ev_ix (ev_var (i := 2) rfl (h2.keep u1.2)) ev_int rfl) (ev_var (i := 7) rfl hw2)) ea_nil))) (by simp)) fun v H3 u3 => fin v H3 ⟨u3.1, u1.2.trans u3.2⟩
end Fw
set_option Elab.async false
set_option linter.all false
set_option maxRecDepth 100000
set_option maxHeartbeats 1000000
namespace Fw
open PySem L2 Fd
section
variable {K : PySem.W.Frag} {B H H1 H2 : Hp} {σ : St} {ta tb te : TE} {v : V} {d : PyData} {D : Ends} {t2 : TS} {tr : TA}
theorem inV_ints {n : Int} : ∀ {xs : List V} {ns : List Int}, ImAll K H xs (ns.map PyData.int) → xs.all flatV = true ∧ inV (.int n) xs = decide (n ∈ ns)
  | _, [], .nil => ⟨rfl, rfl⟩
  | _, t :: ss, .cons h q => by
    obtain ⟨h1, h2⟩ := inV_ints (n := n) (ns := ss) q
    cases h
    refine ⟨by rw [List.all_cons, h1]; rfl, ?_⟩
    show (eqV (.int t) (.int n) || inV (.int n) _) = _
    rw [h2]
    by_cases e : t = n
    · subst e; simp [eqV]
    · have e' : ¬ n = t := fun z => e z.symm
      simp [eqV, e, e']
/-- a number not in a list that stands -/
theorem ev_ninI {p : Addr} {ws : List V} {n : Int} {ns : List Int} (ha : Ev K B ta σ H (.int n)) (hb : EvX K B tb σ H (.ref p)) (hp : SqL K B p ws) (hm : ImAll K H ws (ns.map .int)) : Ev K B (tOp (rIn K true) ta tb) σ H (.bool (!decide (n ∈ ns))) := fun H1 u Q q =>
  ha H1 u _ fun v H2 s2 m => hb H2 (u.then s2) _ fun H3 s3 => by
    obtain ⟨h1, h2⟩ := inV_ints (n := n) hm
    have e := m.int_inv
    subst e
    refine ⟨p, ws, rfl, .inl (((u.then s2).then s3).1.seq hp), rfl, h1, ?_⟩
    rw [h2]
    exact q _ H3 (s2.trans s3) (.bl _)
/-- a name in a list that stands -/
theorem ev_inSL {p : Addr} {ws : List V} {s : Str} {ss : List Str} (ha : Ev K B ta σ H (.str s)) (hb : EvX K B tb σ H (.ref p)) (hp : SqL K B p ws) (hm : ImAll K H ws (ss.map .str)) : Ev K B (tOp (rIn K false) ta tb) σ H (.bool (decide (s ∈ ss))) := fun H1 u Q q =>
  ha H1 u _ fun v H2 s2 m => hb H2 (u.then s2) _ fun H3 s3 => by
    obtain ⟨h1, h2⟩ := inV_strs (s := s) hm
    have e := m.str_inv
    subst e
    refine ⟨p, ws, rfl, .inl (((u.then s2).then s3).1.seq hp), rfl, h1, ?_⟩
    rw [h2]
    exact q _ H3 (s2.trans s3) (.bl _)
/-- a call with one number filled up -/
theorem ev_call0 {rel : List PyData → PyData → Prop} {E : XK} {ds : List PyData} {i : Int} (h : EvA K B tr σ H ds) (hr : rel (ds ++ [.int i]) d) : Ev K B (tCall (spI K rel) [.int i] E tr) σ H d := fun H1 u Q q =>
  h H1 u _ fun vs H2 s2 m => ⟨ds ++ [.int i], d, hr, m.append (.one (.int i)), fun v H3 s3 m3 => q v H3 (s2.trans s3) m3⟩
end
/-- a def whose last parameter is 0 if not given -/
def Cal0 (P : Program) (w : World) (K : PySem.W.Frag) (mg : Str → Option Value) (base : Heap) (n : Nat) (x : Str) (ps : List Str) (sp : Sp) : Prop :=
  ∃ f fd t, FnOk P w K mg base CX0 n f fd ps sp ∧ mg x = some (.ref f) ∧ PySem.W.keepIn K (.ref f) = true ∧ Binds K fd ps [.int 0 t]
theorem Cal0.mono {P : Program} {w : World} {K : PySem.W.Frag} {mg : Str → Option Value} {base : Heap} {n m : Nat} {x : Str} {ps : List Str} {sp : Sp} (h : Cal0 P w K mg base n x ps sp) (hm : n ≤ m) : Cal0 P w K mg base m x ps sp := by
  obtain ⟨f, fd, t, F, r⟩ := h
  exact ⟨f, fd, t, F.mono hm, r⟩
variable {P : Program} {w : World} {K : PySem.W.Frag} {mg : Str → Option Value} {base : Heap}
/-! ### settled kinds are not loosened -/
abbrev s_loosened : Stmt := top 21
abbrev nm_loosened : List Str := ["kind", "numbers"]
theorem sc_loosened : FnScope nm_loosened ["kind", "numbers"] (defScope s_loosened) := ⟨rfl, rfl, rfl, by decide +kernel, rfl, by decide +kernel, by decide +kernel⟩
def spLoose (K : PySem.W.Frag) (n : Nat) : Sp := fun vs H Q _ => ∃ (k : Kd) (v1 v2 : V), k.depth < n ∧ k.settled ∧ namesK PN k ∧ vs = [v1, v2] ∧ Im K H v1 (kd k) ∧ ∀ v' H', Same H H' → Im K H' v' (kd k) → Q v' H'
theorem loosened_ok (T : Tx K mg) (D : Dfn K mg "loosened" s_loosened ["kind", "numbers"]) (CA : Cal P w K mg base 1 "is_any_name" ["thing"] (spI K rAny)) : ∀ n, Cal P w K mg base (n + 1) "loosened" ["kind", "numbers"] (spLoose K n) := by
  obtain ⟨f, fd, F, m_loosened, b_loosened⟩ := D
  have k_loosened := F.kp
  intro n
  refine ⟨f, fd, ?_, m_loosened, k_loosened, b_loosened⟩
  induction n with
  | zero => exact fn_none fun vs H Q E ⟨_, _, _, hx, _⟩ => absurd hx (by omega)
  | succ n G_loosened =>
    obtain ⟨_, _, G_is_any_name, m_is_any_name, k_is_any_name, b_is_any_name⟩ := CA.mono (show 1 ≤ n + 1 by omega)
    refine F.ok sc_loosened (fun vs H Q E ⟨_, _, _, _, _, _, e, _⟩ => by rw [e]; rfl) (fun cdv A outer s H vs Q E hr h => ?_)
    obtain ⟨k, v1, v2, hd, hs, hpn, rfl, h0, q⟩ := h
    have hu := u1 hr
    refine ⟨_, (pss_cons (ps_if (pt_val (pe_callB call_isi rfl T.isinstance_ (by decide +kernel) (pa_cons (pv 0) (pa_cons (pe_bltn (v := .ty "str") rfl T.str_ (by decide +kernel) rfl) pa_nil))))
 (pss_cons (ps_if (pt_not (pt_val (pe_call G_is_any_name hr rfl m_is_any_name k_is_any_name b_is_any_name .nil pass0 (pa_cons (pv 0) pa_nil))))
 (pss_one (ps_ret (pv 0)))
 pss_nil)
 (pss_cons (ps_if (pt_cmp (pc_dnotin hu (pv 0) (pv 1)))
 (pss_one (ps_dput hu (pv 1) (pv 0) (pe_callB call_len_seq rfl T.len_ (by decide +kernel) (pa_cons (pv 1) pa_nil)) rfl))
 pss_nil)
 (pss_one (ps_ret (pe_ix ix_tup (pv 1) (pv 0) (fun _ _ => rfl))))))
 pss_nil)
 (pss_one (ps_ret (pe_tup (pa_cons (pe_ix ix_tup (pv 0) pe_int (fun _ _ => rfl)) (pa_cons (pe_call G_loosened hr rfl m_loosened k_loosened b_loosened .nil pass0 (pa_cons (pe_ix ix_tup (pv 0) pe_int (fun _ _ => rfl)) (pa_cons (pv 1) pa_nil))) (pa_cons (pe_call G_loosened hr rfl m_loosened k_loosened b_loosened .nil pass0 (pa_cons (pe_ix ix_tup (pv 0) pe_int (fun _ _ => rfl)) (pa_cons (pv 1) pa_nil))) pa_nil))))))), ?_⟩
    refine Go.run (K := K) (B := H) ?_ (.refl H)
    have fin : ∀ v H1, Up K H H H1 → Im K H1 v (kd k) → Q v H1 := fun v H1 u hv => q v H1 u.1 hv
    have sub : ∀ {E : XK} {te : TE} {a : Kd}, a.depth < n → a.settled → namesK PN a → Ev K H te (L2.start nm_loosened [v1, v2]) H (kd a) → Ev K H (tCall (spLoose K n) [] E (tCons te (tCons (tVar 1) tNil))) (L2.start nm_loosened [v1, v2]) H (kd a) := fun {E te a} h1 h2 h3 he =>
      ev_callR (er_D he (er_X (ex_var rfl) er_nil)) fun vs H2 Q' E' u ⟨x0, vs1, q1, hx0, vs2, q2, q3⟩ q' => by
        subst q3 q2 q1
        exact ⟨a, x0, v2, h1, h2, h3, rfl, hx0, q'⟩
    rcases kd_settled hs with ⟨s, rfl⟩ | ⟨a, b, rfl, ha, hb⟩ | ⟨a, b, rfl, ha, hb⟩
    · refine go_ifs (b := true) (et_B (ev_isi (ev_var rfl h0) k_ss)) (fun _ => ?_) (fun z => nomatch z)
      refine go_ifs (b := true) (et_not (a := false) (et_B (ev_call (ea_cons (ev_var rfl h0) ea_nil) ⟨s, hpn, rfl, rfl⟩))) (fun _ => ?_) (fun z => nomatch z)
      exact go_ret (ev_var rfl h0) fin
    · simp only [Kd.depth] at hd
      refine go_ifs (b := false) (et_B (ev_isi (ev_var rfl h0) k_ts)) (fun z => nomatch z) (fun _ => ?_)
      exact go_ret (ev_tup (ea_cons (ev_word rfl h0) (ea_cons (sub (by omega) ha hpn.1 (ev_ix (ev_var rfl h0) ev_int rfl)) (ea_cons (sub (by omega) hb hpn.2 (ev_ix (ev_var rfl h0) ev_int rfl)) ea_nil))) (by simp)) fin
    · simp only [Kd.depth] at hd
      refine go_ifs (b := false) (et_B (ev_isi (ev_var rfl h0) k_ts)) (fun z => nomatch z) (fun _ => ?_)
      exact go_ret (ev_tup (ea_cons (ev_word rfl h0) (ea_cons (sub (by omega) ha hpn.1 (ev_ix (ev_var rfl h0) ev_int rfl)) (ea_cons (sub (by omega) hb hpn.2 (ev_ix (ev_var rfl h0) ev_int rfl)) ea_nil))) (by simp)) fin
/-! ### letters for numbers -/
abbrev s_lettered : Stmt := top 23
abbrev nm_lettered : List Str := ["kind", "letters"]
theorem sc_lettered : FnScope nm_lettered ["kind", "letters"] (defScope s_lettered) := ⟨rfl, rfl, rfl, by decide +kernel, rfl, by decide +kernel, by decide +kernel⟩
def spLett (K : PySem.W.Frag) (n : Nat) : Sp := fun vs H Q _ => ∃ (k : Kd) (L : Nat → Str) (v1 : V) (p : Addr), k.depth < n ∧ vs = [v1, .ref p] ∧ Im K H v1 (kd k) ∧ (∀ i, Fd.inK i k → ∃ kvs, H p = some (.dK kvs) ∧ valV kvs (Sum.inl (i : Int)) = some (.str (L i))) ∧
  ∀ v' H', Same H H' → Im K H' v' (kd (Kd.sub (fun i => .nm (L i)) k)) → Q v' H'
theorem lettered_ok (T : Tx K mg) (D : Dfn K mg "lettered" s_lettered ["kind", "letters"]) : ∀ n, Cal P w K mg base n "lettered" ["kind", "letters"] (spLett K n) := by
  obtain ⟨f, fd, F, m_lettered, b_lettered⟩ := D
  have k_lettered := F.kp
  intro n
  refine ⟨f, fd, ?_, m_lettered, k_lettered, b_lettered⟩
  induction n with
  | zero => exact fn_none fun vs H Q E ⟨_, _, _, _, hx, _⟩ => absurd hx (by omega)
  | succ n G_lettered =>
    refine F.ok sc_lettered (fun vs H Q E ⟨_, _, _, _, _, e, _⟩ => by rw [e]; rfl) (fun cdv A outer s H vs Q E hr h => ?_)
    obtain ⟨k, L, v1, p, hd, rfl, h0, hL, q⟩ := h
    have hu := u1 hr
    refine ⟨_, (pss_cons (ps_if (pt_val (pe_callB call_isi rfl T.isinstance_ (by decide +kernel) (pa_cons (pv 0) (pa_cons (pe_bltn (v := .ty "int") rfl T.int_ (by decide +kernel) rfl) pa_nil))))
 (pss_one (ps_ret (pe_dget hu (pv 1) (pv 0) (fun _ _ => rfl))))
 pss_nil)
 (pss_cons (ps_if (pt_val (pe_callB call_isi rfl T.isinstance_ (by decide +kernel) (pa_cons (pv 0) (pa_cons (pe_bltn (v := .ty "str") rfl T.str_ (by decide +kernel) rfl) pa_nil))))
 (pss_one (ps_ret (pv 0)))
 pss_nil)
 (pss_one (ps_ret (pe_tup (pa_cons (pe_ix ix_tup (pv 0) pe_int (fun _ _ => rfl)) (pa_cons (pe_call G_lettered hr rfl m_lettered k_lettered b_lettered .nil pass0 (pa_cons (pe_ix ix_tup (pv 0) pe_int (fun _ _ => rfl)) (pa_cons (pv 1) pa_nil))) (pa_cons (pe_call G_lettered hr rfl m_lettered k_lettered b_lettered .nil pass0 (pa_cons (pe_ix ix_tup (pv 0) pe_int (fun _ _ => rfl)) (pa_cons (pv 1) pa_nil))) pa_nil)))))))), ?_⟩
    refine Go.run (K := K) (B := H) ?_ (.refl H)
    have fin : ∀ v H1, Up K H H H1 → Im K H1 v (kd (Kd.sub (fun i => .nm (L i)) k)) → Q v H1 := fun v H1 u hv => q v H1 u.1 hv
    have sub : ∀ {E : XK} {te : TE} {a : Kd}, a.depth < n → (∀ i, Fd.inK i a → Fd.inK i k) → Ev K H te (L2.start nm_lettered [v1, .ref p]) H (kd a) → Ev K H (tCall (spLett K n) [] E (tCons te (tCons (tVar 1) tNil))) (L2.start nm_lettered [v1, .ref p]) H (kd (Kd.sub (fun i => .nm (L i)) a)) := fun {E te a} h1 h2 he =>
      ev_callR (er_D he (er_X (ex_var rfl) er_nil)) fun vs H2 Q' E' u ⟨x0, vs1, q1, hx0, vs2, q2, q3⟩ q' => by
        subst q3 q2 q1
        refine ⟨a, L, x0, p, h1, rfl, hx0, fun i hi => ?_, q'⟩
        obtain ⟨kvs, h3, h4⟩ := hL i (h2 i hi)
        exact ⟨kvs, u.1 _ _ h3, h4⟩
    cases k with
    | nm s =>
      refine go_ifs (b := false) (et_B (ev_isi (ev_var rfl h0) k_si)) (fun z => nomatch z) (fun _ => ?_)
      refine go_ifs (b := true) (et_B (ev_isi (ev_var rfl h0) k_ss)) (fun _ => ?_) (fun z => nomatch z)
      exact go_ret (ev_var rfl h0) fin
    | num n =>
      refine go_ifs (b := true) (et_B (ev_isi (ev_var rfl h0) k_ii)) (fun _ => ?_) (fun z => nomatch z)
      obtain ⟨kvs, h3, h4⟩ := hL n rfl
      have ev := h0.int_inv
      subst ev
      intro H1 u
      refine ⟨.ref p, rfl, .int n, rfl, p, .str (L n), rfl, ?_, fin (.str (L n)) H1 u (.str _)⟩
      have := DGet.k (k := (Sum.inl (n : Int) : Key)) (u.1 _ _ h3)
      rw [h4] at this
      exact this
    | way a b =>
      simp only [Kd.depth] at hd
      refine go_ifs (b := false) (et_B (ev_isi (ev_var rfl h0) k_ti)) (fun z => nomatch z) (fun _ => ?_)
      refine go_ifs (b := false) (et_B (ev_isi (ev_var rfl h0) k_ts)) (fun z => nomatch z) (fun _ => ?_)
      exact go_ret (ev_tup (ea_cons (ev_word rfl h0) (ea_cons (sub (by omega) (fun i hi => .inl hi) (ev_ix (ev_var rfl h0) ev_int rfl)) (ea_cons (sub (by omega) (fun i hi => .inr hi) (ev_ix (ev_var rfl h0) ev_int rfl)) ea_nil))) (by simp)) fin
    | pair a b =>
      simp only [Kd.depth] at hd
      refine go_ifs (b := false) (et_B (ev_isi (ev_var rfl h0) k_ti)) (fun z => nomatch z) (fun _ => ?_)
      refine go_ifs (b := false) (et_B (ev_isi (ev_var rfl h0) k_ts)) (fun z => nomatch z) (fun _ => ?_)
      exact go_ret (ev_tup (ea_cons (ev_word rfl h0) (ea_cons (sub (by omega) (fun i hi => .inl hi) (ev_ix (ev_var rfl h0) ev_int rfl)) (ea_cons (sub (by omega) (fun i hi => .inr hi) (ev_ix (ev_var rfl h0) ev_int rfl)) ea_nil))) (by simp)) fin
end Fw
set_option Elab.async false
set_option linter.all false
set_option maxRecDepth 100000
set_option maxHeartbeats 1000000
namespace Fw
open PySem L2 Fd
variable {P : Program} {w : World} {K : PySem.W.Frag} {mg : Str → Option Value} {base : Heap}
/-! ### numbers in a kind -/
theorem numsIn_len (k : Kd) : (numsIn k).length ≤ Kd.size k := by
  induction k with
  | nm s => simp [numsIn, Kd.size]
  | num n => simp [numsIn, Kd.size]
  | way a b i1 i2 =>
    have := List.length_filter_le (fun n => !(numsIn a).contains n) (numsIn b)
    simp only [numsIn, Kd.size, List.length_append]; omega
  | pair a b i1 i2 =>
    have := List.length_filter_le (fun n => !(numsIn a).contains n) (numsIn b)
    simp only [numsIn, Kd.size, List.length_append]; omega
theorem take_le {α : Type} (i : Nat) (l : List α) : (l.take i).length ≤ l.length := by rw [List.length_take]; omega
def intsN (ns : List Nat) : List PyData := ns.map fun (n : Nat) => PyData.int (n : Int)
abbrev s_numbers_in : Stmt := top 28
abbrev nm_numbers_in : List Str := ["kind", "found", "number"]
theorem sc_numbers_in : FnScope nm_numbers_in ["kind"] (defScope s_numbers_in) := ⟨rfl, rfl, rfl, by decide +kernel, rfl, by decide +kernel, by decide +kernel⟩
def rNums (n : Nat) : List PyData → List PyData → Prop := fun ds r => ∃ k : Kd, k.depth < n ∧ k.size ≤ 90000 ∧ ds = [kd k] ∧ r = intsN (numsIn k)
theorem numbers_in_ok (T : Tx K mg) (D : Dfn K mg "numbers_in" s_numbers_in ["kind"]) : ∀ n, Cal P w K mg base n "numbers_in" ["kind"] (spL K (rNums n)) := by
  obtain ⟨f, fd, F, m_numbers_in, b_numbers_in⟩ := D
  have k_numbers_in := F.kp
  intro n
  refine ⟨f, fd, ?_, m_numbers_in, k_numbers_in, b_numbers_in⟩
  induction n with
  | zero => exact fn_none fun vs H Q E ⟨ds, d, ⟨x, hx, _⟩, _⟩ => absurd hx (by omega)
  | succ n G_numbers_in =>
    refine F.ok sc_numbers_in (spL_len fun ds d ⟨_, _, _, e, _⟩ => by rw [e]; rfl) (fun cdv A outer s H vs Q E hr h => ?_)
    obtain ⟨ds, r, ⟨k, hd, hz, rfl, rfl⟩, hm, q⟩ := h
    obtain ⟨v, rfl, h0⟩ := inv1 hm
    refine ⟨_, (pss_cons (ps_if (pt_val (pe_callB call_isi rfl T.isinstance_ (by decide +kernel) (pa_cons (pv 0) (pa_cons (pe_bltn (v := .ty "int") rfl T.int_ (by decide +kernel) rfl) pa_nil))))
 (pss_one (ps_ret (pe_lst (pa_cons (pv 0) pa_nil))))
 pss_nil)
 (pss_cons (ps_if (pt_val (pe_callB call_isi rfl T.isinstance_ (by decide +kernel) (pa_cons (pv 0) (pa_cons (pe_bltn (v := .ty "str") rfl T.str_ (by decide +kernel) rfl) pa_nil))))
 (pss_one (ps_ret (pe_lst pa_nil)))
 pss_nil)
 (pss_cons (ps_set (i := 1) sc_numbers_in.nd rfl (Or.inr rfl) (pe_call G_numbers_in hr rfl m_numbers_in k_numbers_in b_numbers_in .nil pass0 (pa_cons (pe_ix ix_tup (pv 0) pe_int (fun _ _ => rfl)) pa_nil)))
 (pss_one (ps_ret (pe_op op_cat (pv 1) (pe_lc (own := [("number", 2)]) (g := gName 2) rfl sc_numbers_in.nd (pi_list (pe_call G_numbers_in hr rfl m_numbers_in k_numbers_in b_numbers_in .nil pass0 (pa_cons (pe_ix ix_tup (pv 0) pe_int (fun _ _ => rfl)) pa_nil))) (blkOk_by (own := [("number", 2)]) (N := nm_numbers_in) (sc := defScope s_numbers_in) (by decide +kernel)) (fun _ _ _ _ _ => (pg_name (i := 2) sc_numbers_in.nd rfl (Or.inl rfl))) (fun _ _ _ _ _ => (pts_one (pt_cmpR (ninK (K := K) rfl) (pv 2) (pv 1) rfl))) (fun _ _ _ _ _ => (pv 2))))))))), ?_⟩
    refine Go.run (K := K) (B := H) ?_ (.refl H)
    have fin : ∀ p vs H1, H p = none → Up K H H H1 → H1 p = some (.lst vs) → ImAll K H1 vs (intsN (numsIn k)) → Q (.ref p) H1 := fun p vs H1 hp u h1 h2 => q p vs H1 hp u.1 h1 h2
    have two : ∀ (x : Str) (a b : Kd), kd k = .tuple [.str x, kd a, kd b] → numsIn k = numsIn a ++ (numsIn b).filter (fun n => !(numsIn a).contains n) → a.depth < n → b.depth < n → a.size + b.size < k.size →
        Go K H (tSeq (tAsg (tCall (spL K (rNums n)) [] E0 (tCons (tOp (rIxT K) (tVar 0) (tC (.int 1))) tNil)) (gName 1)) (tRet (tOp rCat (tVar 1) (tLc (iList K (tCall (spL K (rNums n)) [] E0 (tCons (tOp (rIxT K) (tVar 0) (tC (.int 2))) tNil))) (gName 2) (tTest (tOp (rIn K true) (tVar 2) (tVar 1))) (tVar 2) [2])))) { nx := fun x H' => Q V.non H', rt := Q } (L2.start nm_numbers_in [v]) H := fun x a b e1 e2 ha hb hz2 => by
      rw [e1] at h0
      rw [e2] at fin
      have la := numsIn_len a
      have lb := numsIn_len b
      refine go_setL (el_call (ea_cons (ev_ix (ev_var rfl h0) ev_int rfl) ea_nil) ⟨a, ha, by omega, rfl, rfl⟩) fun l ws H1 hl u1 hl1 m1 => ?_
      refine Go.run (K := K) (B := H1) (H := H1) ?_ (.refl H1)
      refine go_retL (el_cat (ex_var (i := 1) rfl) hl1 m1 (el_lcM (ds := intsN (numsIn b)) (ac := fun i => intsN (((numsIn b).take i).filter fun n => !(numsIn a).contains n)) (el_call (ea_cons (ev_ix (ev_var (i := 0) rfl (h0.keep u1.2)) ev_int rfl) ea_nil) ⟨b, hb, by omega, rfl, rfl⟩) (by simp [intsN]) (fun i hi => ?_) fun i d v H2 hd u2 hv => ?_) ?_) fun p vs H2 hp u2 h2 m2 => fin p vs H2 (u1.1.free hp) ⟨u1.1.trans u2.1, u1.2.trans u2.2⟩ h2 ?_
      · have := List.length_filter_le (fun n => !(numsIn a).contains n) ((numsIn b).take i)
        have := take_le i (numsIn b)
        simp only [intsN, List.length_map]
        omega
      · unfold intsN at hd
        rw [List.getElem?_map] at hd
        cases e : (numsIn b)[i]? with
        | none => rw [e] at hd; cases hd
        | some n' =>
          rw [e] at hd
          cases hd
          refine ⟨!(numsIn a).contains n', (et_test (ev_ninI (n := (n' : Int)) (ns := (numsIn a).map fun (n : Nat) => (n : Int)) (ev_var rfl hv) (ex_var rfl) (SqL.of hl1) (by have := m1.keep u2.2; unfold intsN at this; rw [List.map_map]; exact this))).is ?_, fun z => ⟨.int n', ?_, ev_var rfl hv⟩, fun z => ?_⟩
          · congr 1
            by_cases q : n' ∈ numsIn a
            · rw [decide_eq_true (List.mem_map.mpr ⟨n', q, rfl⟩), List.contains_iff_mem.mpr q]
            · have q' : ¬ (n' : Int) ∈ (numsIn a).map fun (n : Nat) => (n : Int) := fun z => by
                obtain ⟨y, hy, ey⟩ := List.mem_map.mp z
                have : y = n' := by omega
                exact q (this ▸ hy)
              rw [decide_eq_false q']
              cases z : (numsIn a).contains n' with
              | false => rfl
              | true => exact absurd (List.contains_iff_mem.mp z) q
          · unfold intsN
            rw [List.take_succ, e, List.filter_append, List.map_append]
            simp only [Option.toList, List.filter_cons, z, if_true, List.filter_nil, List.map_cons, List.map_nil]
          · unfold intsN
            rw [List.take_succ, e, List.filter_append, List.map_append]
            simp only [Option.toList, List.filter_cons, z, List.filter_nil, List.map_nil, List.append_nil]
            simp
      · have := List.length_filter_le (fun n => !(numsIn a).contains n) (numsIn b)
        have := take_le (numsIn b).length (numsIn b)
        have := List.length_filter_le (fun n => !(numsIn a).contains n) ((numsIn b).take (intsN (numsIn b)).length)
        have := take_le (intsN (numsIn b)).length (numsIn b)
        simp only [intsN, List.length_map] at *
        omega
      · have e : (intsN (numsIn b)).length = (numsIn b).length := by simp [intsN]
        rw [e, List.take_length] at m2
        unfold intsN at m2 ⊢
        rw [List.map_append]
        exact m2
    cases k with
    | nm s =>
      refine go_ifs (b := false) (et_B (ev_isi (ev_var rfl h0) k_si)) (fun z => nomatch z) (fun _ => ?_)
      refine go_ifs (b := true) (et_B (ev_isi (ev_var rfl h0) k_ss)) (fun _ => ?_) (fun z => nomatch z)
      exact go_retL (el_lst ea_nil (by simp)) fin
    | num n =>
      refine go_ifs (b := true) (et_B (ev_isi (ev_var rfl h0) k_ii)) (fun _ => ?_) (fun z => nomatch z)
      exact go_retL (el_lst (ea_cons (ev_var rfl h0) ea_nil) (by simp)) fin
    | way a b =>
      simp only [Kd.depth] at hd
      refine go_ifs (b := false) (et_B (ev_isi (ev_var rfl h0) k_ti)) (fun z => nomatch z) (fun _ => ?_)
      refine go_ifs (b := false) (et_B (ev_isi (ev_var rfl h0) k_ts)) (fun z => nomatch z) (fun _ => ?_)
      exact two "way" a b rfl rfl (by omega) (by omega) (by simp only [Kd.size]; omega)
    | pair a b =>
      simp only [Kd.depth] at hd
      refine go_ifs (b := false) (et_B (ev_isi (ev_var rfl h0) k_ti)) (fun z => nomatch z) (fun _ => ?_)
      refine go_ifs (b := false) (et_B (ev_isi (ev_var rfl h0) k_ts)) (fun z => nomatch z) (fun _ => ?_)
      exact two "pair" a b rfl rfl (by omega) (by omega) (by simp only [Kd.size]; omega)
/-! ### names used -/
def usedF : Dd → List Str
  | .spot _ => []
  | .book s => [s]
  | .turn d => usedF d
  | .dod f e => usedF f ++ usedF e
  | .both f e => usedF f ++ usedF e
  | .first d => usedF d
  | .second d => usedF d
theorem usedF_len (d : Dd) : (usedF d).length ≤ d.size := by
  induction d <;> simp only [usedF, Dd.size, List.length_append, List.length_nil, List.length_cons] <;> omega
theorem Nod.used {d : Dd} {x : Str} {ps : List Dd} (h : Nod d x ps) : usedF d = (ps.map usedF).flatten := by
  cases h <;> simp [usedF]
theorem Nod.size1 {d : Dd} {x : Str} {ps : List Dd} (h : Nod d x ps) : ∀ p ∈ ps, p.size + 1 ≤ d.size := by
  cases h <;> intro p hp <;> simp only [List.mem_cons, List.not_mem_nil, or_false] at hp <;> (try rcases hp with rfl | rfl) <;> (try subst hp) <;> simp only [Dd.size] <;> omega
abbrev s_names_used : Stmt := top 26
abbrev nm_names_used : List Str := ["deed", "found", "part"]
theorem sc_names_used : FnScope nm_names_used ["deed"] (defScope s_names_used) := ⟨rfl, rfl, rfl, by decide +kernel, rfl, by decide +kernel, by decide +kernel⟩
def rUsed (n : Nat) : List PyData → List PyData → Prop := fun ds r => ∃ d : Dd, d.depth ≤ n ∧ d.size ≤ 10000 ∧ ds = [dd d] ∧ r = (usedF d).map .str
theorem used_ok (T : Tx K mg) (D : Dfn K mg "names_used" s_names_used ["deed"]) : ∀ n, Cal P w K mg base n "names_used" ["deed"] (spL K (rUsed n)) := by
  obtain ⟨f, fd, F, m_names_used, b_names_used⟩ := D
  have k_names_used := F.kp
  intro n
  refine ⟨f, fd, ?_, m_names_used, k_names_used, b_names_used⟩
  induction n with
  | zero => exact fn_none fun vs H Q E ⟨ds, d, ⟨x, hx, _⟩, _⟩ => absurd hx (by have := x.depth_pos; omega)
  | succ n G_names_used =>
    refine F.ok sc_names_used (spL_len fun ds d ⟨_, _, _, e, _⟩ => by rw [e]; rfl) (fun cdv A outer s H vs Q E hr h => ?_)
    obtain ⟨ds, r, ⟨d, hd, hz, rfl, rfl⟩, hm, q⟩ := h
    obtain ⟨v, rfl, h0⟩ := inv1 hm
    refine ⟨_, (pss_cons (ps_if (pt_cmpR op_eq (pe_ix ix_tup (pv 0) pe_int (fun _ _ => rfl)) pe_str (nomark _))
 (pss_one (ps_ret (pe_lst (pa_cons (pe_ix ix_tup (pv 0) pe_int (fun _ _ => rfl)) pa_nil))))
 pss_nil)
 (pss_cons (ps_set (i := 1) sc_names_used.nd rfl (Or.inl rfl) (pe_lst pa_nil))
 (pss_cons (ps_for PassesOwn.never rfl (pi_tup (pe_slice sl_tupA (pv 0) (po_some pe_int) po_none)) (pg_name (i := 2) sc_names_used.nd rfl (Or.inl rfl))
 (pss_one (ps_if (pt_val (pe_callB call_isi rfl T.isinstance_ (by decide +kernel) (pa_cons (pv 2) (pa_cons (pe_bltn (v := .ty "tuple") rfl T.tuple_ (by decide +kernel) rfl) pa_nil))))
 (pss_one (ps_expr (pe_bm PySem.F.plainAttrs_list PySem.F.slot_list_extend PySem.F.type_list_extend mt_extend (pv 1) (pa_cons (pe_call G_names_used hr rfl m_names_used k_names_used b_names_used .nil pass0 (pa_cons (pv 2) pa_nil)) pa_nil))))
 pss_nil)))
 (pss_one (ps_ret (pv 1)))))), ?_⟩
    refine Go.run (K := K) (B := H) ?_ (.refl H)
    have fin : ∀ p vs H1, H p = none → Up K H H H1 → H1 p = some (.lst vs) → ImAll K H1 vs ((usedF d).map .str) → Q (.ref p) H1 := fun p vs H1 hp u h1 h2 => q p vs H1 hp u.1 h1 h2
    rcases nod_cases d with ⟨n, rfl⟩ | ⟨x, rfl⟩ | ⟨x, ps, hn⟩
    · refine go_ifs (et_word rfl h0 (b := false) (by decide +kernel)) (fun z => nomatch z) (fun _ => ?_)
      refine go_setL (el_lst ea_nil (by simp)) fun l vs0 H1 hl u hl1 m0 => ?_
      cases m0
      refine go_seq (go_forT (B := H1) (H := H1) (ev_tail (i := 0) (r := [.int n]) rfl (h0.keep u.2)) fun H2 u2 => ⟨fun i σ' H' => (∃ x, σ' = [some v, some (.ref l), x]) ∧ Same H1 H' ∧ TK K H2 H', ⟨⟨none, rfl⟩, u2.1, .refl _⟩, fun i σ' H' z => z.2.2, fun i d x σ' H' hd' ⟨⟨y, e⟩, s, tk⟩ hx => ?_, fun σ' H' ⟨⟨y, e⟩, s, tk⟩ => ?_⟩) H1 (.refl (.refl _))
      · subst e
        match i, hd' with
        | 0, hd' =>
          cases hd'
          refine (go_if (K := K) (B := H') (H := H') (b := false) (et_B (ev_isi (ev_var (i := 2) rfl hx) k_it)) (fun z => nomatch z) (fun _ => go_next fun H6 u6 => ?_)) H' (.refl (.refl _))
          exact ⟨⟨_, rfl⟩, s.trans u6.1, tk.trans u6.2⟩
      · subst e
        exact ⟨_, rfl, fin l [] H' hl ⟨u.1.trans s, u.2.trans (.of s)⟩ (s _ _ hl1) .nil⟩
    · refine go_ifs (et_word rfl h0 (b := true) (by decide +kernel)) (fun _ => ?_) (fun z => nomatch z)
      exact go_retL (el_lst (ea_cons (ev_ix (ev_var rfl h0) ev_int rfl) ea_nil) (by simp)) fin
    · rw [hn.dd] at h0
      rw [hn.used] at fin
      refine go_ifs (et_word rfl h0 hn.book) (fun z => nomatch z) (fun _ => ?_)
      refine go_setL (el_lst ea_nil (by simp)) fun l vs0 H1 hl u hl1 m0 => ?_
      cases m0
      have hpl := hn.len
      refine go_seq (go_forT (B := H1) (H := H1) (ev_tail (i := 0) rfl (h0.keep u.2)) fun H2 u2 => ⟨fun i σ' H' => ∃ (x : Option V) (acc : List V), σ' = [some v, some (.ref l), x] ∧ Same H H' ∧ TK K H2 H' ∧ H' l = some (.lst acc) ∧ ImAll K H' acc ((((ps.take i).map usedF).flatten).map .str),
        ⟨none, [], rfl, u.1.trans u2.1, .refl _, u2.1 _ _ hl1, .nil⟩, fun i σ' H' ⟨_, _, _, _, t, _⟩ => t, fun i d x σ' H' hd' ⟨y, acc, e, s, tk, hl', ma⟩ hx => ?_, fun σ' H' ⟨y, acc, e, s, tk, hl', ma⟩ => ?_⟩) H1 (.refl (.refl _))
      · subst e
        rw [List.getElem?_map] at hd'
        cases e : ps[i]? with
        | none => rw [e] at hd'; cases hd'
        | some p =>
          rw [e] at hd'
          cases hd'
          have hmem := List.mem_of_getElem? e
          have hp1 := hn.depth p hmem
          have hp2 := hn.size1 p hmem
          have ty : tyD (dd p) = "tuple" := by cases p <;> rfl
          have hlen : acc.length ≤ 20000 := by
            rw [ma.length, List.length_map]
            have : ∀ qs : List Dd, (∀ p ∈ qs, p.size ≤ 10000) → ((qs.map usedF).flatten).length ≤ 10000 * qs.length := by
              intro qs
              induction qs with
              | nil => intro _; simp
              | cons p r ih =>
                intro h
                have h1 := ih fun q hq => h q (List.mem_cons_of_mem _ hq)
                have h2 := usedF_len p
                have h3 := h p List.mem_cons_self
                simp only [List.map_cons, List.flatten_cons, List.length_append, List.length_cons]
                omega
            have h1 := this (ps.take i) fun p hp => by have := hn.size1 p (List.mem_of_mem_take hp); omega
            have h2 := List.length_take_le i ps
            have h3 : (ps.take i).length ≤ ps.length := by rw [List.length_take]; omega
            have h4 := Nat.mul_le_mul_left 10000 h3
            omega
          refine (go_if (K := K) (B := H') (H := H') (b := true) (et_B (ev_isi (ev_var (i := 2) rfl hx) (by rw [ty]; exact k_tt))) (fun _ H6 u6 => ?_) (fun z => nomatch z)) H' (.refl (.refl _))
          refine ⟨_, rfl, .inl ⟨rfl, _, SqL.of (u6.1 _ _ hl')⟩, ?_⟩
          refine (el_call (ea_cons (ev_var (i := 2) rfl hx) ea_nil) ⟨p, by omega, by omega, rfl, rfl⟩ : EvL K H' (tCall (spL K (rUsed n)) [] E0 (tCons (tVar 2) tNil)) [some v, some (.ref l), some x] H' ((usedF p).map .str)) H6 u6 _ fun b ws H3 hb s3 hb3 m3 => ?_
          have k63 : TK K H' H3 := u6.2.trans (.of s3)
          have hl3 : H3 l = some (.lst acc) := s3 _ _ (u6.1 _ _ hl')
          have tk3 : TK K H3 (upd H3 l (.lst (acc ++ ws))) := TK.upd (by rw [hl3]; trivial)
          refine ⟨l, b, acc, ws, rfl, rfl, hl3, hb3, ?_, ⟨_, _, rfl, fun a o ha => ?_, (tk.trans k63).trans tk3, upd_same, ?_⟩⟩
          · rw [m3.length, List.length_map]
            have := usedF_len p
            exact sz_of (by omega)
          · have hne : a ≠ l := ne_of_none ha hl
            rw [upd_ne hne]
            exact s3 _ _ (u6.1 _ _ (s _ _ ha))
          · rw [List.take_succ, e, List.map_append, List.flatten_append, List.map_append]
            refine ((ma.keep k63).append ?_).keep tk3
            simpa using m3
      · subst e
        rw [List.length_map, List.take_length] at ma
        exact ⟨_, rfl, fin l acc H' hl ⟨s, .of s⟩ hl' ma⟩
end Fw
set_option Elab.async false
set_option linter.all false
set_option maxRecDepth 100000
set_option maxHeartbeats 1000000
namespace Fw
open PySem L2 Fd
variable {P : Program} {w : World} {K : PySem.W.Frag} {mg : Str → Option Value} {base : Heap}
/-! ### methods -/
def CalM (P : Program) (w : World) (K : PySem.W.Frag) (mg : Str → Option Value) (base : Heap) (n : Nat) (C : Addr) (x : Str) (ps : List Str) (sp : Sp) : Prop :=
  ∃ f fd, FnOk P w K mg base CX0 n f fd ps sp ∧ Meth K C x f ∧ Binds K fd ps []
theorem CalM.mono {P : Program} {w : World} {K : PySem.W.Frag} {mg : Str → Option Value} {base : Heap} {n m : Nat} {C : Addr} {x : Str} {ps : List Str} {sp : Sp} (h : CalM P w K mg base n C x ps sp) (hm : n ≤ m) : CalM P w K mg base m C x ps sp := by
  obtain ⟨f, fd, F, r⟩ := h
  exact ⟨f, fd, F.mono hm, r⟩
def DfnM (K : PySem.W.Frag) (C : Addr) (x q : Str) (st : Stmt) (ps : List Str) : Prop := ∃ f fd, Fun K x q st f fd ∧ Meth K C x f ∧ Binds K fd ps []
/-- the class of what numbers have become -/
structure AgC (K : PySem.W.Frag) (C : Addr) : Prop where
  cl : Cls K C
  nb : NoAttr K C "became"
/-- a dict's rows and what numbers have become -/
def BecV (K : PySem.W.Frag) (H : Hp) (kvs : List (Key × V)) (S : Bec) : Prop := Paired (fun (kv : Key × V) (p : Nat × Kd) => kv.1 = Sum.inl (p.1 : Int) ∧ Im K H kv.2 (kd p.2)) kvs S
theorem BecV.keep {H H' : Hp} (t : TK K H H') {kvs : List (Key × V)} {S : Bec} (h : BecV K H kvs S) : BecV K H' kvs S := by
  unfold BecV at *
  induction h with
  | nil => exact .nil
  | cons h _ ih => exact .cons ⟨h.1, h.2.keep t⟩ ih
theorem BecV.get {H : Hp} {kvs : List (Key × V)} {S : Bec} (h : BecV K H kvs S) (n : Nat) : (S.lookup n = none → valV kvs (Sum.inl (n : Int)) = none) ∧ ∀ t, S.lookup n = some t → ∃ v, valV kvs (Sum.inl (n : Int)) = some v ∧ Im K H v (kd t) := by
  unfold BecV at h
  induction h with
  | nil => exact ⟨fun _ => rfl, fun t e => nomatch e⟩
  | @cons kv p l1 l2 h _ ih =>
    obtain ⟨i, t0⟩ := p
    rw [List.lookup_cons]
    by_cases e : n = i
    · subst e
      rw [beq_self_eq_true]
      exact ⟨(fun z => nomatch z), (fun t z => by cases z; exact ⟨_, valV_pos h.1, h.2⟩)⟩
    · have : (n == i) = false := by simpa using e
      rw [this]
      have ne : ¬ kv.1 = Sum.inl (n : Int) := fun z => by
        rw [h.1] at z
        have := Sum.inl.inj z
        omega
      rw [valV_neg ne]
      exact ih
theorem BecV.len {H : Hp} {kvs : List (Key × V)} {S : Bec} (h : BecV K H kvs S) : kvs.length = S.length := by
  unfold BecV at h
  induction h with
  | nil => rfl
  | cons _ _ ih => simp [ih]
theorem BecV.snoc {H : Hp} {kvs : List (Key × V)} {S : Bec} (h : BecV K H kvs S) {n : Nat} {v : V} {t : Kd} (hv : Im K H v (kd t)) : BecV K H (kvs ++ [(Sum.inl (n : Int), v)]) (S ++ [(n, t)]) := Paired.snoc h ⟨rfl, hv⟩
/-- the object that knows what numbers have become: at a, its dict at b -/
def AgS (K : PySem.W.Frag) (C : Addr) (H : Hp) (a b : Addr) (S : Bec) : Prop := (∃ dx, H a = some (.ins C dx [("became", .ref b)])) ∧ ∃ kvs, H b = some (.dK kvs) ∧ BecV K H kvs S
theorem AgS.keep {C : Addr} {H H' : Hp} {a b : Addr} {S : Bec} (h : AgS K C H a b S) (s : Same H H') : AgS K C H' a b S := by
  obtain ⟨⟨dx, h1⟩, kvs, h2, h3⟩ := h
  exact ⟨⟨dx, s _ _ h1⟩, kvs, s _ _ h2, h3.keep (.of s)⟩
section
variable {C : Addr} {B H H1 : Hp} {σ : St} {a b : Addr} {S : Bec} {i : Nat}
/-- self.became -/
theorem ex_became (T : AgC K C) (e : σ[i]? = some (some (.ref a))) (h : AgS K C B a b S) : EvX K B (tFld K (tVar i) "became") σ H (.ref b) := fun H1 u Q q => by
  obtain ⟨⟨dx, h1⟩, _⟩ := h
  exact ⟨_, e, a, C, dx, _, .ref b, rfl, u.1 _ _ h1, T.cl, T.nb, rfl, q H1 (.refl _)⟩
/-- n in self.became, not in it, what it has become -/
theorem ev_din {ty td : TE} {n : Nat} (h : AgS K C B a b S) (hy : Ev K B ty σ H (.int (n : Int))) (hd : EvX K B td σ H (.ref b)) : Ev K B (tDIn ty td) σ H (.bool (S.lookup n).isSome) := fun H1 u Q q =>
  hy H1 u _ fun v H2 s2 m => hd H2 (u.then s2) _ fun H3 s3 => by
    obtain ⟨_, kvs, h2, h3⟩ := h.keep ((u.then s2).then s3).1
    have e := m.int_inv
    subst e
    refine ⟨b, valV kvs (Sum.inl (n : Int)), rfl, DGet.k (k := (Sum.inl (n : Int) : Key)) h2, ?_⟩
    have e : (valV kvs (Sum.inl (n : Int))).isSome = (S.lookup n).isSome := by
      cases z : S.lookup n with
      | none => rw [(h3.get n).1 z]; rfl
      | some t => obtain ⟨v, hv, _⟩ := (h3.get n).2 t z; rw [hv]; rfl
    rw [e]
    exact q _ H3 (s2.trans s3) (.bl _)
theorem ev_dgetN {ty td : TE} {n : Nat} {t : Kd} (h : AgS K C B a b S) (hl : S.lookup n = some t) (hd : EvX K B td σ H (.ref b)) (hy : Ev K B ty σ H (.int (n : Int))) : Ev K B (tDGet td ty) σ H (kd t) := fun H1 u Q q =>
  hd H1 u _ fun H2 s2 => hy H2 (u.then s2) _ fun v H3 s3 m => by
    obtain ⟨_, kvs, h2, h3⟩ := h.keep ((u.then s2).then s3).1
    have e := m.int_inv
    subst e
    obtain ⟨v, hv, hm⟩ := (h3.get n).2 t hl
    refine ⟨b, v, rfl, ?_, q v H3 (s2.trans s3) hm⟩
    have := DGet.k (k := (Sum.inl (n : Int) : Key)) h2
    rw [hv] at this
    exact this
theorem sn_inv {m : Nat} {k k' : Kd} (h : Sn S m k k') : (m = 0 ∧ k' = k ∧ ∀ n, k = .num n → S.lookup n = none) ∨ ∃ m' n t, m = m' + 1 ∧ k = .num n ∧ S.lookup n = some t ∧ Sn S m' t k' := by
  cases h with
  | stop h => exact .inl ⟨rfl, rfl, h⟩
  | go e h => exact .inr ⟨_, _, _, rfl, rfl, e, h⟩
theorem kd_cases (k : Kd) : (∃ n, k = .num n) ∨ (tyD (kd k) = "str" ∧ ∃ s, k = .nm s) ∨ (tyD (kd k) = "tuple" ∧ ∃ x a b, kd k = .tuple [.str x, kd a, kd b] ∧ ((x = "way" ∧ k = .way a b) ∨ (x = "pair" ∧ k = .pair a b))) := by
  cases k with
  | num n => exact .inl ⟨n, rfl⟩
  | nm s => exact .inr (.inl ⟨rfl, s, rfl⟩)
  | way a b => exact .inr (.inr ⟨rfl, _, a, b, rfl, .inl ⟨rfl, rfl⟩⟩)
  | pair a b => exact .inr (.inr ⟨rfl, _, a, b, rfl, .inr ⟨rfl, rfl⟩⟩)
theorem ev_isi2 {ta : TE} {d : PyData} {T1 T2 : String} {b1 b2 : Bool} (ha : Ev K B ta σ H d) (h1 : kitB (tyD d) T1 = some b1) (h2 : kitB (tyD d) T2 = some b2) : Ev K B (tCB (rIsiT K) (tCons ta (tCons (tTup (tCons (tC (.ty T1)) (tCons (tC (.ty T2)) tNil))) tNil))) σ H (.bool (b1 || b2)) := fun H1 u Q q =>
  ha H1 u _ fun v H2 s2 m => by
    refine ⟨by show 2 ≤ sizeLine; exact sz_of (by decide), fun p hp => ?_⟩
    have sn := same_new hp (.tup [.ty T1, .ty T2])
    refine ⟨v, p, [.ty T1, .ty T2], .type (tyD d), [.type T1, .type T2], b1 || b2, rfl, upd_same, .cons (.ty _) (.cons (.ty _) .nil), (m.keep (.of sn)).ty, ?_, q _ _ (s2.trans sn) (.bl _)⟩
    refine kitAny_cons (kit_ty h1) (fun e => ?_) (fun e => by rw [e]; rfl)
    rw [e, Bool.false_or]
    cases b2 with
    | true => exact kitAny_cons (kit_ty h2) (r := true) (fun z => nomatch z) (fun _ => rfl)
    | false => exact kitAny_cons (kit_ty h2) (fun _ => kitAny_nil) (fun z => nomatch z)
theorem kd_str (k : Kd) : kitB (tyD (kd k)) "str" = some (match k with | .nm _ => true | _ => false) := by
  cases k with
  | num n => exact k_is
  | nm s => exact k_ss
  | way a b => exact k_ts
  | pair a b => exact k_ts
theorem kd_int (k : Kd) : kitB (tyD (kd k)) "int" = some (match k with | .num _ => true | _ => false) := by
  cases k with
  | num n => exact k_ii
  | nm s => exact k_si
  | way a b => exact k_ti
  | pair a b => exact k_ti
theorem kd_tup (k : Kd) : kitB (tyD (kd k)) "tuple" = some (match k with | .way _ _ => true | .pair _ _ => true | _ => false) := by
  cases k with
  | num n => exact k_it
  | nm s => exact k_st
  | way a b => exact k_tt
  | pair a b => exact k_tt
end
abbrev s_Agreeing_seen : Stmt := inClass (top 22) 1
abbrev nm_Agreeing_seen : List Str := ["self", "kind"]
theorem sc_Agreeing_seen : FnScope nm_Agreeing_seen ["self", "kind"] (defScope s_Agreeing_seen) := ⟨rfl, rfl, rfl, by decide +kernel, rfl, by decide +kernel, by decide +kernel⟩
def spSeen (K : PySem.W.Frag) (C : Addr) : Sp := fun vs H Q _ => ∃ (a b : Addr) (S : Bec) (m : Nat) (k k' : Kd) (v : V), vs = [.ref a, v] ∧ AgS K C H a b S ∧ Im K H v (kd k) ∧ Sn S m k k' ∧ ∀ v' H', Same H H' → Im K H' v' (kd k') → Q v' H'
theorem seen_ok {C : Addr} (A : AgC K C) (T : Tx K mg) (D : DfnM K C "seen" "Agreeing.seen" s_Agreeing_seen ["self", "kind"]) : CalM P w K mg base 1 C "seen" ["self", "kind"] (spSeen K C) := by
  obtain ⟨f, fd, F, m_, b_⟩ := D
  refine ⟨f, fd, F.ok sc_Agreeing_seen (fun vs H Q E ⟨_, _, _, _, _, _, _, e, _⟩ => by rw [e]; rfl) (fun cdv A' outer s H vs Q E hr h => ?_), m_, b_⟩
  obtain ⟨a, b, S, m, k, k', v, rfl, hS, h0, hsn, q⟩ := h
  have hu := u1 hr
  refine ⟨_, (pss_cons (ps_while PassesOwn.never (PW.pt (pw_and (pt_val (pe_callB call_isi rfl T.isinstance_ (by decide +kernel) (pa_cons (pv 1) (pa_cons (pe_bltn (v := .ty "int") rfl T.int_ (by decide +kernel) rfl) pa_nil)))) (pw_and1 (pt_cmp (pc_din hu (pv 1) (pe_fld (pv 0) rfl))))))
 (pss_one (ps_set (i := 1) sc_Agreeing_seen.nd rfl (Or.inl rfl) (pe_dget hu (pe_fld (pv 0) rfl) (pv 1) (fun _ _ => rfl)))))
 (pss_one (ps_ret (pv 1)))), ?_⟩
  refine Go.run (K := K) (B := H) ?_ (.refl H)
  refine go_seq (go_while (fun m σ' H' => ∃ (k1 : Kd) (v1 : V), σ' = [some (.ref a), some v1] ∧ Same H H' ∧ Im K H' v1 (kd k1) ∧ Sn S m k1 k') (fun H1 u => ⟨m, k, v, rfl, u.1, h0.keep u.2, hsn⟩) fun m σ' H' ⟨k1, v1, es, sm, hv1, hs1⟩ => ?_)
  subst es
  have hS' := hS.keep sm
  rcases sn_inv hs1 with ⟨rfl, ek, hn⟩ | ⟨m', n, t, rfl, rfl, hl, hs2⟩
  · refine ⟨false, (et_and (et_B (ev_isi (ev_var (i := 1) rfl hv1) (kd_int k1))) (b := false) fun z => ?_).is (Bool.and_false _), (fun z => nomatch z), fun _ H1 s1 => ⟨_, rfl, q _ _ (sm.trans s1) (by rw [ek]; exact hv1.keep (.of s1))⟩⟩
    cases k1 with
    | num n => exact (et_B (ev_din hS' (ev_var (i := 1) rfl hv1) (ex_became A (i := 0) rfl hS'))).is (by rw [hn n rfl]; rfl)
    | nm s => cases z
    | way a b => cases z
    | pair a b => cases z
  · refine ⟨true, (et_and (a := true) (et_B (ev_isi (ev_var (i := 1) rfl hv1) k_ii)) (b := true) fun z => (et_B (ev_din hS' (ev_var (i := 1) rfl hv1) (ex_became A (i := 0) rfl hS'))).is (by rw [hl]; rfl)).is rfl, (fun _ H1 s1 => ?_), (fun z => nomatch z)⟩
    refine (go_set1 (K := K) (B := H') (H := H') (ev_dgetN hS' hl (ex_became A (i := 0) rfl hS') (ev_var (i := 1) rfl hv1)) fun v2 H2 u2 h2 => ?_) H1 ⟨s1, .of s1⟩
    exact ⟨m', by omega, t, v2, rfl, sm.trans u2.1, h2, hs2⟩
abbrev s_Agreeing_whole : Stmt := inClass (top 22) 2
abbrev nm_Agreeing_whole : List Str := ["self", "kind"]
theorem sc_Agreeing_whole : FnScope nm_Agreeing_whole ["self", "kind"] (defScope s_Agreeing_whole) := ⟨rfl, rfl, rfl, by decide +kernel, rfl, by decide +kernel, by decide +kernel⟩
def spWhole (K : PySem.W.Frag) (C : Addr) (c : Nat) : Sp := fun vs H Q _ => ∃ (a b : Addr) (S : Bec) (k w : Kd) (v : V), vs = [.ref a, v] ∧ AgS K C H a b S ∧ Im K H v (kd k) ∧ Wh S c k w ∧ ∀ v' H', Same H H' → Im K H' v' (kd w) → Q v' H'
theorem whole_okA {C : Addr} (A : AgC K C) (T : Tx K mg) (D : DfnM K C "whole" "Agreeing.whole" s_Agreeing_whole ["self", "kind"]) (CS : CalM P w K mg base 1 C "seen" ["self", "kind"] (spSeen K C)) : ∀ c, CalM P w K mg base (c + 1) C "whole" ["self", "kind"] (spWhole K C c) := by
  obtain ⟨f, fd, F, c_whole, b_whole⟩ := D
  have cl_Agreeing := A.cl
  intro c
  refine ⟨f, fd, ?_, c_whole, b_whole⟩
  induction c with
  | zero => exact fn_none fun vs H Q E ⟨_, _, _, _, _, _, _, _, _, hx, _⟩ => by cases hx
  | succ c G_whole =>
    obtain ⟨_, _, G_seen, c_seen, b_seen⟩ := CS.mono (show 1 ≤ c + 1 by omega)
    refine F.ok sc_Agreeing_whole (fun vs H Q E ⟨_, _, _, _, _, _, e, _⟩ => by rw [e]; rfl) (fun cdv A' outer s H vs Q E hr h => ?_)
    obtain ⟨a, b, S, k, w, v, rfl, hS, h0, hw, q⟩ := h
    refine ⟨_, (pss_cons (ps_set (i := 1) sc_Agreeing_whole.nd rfl (Or.inl rfl) (pe_meth (pv 0) cl_Agreeing c_seen G_seen hr b_seen .nil pass0 (pa_cons (pv 1) pa_nil)))
 (pss_cons (ps_if (pt_val (pe_callB call_isiT rfl T.isinstance_ (by decide +kernel) (pa_cons (pv 1) (pa_cons (pe_tup (pa_cons (pe_bltn (v := .ty "int") rfl T.int_ (by decide +kernel) rfl) (pa_cons (pe_bltn (v := .ty "str") rfl T.str_ (by decide +kernel) rfl) pa_nil))) pa_nil))))
 (pss_one (ps_ret (pv 1)))
 pss_nil)
 (pss_one (ps_ret (pe_tup (pa_cons (pe_ix ix_tup (pv 1) pe_int (fun _ _ => rfl)) (pa_cons (pe_meth (pv 0) cl_Agreeing c_whole G_whole hr b_whole .nil pass0 (pa_cons (pe_ix ix_tup (pv 1) pe_int (fun _ _ => rfl)) pa_nil)) (pa_cons (pe_meth (pv 0) cl_Agreeing c_whole G_whole hr b_whole .nil pass0 (pa_cons (pe_ix ix_tup (pv 1) pe_int (fun _ _ => rfl)) pa_nil)) pa_nil)))))))), ?_⟩
    refine Go.run (K := K) (B := H) ?_ (.refl H)
    have fin : ∀ v H1, Up K H H H1 → Im K H1 v (kd w) → Q v H1 := fun v H1 u hv => q v H1 u.1 hv
    have go : ∀ {m : Nat} {k' : Kd}, Sn S m k k' → Ev K H (tMeth C "seen" (spSeen K C) [] E0 (tVar 0) (tCons (tVar 1) tNil)) (L2.start nm_Agreeing_whole [.ref a, v]) H (kd k') := fun hs H1 u Q' q' => by
      have hS1 := hS.keep u.1
      obtain ⟨⟨dx, h1⟩, _⟩ := id hS1
      exact ⟨_, rfl, a, dx, _, rfl, h1, rfl, v, rfl, a, b, S, _, k, _, v, rfl, hS1, h0.keep u.2, hs, fun v' H' s hv => q' v' H' s hv⟩
    have sub : ∀ {σ : St} {H1 : Hp} {E : XK} {te : TE} {x x' : Kd}, σ[0]? = some (some (.ref a)) → Wh S c x x' → Ev K H te σ H1 (kd x) → Ev K H (tMeth C "whole" (spWhole K C c) [] E (tVar 0) (tCons te tNil)) σ H1 (kd x') := fun {σ H1 E te x x'} e0 hx he H2 u Q' q' => by
      have hS1 := hS.keep u.1
      obtain ⟨⟨dx, h1⟩, _⟩ := id hS1
      refine ⟨_, e0, a, dx, _, rfl, h1, rfl, he H2 u _ fun v2 H3 s3 hv2 => ?_⟩
      exact ⟨a, b, S, x, x', v2, rfl, hS1.keep s3, hv2, hx, fun v' H' s hv => q' v' H' (s3.trans s) hv⟩
    cases hw with
    | @nm _ m _ s hs =>
      refine go_set (go hs) fun v1 H1 u1 h1 => ?_
      refine go_ifs (b := true) ((et_B (ev_isi2 (ev_var (i := 1) rfl h1) (kd_int _) (kd_str _))).is rfl) (fun _ => ?_) (fun z => nomatch z)
      exact go_ret (ev_var (i := 1) rfl h1) fun v H2 u2 => fin v H2 ⟨u2.1, u1.2.trans u2.2⟩
    | @num _ m _ n hs =>
      refine go_set (go hs) fun v1 H1 u1 h1 => ?_
      refine go_ifs (b := true) ((et_B (ev_isi2 (ev_var (i := 1) rfl h1) (kd_int _) (kd_str _))).is rfl) (fun _ => ?_) (fun z => nomatch z)
      exact go_ret (ev_var (i := 1) rfl h1) fun v H2 u2 => fin v H2 ⟨u2.1, u1.2.trans u2.2⟩
    | @way _ m _ x y x' y' hs hx hy =>
      refine go_set (go hs) fun v1 H1 u1 h1 => ?_
      refine go_ifs (b := false) ((et_B (ev_isi2 (ev_var (i := 1) rfl h1) (kd_int _) (kd_str _))).is rfl) (fun z => nomatch z) (fun _ => ?_)
      exact go_ret (ev_tup (ea_cons (ev_word (i := 1) rfl h1) (ea_cons (sub rfl hx (ev_ix (ev_var (i := 1) rfl h1) ev_int rfl)) (ea_cons (sub rfl hy (ev_ix (ev_var (i := 1) rfl h1) ev_int rfl)) ea_nil))) (by simp)) fun v H2 u2 => fin v H2 ⟨u2.1, u1.2.trans u2.2⟩
    | @pair _ m _ x y x' y' hs hx hy =>
      refine go_set (go hs) fun v1 H1 u1 h1 => ?_
      refine go_ifs (b := false) ((et_B (ev_isi2 (ev_var (i := 1) rfl h1) (kd_int _) (kd_str _))).is rfl) (fun z => nomatch z) (fun _ => ?_)
      exact go_ret (ev_tup (ea_cons (ev_word (i := 1) rfl h1) (ea_cons (sub rfl hx (ev_ix (ev_var (i := 1) rfl h1) ev_int rfl)) (ea_cons (sub rfl hy (ev_ix (ev_var (i := 1) rfl h1) ev_int rfl)) ea_nil))) (by simp)) fun v H2 u2 => fin v H2 ⟨u2.1, u1.2.trans u2.2⟩
/-! ### a number that doesn't stand in a kind -/
abbrev s_Agreeing_stands_in : Stmt := inClass (top 22) 3
abbrev nm_Agreeing_stands_in : List Str := ["self", "number", "kind"]
theorem sc_Agreeing_stands_in : FnScope nm_Agreeing_stands_in ["self", "number", "kind"] (defScope s_Agreeing_stands_in) := ⟨rfl, rfl, rfl, by decide +kernel, rfl, by decide +kernel, by decide +kernel⟩
def spStands (K : PySem.W.Frag) (C : Addr) (c : Nat) : Sp := fun vs H Q _ => ∃ (a b : Addr) (S : Bec) (n : Nat) (k : Kd) (v : V), vs = [.ref a, .int n, v] ∧ AgS K C H a b S ∧ Im K H v (kd k) ∧ Nst S n c k ∧ ∀ H', Same H H' → Q (.bl false) H'
theorem stands_ok {C : Addr} (A : AgC K C) (T : Tx K mg) (D : DfnM K C "stands_in" "Agreeing.stands_in" s_Agreeing_stands_in ["self", "number", "kind"]) (CS : CalM P w K mg base 1 C "seen" ["self", "kind"] (spSeen K C)) : ∀ c, CalM P w K mg base (c + 1) C "stands_in" ["self", "number", "kind"] (spStands K C c) := by
  obtain ⟨f, fd, F, c_stands_in, b_stands_in⟩ := D
  have cl_Agreeing := A.cl
  intro c
  refine ⟨f, fd, ?_, c_stands_in, b_stands_in⟩
  induction c with
  | zero => exact fn_none fun vs H Q E ⟨_, _, _, _, _, _, _, _, _, hx, _⟩ => by cases hx
  | succ c G_stands_in =>
    obtain ⟨_, _, G_seen, c_seen, b_seen⟩ := CS.mono (show 1 ≤ c + 1 by omega)
    refine F.ok sc_Agreeing_stands_in (fun vs H Q E ⟨_, _, _, _, _, _, e, _⟩ => by rw [e]; rfl) (fun cdv A' outer s H vs Q E hr h => ?_)
    obtain ⟨a, b, S, n, k, v, rfl, hS, h0, hw, q⟩ := h
    refine ⟨_, (pss_cons (ps_set (i := 2) sc_Agreeing_stands_in.nd rfl (Or.inl rfl) (pe_meth (pv 0) cl_Agreeing c_seen G_seen hr b_seen .nil pass0 (pa_cons (pv 2) pa_nil)))
 (pss_cons (ps_if (pt_val (pe_callB call_isi rfl T.isinstance_ (by decide +kernel) (pa_cons (pv 2) (pa_cons (pe_bltn (v := .ty "tuple") rfl T.tuple_ (by decide +kernel) rfl) pa_nil))))
 (pss_one (ps_ret (pe_or (pe_meth (pv 0) cl_Agreeing c_stands_in G_stands_in hr b_stands_in .nil pass0 (pa_cons (pv 1) (pa_cons (pe_ix ix_tup (pv 2) pe_int (fun _ _ => rfl)) pa_nil))) (pe_one (pe_meth (pv 0) cl_Agreeing c_stands_in G_stands_in hr b_stands_in .nil pass0 (pa_cons (pv 1) (pa_cons (pe_ix ix_tup (pv 2) pe_int (fun _ _ => rfl)) pa_nil)))))))
 pss_nil)
 (pss_one (ps_ret (pe_and (pe_callB call_isi rfl T.isinstance_ (by decide +kernel) (pa_cons (pv 2) (pa_cons (pe_bltn (v := .ty "int") rfl T.int_ (by decide +kernel) rfl) pa_nil))) (pe_one (pe_cmpR op_eq (pv 2) (pv 1) (nomark _)))))))), ?_⟩
    refine Go.run (K := K) (B := H) ?_ (.refl H)
    have fin : ∀ v H1, Up K H H H1 → Im K H1 v (.bool false) → Q v H1 := fun v H1 u hv => by rw [hv.bool_inv]; exact q H1 u.1
    have go : ∀ {m : Nat} {k' : Kd}, Sn S m k k' → Ev K H (tMeth C "seen" (spSeen K C) [] E0 (tVar 0) (tCons (tVar 2) tNil)) (L2.start nm_Agreeing_stands_in [.ref a, .int n, v]) H (kd k') := fun hs H1 u Q' q' => by
      have hS1 := hS.keep u.1
      obtain ⟨⟨dx, h1⟩, _⟩ := id hS1
      exact ⟨_, rfl, a, dx, _, rfl, h1, rfl, v, rfl, a, b, S, _, k, _, v, rfl, hS1, h0.keep u.2, hs, fun v' H' s hv => q' v' H' s hv⟩
    have sub : ∀ {σ : St} {H1 : Hp} {E : XK} {te : TE} {x : Kd}, σ[0]? = some (some (.ref a)) → σ[1]? = some (some (.int (n : Int))) → Nst S n c x → Ev K H te σ H1 (kd x) → Ev K H (tMeth C "stands_in" (spStands K C c) [] E (tVar 0) (tCons (tVar 1) (tCons te tNil))) σ H1 (.bool false) := fun {σ H1 E te x} e0 e1 hx he H2 u Q' q' => by
      have hS1 := hS.keep u.1
      obtain ⟨⟨dx, h1⟩, _⟩ := id hS1
      refine ⟨_, e0, a, dx, _, rfl, h1, rfl, _, e1, he H2 u _ fun v2 H3 s3 hv2 => ?_⟩
      exact ⟨a, b, S, n, x, v2, rfl, hS1.keep s3, hv2, hx, fun H' s => q' _ H' (s3.trans s) (.bl _)⟩
    cases hw with
    | @nm _ m _ s hs =>
      refine go_set (go hs) fun v1 H1 u1 h1 => ?_
      refine go_ifs (b := false) (et_B (ev_isi (ev_var (i := 2) rfl h1) k_st)) (fun z => nomatch z) (fun _ => ?_)
      exact go_ret ((ev_andV (b := false) (ev_isi (ev_var (i := 2) rfl h1) k_si) (fun z => nomatch z)).is rfl) fun v H2 u2 => fin v H2 ⟨u2.1, u1.2.trans u2.2⟩
    | @num _ m _ j hs hj =>
      refine go_set (go hs) fun v1 H1 u1 h1 => ?_
      refine go_ifs (b := false) (et_B (ev_isi (ev_var (i := 2) rfl h1) k_it)) (fun z => nomatch z) (fun _ => ?_)
      refine go_ret ((ev_andV (b := false) (ev_isi (ev_var (i := 2) rfl h1) k_ii) (fun _ => (ev_eqI (ev_var (i := 2) rfl h1) (ev_var (i := 1) rfl (.int _))).is ?_)).is rfl) fun v H2 u2 => fin v H2 ⟨u2.1, u1.2.trans u2.2⟩
      rw [decide_eq_false (by omega)]
    | @way _ m _ x y hs hx hy =>
      refine go_set (go hs) fun v1 H1 u1 h1 => ?_
      refine go_ifs (b := true) (et_B (ev_isi (ev_var (i := 2) rfl h1) k_tt)) (fun _ => ?_) (fun z => nomatch z)
      exact go_ret ((ev_orV (sub rfl rfl hx (ev_ix (ev_var (i := 2) rfl h1) ev_int rfl)) fun _ => sub rfl rfl hy (ev_ix (ev_var (i := 2) rfl h1) ev_int rfl)).is rfl) fun v H2 u2 => fin v H2 ⟨u2.1, u1.2.trans u2.2⟩
    | @pair _ m _ x y hs hx hy =>
      refine go_set (go hs) fun v1 H1 u1 h1 => ?_
      refine go_ifs (b := true) (et_B (ev_isi (ev_var (i := 2) rfl h1) k_tt)) (fun _ => ?_) (fun z => nomatch z)
      exact go_ret ((ev_orV (sub rfl rfl hx (ev_ix (ev_var (i := 2) rfl h1) ev_int rfl)) fun _ => sub rfl rfl hy (ev_ix (ev_var (i := 2) rfl h1) ev_int rfl)).is rfl) fun v H2 u2 => fin v H2 ⟨u2.1, u1.2.trans u2.2⟩
end Fw
set_option Elab.async false
set_option linter.all false
set_option maxRecDepth 100000
set_option maxHeartbeats 1000000
namespace Fw
open PySem L2 Fd
variable {P : Program} {w : World} {K : PySem.W.Frag} {mg : Str → Option Value} {base : Heap}
theorem AgS.put {C : Addr} {H H3 : Hp} {a b : Addr} {S : Bec} {n : Nat} {t : Kd} {v : V} (h : AgS K C H a b S) (s : Same H H3) (hn : S.lookup n = none) (hv : Im K H3 v (kd t)) (hl : S.length < 100000) :
    ∃ H4, DPut H3 b (.int (n : Int)) v H4 ∧ Same (wo H b) H4 ∧ TK K H3 H4 ∧ AgS K C H4 a b (S ++ [(n, t)]) := by
  obtain ⟨⟨dx, h1⟩, kvs, h2, h3⟩ := h.keep s
  have hab : a ≠ b := by intro e; subst e; rw [h1] at h2; cases h2
  have tk : TK K H3 (upd H3 b (.dK (kvs ++ [(Sum.inl (n : Int), v)]))) := TK.upd (by rw [h2]; trivial)
  have pk : putK kvs (Sum.inl (n : Int)) v = kvs ++ [(Sum.inl (n : Int), v)] := putK_new v ((h3.get n).1 hn)
  refine ⟨upd H3 b (.dK (kvs ++ [(Sum.inl (n : Int), v)])), ?_, fun x o ho => ?_, tk, ⟨dx, by rw [upd_ne hab]; exact h1⟩, _, upd_same, (h3.snoc hv).keep tk⟩
  · rw [← pk]
    exact DPut.k (k := (Sum.inl (n : Int) : Key)) h2 (by rw [h3.len]; exact sz_lt hl)
  · have hne : x ≠ b := by intro e; subst e; rw [wo_l] at ho; cases ho
    rw [upd_ne hne]
    rw [wo_ne hne] at ho
    exact s _ _ ho
/-- what becomes of two tops, one at least a number -/
inductive Met (S : Bec) (c : Nat) : Kd → Kd → Bec → Prop
  | same {n} : Met S c (.num n) (.num n) S
  | left {n t} : S.lookup n = none → t ≠ .num n → Nst S n c t → Met S c (.num n) t (S ++ [(n, t)])
  | right {n t} : S.lookup n = none → (∀ q, t ≠ .num q) → Nst S n c t → Met S c t (.num n) (S ++ [(n, t)])
abbrev s_Agreeing_number_met : Stmt := inClass (top 22) 5
abbrev nm_Agreeing_number_met : List Str := ["self", "one", "other"]
theorem sc_Agreeing_number_met : FnScope nm_Agreeing_number_met ["self", "one", "other"] (defScope s_Agreeing_number_met) := ⟨rfl, rfl, rfl, by decide +kernel, rfl, by decide +kernel, by decide +kernel⟩
def spMet (K : PySem.W.Frag) (C : Addr) (c : Nat) : Sp := fun vs H Q _ => ∃ (a b : Addr) (S S' : Bec) (x y : Kd) (v1 v2 : V), vs = [.ref a, v1, v2] ∧ AgS K C H a b S ∧ Im K H v1 (kd x) ∧ Im K H v2 (kd y) ∧ Met S c x y S' ∧ S.length < 100000 ∧
  ∀ H', Same (wo H b) H' → TK K H H' → AgS K C H' a b S' → Q .non H'
theorem met_ok {C : Addr} (A : AgC K C) (T : Tx K mg) (c : Nat) (D : DfnM K C "number_met" "Agreeing.number_met" s_Agreeing_number_met ["self", "one", "other"]) (CS : CalM P w K mg base (c + 1) C "stands_in" ["self", "number", "kind"] (spStands K C c)) (CW : CalM P w K mg base (c + 1) C "whole" ["self", "kind"] (spWhole K C c)) :
    CalM P w K mg base (c + 2) C "number_met" ["self", "one", "other"] (spMet K C c) := by
  obtain ⟨f, fd, F, c_, b_⟩ := D
  have cl_Agreeing := A.cl
  obtain ⟨_, _, G_stands_in, c_stands_in, b_stands_in⟩ := CS
  obtain ⟨_, _, G_whole, c_whole, b_whole⟩ := CW
  refine ⟨f, fd, F.ok sc_Agreeing_number_met (fun vs H Q E ⟨_, _, _, _, _, _, _, _, e, _⟩ => by rw [e]; rfl) (fun cdv A' outer s H vs Q E hr h => ?_), c_, b_⟩
  obtain ⟨a, b, S, S', x, y, v1, v2, rfl, hS, h1, h2, hm, hl, q⟩ := h
  have hu := u1 hr
  refine ⟨_, (pss_cons (ps_if (pt_not (pt_val (pe_callB call_isi rfl T.isinstance_ (by decide +kernel) (pa_cons (pv 1) (pa_cons (pe_bltn (v := .ty "int") rfl T.int_ (by decide +kernel) rfl) pa_nil)))))
 (pss_one (ps_par (i := 1) (j := 2) rfl sc_Agreeing_number_met.nd rfl rfl (by decide) rfl rfl (pa_cons (pv 2) (pa_cons (pv 1) pa_nil)) rfl))
 pss_nil)
 (pss_cons (ps_if (PW.pt (pw_and (pt_val (pe_callB call_isi rfl T.isinstance_ (by decide +kernel) (pa_cons (pv 2) (pa_cons (pe_bltn (v := .ty "int") rfl T.int_ (by decide +kernel) rfl) pa_nil)))) (pw_and1 (pt_cmpR op_eq (pv 1) (pv 2) (nomark _)))))
 (pss_one (ps_ret pe_non))
 pss_nil)
 (pss_cons (ps_if (pt_val (pe_meth (pv 0) cl_Agreeing c_stands_in G_stands_in hr b_stands_in .nil pass0 (pa_cons (pv 1) (pa_cons (pv 2) pa_nil))))
 (pss_one (ps_ret (pe_tup (pa_cons pe_str (pa_cons (pv 1) (pa_cons (pe_meth (pv 0) cl_Agreeing c_whole G_whole hr b_whole .nil pass0 (pa_cons (pv 2) pa_nil)) pa_nil))))))
 pss_nil)
 (pss_cons (ps_dput hu (pe_fld (pv 0) rfl) (pv 1) (pv 2) rfl)
 (pss_one (ps_ret pe_non)))))), ?_⟩
  -- behind the turn of the two
  have rest : ∀ (n : Nat) (t : Kd) (σ1 : V) (vt : V) (H1 : Hp), Same H H1 → σ1 = .int n → Im K H1 vt (kd t) → S.lookup n = none → t ≠ .num n → Nst S n c t → (∀ H', Same (wo H b) H' → TK K H H' → AgS K C H' a b (S ++ [(n, t)]) → Q .non H') →
      Go K H (tSeq (tIfS (tAnd (tB (tCB (rIsi K) (tCons (tVar 2) (tCons (tC (.ty "int")) tNil)))) (tTest (tOp rEq (tVar 1) (tVar 2)))) (tRet (tC .non)) tNext)
        (tSeq (tIfS (tB (tMeth C "stands_in" (spStands K C c) [] E0 (tVar 0) (tCons (tVar 1) (tCons (tVar 2) tNil)))) (tRet (tTup (tCons (tC (.str "ring")) (tCons (tVar 1) (tCons (tMeth C "whole" (spWhole K C c) [] E0 (tVar 0) (tCons (tVar 2) tNil)) tNil))))) tNext)
          (tSeq (sDPut (tFld K (tVar 0) "became") (tVar 1) (tVar 2)) (tRet (tC .non))))) { nx := fun x H' => Q V.non H', rt := Q } [some (.ref a), some σ1, some vt] H1 := fun n t σ1 vt H1 s1 e1 hvt hn hne hst q => by
    subst e1
    refine go_ifs (b := false) ((et_and (et_B (ev_isi (ev_var (i := 2) rfl hvt) (kd_int t))) (b := false) fun z => ?_).is (Bool.and_false _)) (fun z => nomatch z) (fun _ => ?_)
    · cases t with
      | num m => exact (et_test (ev_eqI (ev_var (i := 1) rfl (.int _)) (ev_var (i := 2) rfl hvt))).is (decide_eq_false fun e => hne (congrArg Kd.num (show m = n by omega)))
      | nm s => cases z
      | way a b => cases z
      | pair a b => cases z
    refine go_ifs (b := false) (et_B fun H2 u Q' q' => ?_) (fun z => nomatch z) (fun _ => ?_)
    · have hS1 := hS.keep u.1
      obtain ⟨⟨dx, h1⟩, _⟩ := id hS1
      exact ⟨_, rfl, a, dx, _, rfl, h1, rfl, _, rfl, _, rfl, a, b, S, n, t, vt, rfl, hS1, hvt.keep u.2, hst, fun H' s => q' _ H' s (.bl _)⟩
    · intro H2 u2
      have hv2 := hvt.keep u2.2
      obtain ⟨H4, p1, p2, p3, p4⟩ := hS.put u2.1 hn hv2 hl
      obtain ⟨⟨dx, h1⟩, _⟩ := id (hS.keep u2.1)
      exact ⟨vt, rfl, _, rfl, a, C, dx, _, .ref b, rfl, h1, A.cl, A.nb, rfl, _, rfl, b, H4, rfl, p1, q H4 p2 ((TK.of u2.1).trans p3) p4⟩
  refine Go.run (K := K) (B := H) ?_ (.refl H)
  cases hm with
  | @same n =>
    refine go_ifs (b := false) (et_not (a := true) (et_B (ev_isi (ev_var rfl h1) k_ii))) (fun z => nomatch z) (fun _ => ?_)
    refine go_ifs (b := true) (et_and (a := true) (b := true) (et_B (ev_isi (ev_var rfl h2) k_ii)) fun _ => (et_test (ev_eqI (ev_var rfl h1) (ev_var rfl h2))).is (decide_eq_true rfl)) (fun _ => ?_) (fun z => nomatch z)
    exact go_ret ev_non fun v H1 u hv => by rw [hv.none_inv]; exact q H1 (wo_same.trans u.1) u.2 (hS.keep u.1)
  | @left n t hn hne hst =>
    refine go_ifs (b := false) (et_not (a := true) (et_B (ev_isi (ev_var rfl h1) k_ii))) (fun z => nomatch z) (fun _ => ?_)
    exact rest n y _ _ H (.refl H) h1.int_inv h2 hn hne hst q
  | @right n t hn hne hst =>
    refine go_ifs (b := true) (et_not (a := false) ((et_B (ev_isi (ev_var rfl h1) (kd_int x))).is ?_)) (fun _ => ?_) (fun z => nomatch z)
    · cases x with
      | num m => exact absurd rfl (hne m)
      | nm s => rfl
      | way a b => rfl
      | pair a b => rfl
    · refine go_par (ea_cons (ev_var (i := 2) rfl h2) (ea_cons (ev_var (i := 1) rfl h1) ea_nil)) fun w1 w2 H1 u1 hw1 hw2 => ?_
      exact (rest n x _ _ H1 u1.1 hw1.int_inv hw2 hn (hne n) hst q) H1 ⟨u1.1, .refl _⟩
end Fw
set_option Elab.async false
set_option linter.all false
set_option maxRecDepth 100000
set_option maxHeartbeats 1000000
namespace Fw
open PySem L2 Fd
/-! ### kinds shallow enough -/
theorem lay_kd {k : Kd} (h : namesK PN k) : (kd k).canLay0 = true := by
  have w1 : PyData.strOk "way" = true := by decide +kernel
  have w2 : PyData.strOk "pair" = true := by decide +kernel
  induction k with
  | nm s => simp only [kd, PyData.canLay0]; exact pn_ok h
  | num n => simp only [kd, PyData.canLay0]
  | way a b i1 i2 => simp only [kd, PyData.canLay0, PyData.canLayAll0, w1, i1 h.1, i2 h.2, Bool.and_self]
  | pair a b i1 i2 => simp only [kd, PyData.canLay0, PyData.canLayAll0, w2, i1 h.1, i2 h.2, Bool.and_self]
theorem depth_kd (k : Kd) : (kd k).depth = k.depth := by
  induction k with
  | nm s => simp only [kd, PyData.depth, Kd.depth]
  | num n => simp only [kd, PyData.depth, Kd.depth]
  | way a b i1 i2 => simp only [kd, PyData.depth, PyData.depthAll, Kd.depth, i1, i2]; omega
  | pair a b i1 i2 => simp only [kd, PyData.depth, PyData.depthAll, Kd.depth, i1, i2]; omega
def rowK (r : Kd × Kd) : PyData := .tuple [kd r.1, kd r.2]
theorem shaped_kd {N : Nat} {k : Kd} (h : KOk N k) : SeqAt.shaped (kd k) = true := by
  unfold SeqAt.shaped
  rw [Bool.and_eq_true]
  exact ⟨lay_kd h.nm, decide_eq_true (by rw [depth_kd]; have := h.dp; omega)⟩
theorem shaped_rows {N : Nat} {rows : Rows} (h : ∀ r ∈ rows, KOk N r.1 ∧ KOk N r.2) : SeqAt.shaped (.list (rows.map rowK)) = true := by
  have z : PyData.canLayAll0 (rows.map rowK) = true ∧ PyData.depthAll (rows.map rowK) ≤ 60 := by
    induction rows with
    | nil => exact ⟨rfl, Nat.zero_le _⟩
    | cons r t ih =>
      obtain ⟨h1, h2⟩ := ih fun d hd => h d (List.mem_cons_of_mem _ hd)
      obtain ⟨h3, h4⟩ := h r List.mem_cons_self
      have := h3.dp
      have := h4.dp
      exact ⟨by simp only [List.map_cons, rowK, PyData.canLay0, PyData.canLayAll0, lay_kd h3.nm, lay_kd h4.nm, h1, Bool.and_self], by simp only [List.map_cons, rowK, PyData.depthAll, PyData.depth, depth_kd]; omega⟩
  unfold SeqAt.shaped
  rw [Bool.and_eq_true]
  refine ⟨by simp only [PyData.canLay0]; exact z.1, decide_eq_true ?_⟩
  have := z.2
  simp only [PyData.depth]
  omega
theorem clash_nn {a b : Kd} (h : Clash a b) : (∀ n, a ≠ .num n) ∧ ∀ n, b ≠ .num n := by
  cases a <;> cases b <;> first | exact h.elim | exact ⟨(fun _ z => nomatch z), (fun _ z => nomatch z)⟩
theorem clash_ne {a b : Kd} (h : Clash a b) : PyData.eqv (kd a) (kd b) = false := by
  have wp : (("way" : Str) == "pair") = false := by decide +kernel
  have pw : (("pair" : Str) == "way") = false := by decide +kernel
  cases a <;> cases b <;> first | exact h.elim | (simp [kd, PyData.eqv, PyData.eqvAll, wp, pw]; try exact h)
section
variable {K : PySem.W.Frag} {B H H1 H2 : Hp} {σ : St} {ta tb te : TE} {v : V} {d : PyData} {D : Ends} {t2 : TS} {tr : TA}
theorem el_cat2 {l : Addr} {xs : List V} {ds es : List PyData} (hb : EvL K B ta σ H es) (ha : EvX K B tb σ H (.ref l)) (hl : B l = some (.lst xs)) (hm : ImAll K H xs ds) (hlen : es.length + ds.length ≤ 100000) : EvL K B (tOp rCat ta tb) σ H (es ++ ds) := fun H1 u Q q =>
  hb H1 u _ fun p ws H2 hp s2 h2 m2 => ha H2 (u.then s2) _ fun H3 s3 => by
    have u3 := (u.then s2).then s3
    refine ⟨p, l, ws, xs, rfl, rfl, s3 _ _ h2, u3.1 _ _ hl, by rw [hm.length, m2.length]; exact sz_of hlen, fun a ha => q a _ _ ?_ ?_ upd_same (((m2.keep (.of s3)).append (hm.keep u3.2)).keep (.of (same_new ha _)))⟩
    · exact (s2.trans s3).free ha
    · exact (s2.trans s3).trans (same_new ha _)
theorem go_set1L {i : Nat} {ds : List PyData} (h : EvL K B te σ H ds) (q : ∀ p vs H1, B p = none → Up K B H H1 → H1 p = some (.lst vs) → ImAll K H1 vs ds → D.nx (σ.set i (some (.ref p))) H1) : Go K B (tAsg te (gName i)) D σ H := fun H1 u => h H1 u _ fun p vs H2 hp s2 h2 m =>
  q p vs H2 (u.1.free hp) (u.then s2) h2 m
/-- x != [] -/
theorem ev_neNil {i : Nat} {l : Addr} {acc : List V} {ds : List PyData} (e : σ[i]? = some (some (.ref l))) (hl : B l = some (.lst acc)) (ma : ImAll K H acc ds) (hs : SeqAt.shaped (.list ds) = true) : Ev K B (tOp (rNeD K) (tVar i) (tLst tNil)) σ H (.bool (!ds.isEmpty)) := fun H1 u Q q => by
  refine ⟨_, e, Nat.zero_le _, fun p hp => ?_⟩
  have sn := same_new hp (.lst [])
  refine ⟨.list ds, .list [], .lst (SqL.of (sn _ _ (u.1 _ _ hl))) ((ma.keep u.2).keep (.of sn)).dp, .lst (SqL.of upd_same) .nil, hs, by decide +kernel, ?_⟩
  have e : PyData.eqv (.list ds) (.list []) = ds.isEmpty := by cases ds <;> simp [PyData.eqv, PyData.eqvAll]
  rw [e]
  exact q _ _ sn (.bl _)
end
variable {P : Program} {w : World} {K : PySem.W.Frag} {mg : Str → Option Value} {base : Heap}
abbrev s_Agreeing_made_alike : Stmt := inClass (top 22) 4
abbrev nm_Agreeing_made_alike : List Str := ["self", "one", "other", "rows", "stopped"]
theorem sc_Agreeing_made_alike : FnScope nm_Agreeing_made_alike ["self", "one", "other"] (defScope s_Agreeing_made_alike) := ⟨rfl, rfl, rfl, by decide +kernel, rfl, by decide +kernel, by decide +kernel⟩
def spAl (K : PySem.W.Frag) (C : Addr) (c : Nat) : Sp := fun vs H Q _ => ∃ (a b : Addr) (S S' : Bec) (m N : Nat) (r : Bool) (x y : Kd) (v1 v2 : V), vs = [.ref a, v1, v2] ∧ AgS K C H a b S ∧ Im K H v1 (kd x) ∧ Im K H v2 (kd y) ∧ Al c m S [(x, y)] r S' ∧ N ≤ 10000 ∧ SOk N S ∧ KOk N x ∧ KOk N y ∧
  ∀ v' H', Same (wo H b) H' → TK K H H' → AgS K C H' a b S' → (r = true → v' = .non) → (r = false → ∃ d, Im K H' v' d ∧ isN d = false) → Q v' H'
theorem alike_ok {C : Addr} (A : AgC K C) (T : Tx K mg) (c : Nat) (D : DfnM K C "made_alike" "Agreeing.made_alike" s_Agreeing_made_alike ["self", "one", "other"]) (C1 : CalM P w K mg base 1 C "seen" ["self", "kind"] (spSeen K C)) (C2 : CalM P w K mg base (c + 1) C "whole" ["self", "kind"] (spWhole K C c))
    (C3 : CalM P w K mg base (c + 2) C "number_met" ["self", "one", "other"] (spMet K C c)) : CalM P w K mg base (c + 3) C "made_alike" ["self", "one", "other"] (spAl K C c) := by
  obtain ⟨f, fd, F, c_, b_⟩ := D
  have cl_Agreeing := A.cl
  obtain ⟨_, _, G_seen, c_seen, b_seen⟩ := C1.mono (show 1 ≤ c + 2 by omega)
  obtain ⟨_, _, G_whole, c_whole, b_whole⟩ := C2.mono (show c + 1 ≤ c + 2 by omega)
  obtain ⟨_, _, G_number_met, c_number_met, b_number_met⟩ := C3
  refine ⟨f, fd, F.ok sc_Agreeing_made_alike (fun vs H Q E ⟨_, _, _, _, _, _, _, _, _, _, _, e, _⟩ => by rw [e]; rfl) (fun cdv A' outer s H vs Q E hr h => ?_), c_, b_⟩
  obtain ⟨a, b, S, S', m, N, r, x, y, v1, v2, rfl, hS, h1, h2, hal, hN, hso, hkx, hky, q⟩ := h
  refine ⟨_, (pss_cons (ps_set (i := 3) sc_Agreeing_made_alike.nd rfl (Or.inl rfl) (pe_lst (pa_cons (pe_tup (pa_cons (pv 1) (pa_cons (pv 2) pa_nil))) pa_nil)))
 (pss_cons (ps_while PassesOwn.never (pt_cmpR (op_neD hr.units) (pv 3) (pe_lst pa_nil) (nomark _))
 (pss_cons (ps_asg (pe_bm PySem.F.plainAttrs_list PySem.F.slot_list_pop PySem.F.type_list_pop mt_popAt (pv 3) (pa_cons pe_int pa_nil)) (pg_tup rfl (pgs_cons (pg_name (i := 1) sc_Agreeing_made_alike.nd rfl (Or.inl rfl)) (pgs_cons (pg_name (i := 2) sc_Agreeing_made_alike.nd rfl (Or.inl rfl)) pgs_nil))))
 (pss_cons (ps_par (i := 1) (j := 2) rfl sc_Agreeing_made_alike.nd rfl rfl (by decide) rfl rfl (pa_cons (pe_meth (pv 0) cl_Agreeing c_seen G_seen hr b_seen .nil pass0 (pa_cons (pv 1) pa_nil)) (pa_cons (pe_meth (pv 0) cl_Agreeing c_seen G_seen hr b_seen .nil pass0 (pa_cons (pv 2) pa_nil)) pa_nil)) rfl)
 (pss_one (ps_if (PW.pt (pw_or (pt_val (pe_callB call_isi rfl T.isinstance_ (by decide +kernel) (pa_cons (pv 1) (pa_cons (pe_bltn (v := .ty "int") rfl T.int_ (by decide +kernel) rfl) pa_nil)))) (pw_or1 (pt_val (pe_callB call_isi rfl T.isinstance_ (by decide +kernel) (pa_cons (pv 2) (pa_cons (pe_bltn (v := .ty "int") rfl T.int_ (by decide +kernel) rfl) pa_nil)))))))
 (pss_cons (ps_set (i := 4) sc_Agreeing_made_alike.nd rfl (Or.inl rfl) (pe_meth (pv 0) cl_Agreeing c_number_met G_number_met hr b_number_met .nil pass0 (pa_cons (pv 1) (pa_cons (pv 2) pa_nil))))
 (pss_one (ps_if (pt_cmp (pc_notN (pv 4)))
 (pss_one (ps_ret (pv 4)))
 pss_nil)))
 (pss_one (ps_if (PW.pt (pw_and (pt_val (pe_callB call_isi rfl T.isinstance_ (by decide +kernel) (pa_cons (pv 1) (pa_cons (pe_bltn (v := .ty "tuple") rfl T.tuple_ (by decide +kernel) rfl) pa_nil)))) (pw_and (pt_val (pe_callB call_isi rfl T.isinstance_ (by decide +kernel) (pa_cons (pv 2) (pa_cons (pe_bltn (v := .ty "tuple") rfl T.tuple_ (by decide +kernel) rfl) pa_nil)))) (pw_and1 (pt_cmpR op_eq (pe_ix ix_tup (pv 1) pe_int (fun _ _ => rfl)) (pe_ix ix_tup (pv 2) pe_int (fun _ _ => rfl)) (nomark _))))))
 (pss_one (ps_set (i := 3) sc_Agreeing_made_alike.nd rfl (Or.inl rfl) (pe_op op_cat (pe_lst (pa_cons (pe_tup (pa_cons (pe_ix ix_tup (pv 1) pe_int (fun _ _ => rfl)) (pa_cons (pe_ix ix_tup (pv 2) pe_int (fun _ _ => rfl)) pa_nil))) (pa_cons (pe_tup (pa_cons (pe_ix ix_tup (pv 1) pe_int (fun _ _ => rfl)) (pa_cons (pe_ix ix_tup (pv 2) pe_int (fun _ _ => rfl)) pa_nil))) pa_nil))) (pv 3))))
 (pss_one (ps_if (pt_cmpR (op_neD hr.units) (pv 1) (pv 2) (nomark _))
 (pss_one (ps_ret (pe_tup (pa_cons pe_str (pa_cons (pe_meth (pv 0) cl_Agreeing c_whole G_whole hr b_whole .nil pass0 (pa_cons (pv 1) pa_nil)) (pa_cons (pe_meth (pv 0) cl_Agreeing c_whole G_whole hr b_whole .nil pass0 (pa_cons (pv 2) pa_nil)) pa_nil))))))
 pss_nil)))))))))
 (pss_one (ps_ret pe_non)))), ?_⟩
  refine Go.run (K := K) (B := H) ?_ (.refl H)
  refine go_setL (el_lst (ea_cons (ev_tup (ea_cons (ev_var rfl h1) (ea_cons (ev_var rfl h2) ea_nil)) (by simp)) ea_nil) (by simp)) fun l ws H1 hl u1 hl1 m1 => ?_
  refine Go.run (K := K) (B := H1) (H := H1) ?_ (.refl H1)
  refine go_seq (go_while (fun m σ' H' => ∃ (S1 : Bec) (rows : Rows) (acc : List V) (l : Addr) (o1 o2 o4 : Option V), σ' = [some (.ref a), o1, o2, some (.ref l), o4] ∧ Same (wo H b) H' ∧ TK K H H' ∧ AgS K C H' a b S1 ∧ wo H b l = none ∧ H' l = some (.lst acc) ∧ ImAll K H' acc (rows.map rowK) ∧ Al c m S1 rows r S' ∧ SOk N S1 ∧ ∀ r ∈ rows, KOk N r.1 ∧ KOk N r.2)
    (fun H2 u2 => ⟨m, S, [(x, y)], ws, l, _, _, _, rfl, wo_same.trans (u1.1.trans u2.1), u1.2.trans u2.2, hS.keep (u1.1.trans u2.1), by unfold wo; rw [hl]; split <;> rfl, u2.1 _ _ hl1, m1.keep u2.2, hal, hso, fun r hr => by rw [List.mem_singleton.mp hr]; exact ⟨hkx, hky⟩⟩)
    fun m σ' H' ⟨S1, rows, acc, l, o1, o2, o4, es, sm, tk, ag, hfl, hl', ma, hal, hso, hrows⟩ => ?_)
  subst es
  refine ⟨!(rows.map rowK).isEmpty, et_test (ev_neNil (i := 3) rfl hl' ma (shaped_rows hrows)), fun z H2 s2 => ?_, fun z H2 s2 => ?_⟩
  rotate_left
  · cases rows with
    | nil => 
      cases hal
      exact q .non H2 (sm.trans s2) (tk.trans (.of s2)) (ag.keep s2) (fun _ => rfl) (fun z => nomatch z)
    | cons r t => cases z
  · cases rows with
    | nil => cases z
    | cons row t =>
      obtain ⟨x, y⟩ := row
      cases ma with
      | @cons w0 acc' _ _ hw0 hacc =>
        have hx := (hrows _ List.mem_cons_self).1
        have hy := (hrows _ List.mem_cons_self).2
        have ht : ∀ r ∈ t, KOk N r.1 ∧ KOk N r.2 := fun r hr => hrows r (List.mem_cons_of_mem _ hr)
        have hl2 : H2 l = some (.lst (w0 :: acc')) := s2 _ _ hl'
        refine ⟨_, rfl, .inl ⟨rfl, _, SqL.of hl2⟩, l, _, 0, 0, w0, rfl, rfl, hl2, by decide, by decide, (ixN_seq (by unfold ixN; simp)).1, rfl, ?_⟩
        have tk3 : TK K H2 (upd H2 l (.lst acc')) := TK.upd (by rw [hl2]; trivial)
        show gTup K 2 _ w0 _ (upd H2 l (.lst acc')) _
        refine g_2 ((hw0.keep (.of s2)).keep tk3) fun vx vy hvx hvy => ?_
        obtain ⟨H3, eH3⟩ : ∃ H3, H3 = upd H2 l (.lst acc') := ⟨_, rfl⟩
        rw [← eH3] at tk3 hvx hvy ⊢
        have hl3 : H3 l = some (.lst acc') := by rw [eH3]; exact upd_same
        have ag3 : AgS K C H3 a b S1 := by
          obtain ⟨⟨dx, g1⟩, kvs, g2, g3⟩ := ag.keep s2
          have na : a ≠ l := by intro e; subst e; rw [g1] at hl2; cases hl2
          have nb : b ≠ l := by intro e; subst e; rw [g2] at hl2; cases hl2
          exact ⟨⟨dx, by rw [eH3, upd_ne na]; exact g1⟩, kvs, by rw [eH3, upd_ne nb]; exact g2, g3.keep tk3⟩
        have hacc3 : ImAll K H3 acc' (t.map rowK) := (hacc.keep (.of s2)).keep tk3
        have sm3 : Same (wo H b) H3 := fun p o ho => by
          rw [eH3, upd_ne (ne_of_none ho hfl)]
          exact s2 _ _ (sm _ _ ho)
        have tkH3 : TK K H H3 := tk.trans ((TK.of s2).trans tk3)
        have seen : ∀ {σ : St} {i m : Nat} {vk : V} {k k' : Kd}, Sn S1 m k k' → σ[0]? = some (some (.ref a)) → σ[i]? = some (some vk) → Im K H3 vk (kd k) → Ev K H3 (tMeth C "seen" (spSeen K C) [] E0 (tVar 0) (tCons (tVar i) tNil)) σ H3 (kd k') := fun hs e0 e1 hk H5 u Q' q' => by
          have hS1 := ag3.keep u.1
          obtain ⟨⟨dx, g1⟩, _⟩ := id hS1
          exact ⟨_, e0, a, dx, _, rfl, g1, rfl, _, e1, a, b, S1, _, _, _, _, rfl, hS1, hk.keep u.2, hs, fun v' H' s hv => q' v' H' s hv⟩
        have whole : ∀ {σ : St} {i : Nat} {vk : V} {k k' : Kd} {H5 : Hp}, Wh S1 c k k' → Same H3 H5 → σ[0]? = some (some (.ref a)) → σ[i]? = some (some vk) → Im K H5 vk (kd k) → Ev K H5 (tMeth C "whole" (spWhole K C c) [] E0 (tVar 0) (tCons (tVar i) tNil)) σ H5 (kd k') := fun hs s35 e0 e1 hk H6 u Q' q' => by
          have hS1 := ag3.keep (s35.trans u.1)
          obtain ⟨⟨dx, g1⟩, _⟩ := id hS1
          exact ⟨_, e0, a, dx, _, rfl, g1, rfl, _, e1, a, b, S1, _, _, _, rfl, hS1, hk.keep u.2, hs, fun v' H' s hv => q' v' H' s hv⟩
        have tops : ∃ (i j : Nat) (x' y' : Kd), Sn S1 i x x' ∧ Sn S1 j y y' ∧ ((∃ S2 m', m' < m ∧ Met S1 c x' y' S2 ∧ Al c m' S2 t r S' ∧ SOk N S2) ∨ ((∀ n, x' ≠ .num n) ∧ (∀ n, y' ≠ .num n) ∧ ((∃ (wd : Str) (x1 x2 y1 y2 : Kd) (m' : Nat), t.length ≤ 32768 ∧ kd x' = .tuple [.str wd, kd x1, kd x2] ∧ kd y' = .tuple [.str wd, kd y1, kd y2] ∧ m' < m ∧ Al c m' S1 ((x1, y1) :: (x2, y2) :: t) r S' ∧ KOk N x1 ∧ KOk N x2 ∧ KOk N y1 ∧ KOk N y2) ∨
            (∃ s m', x' = .nm s ∧ y' = .nm s ∧ m' < m ∧ Al c m' S1 t r S') ∨ (∃ p q, Clash x' y' ∧ Wh S1 c x' p ∧ Wh S1 c y' q ∧ r = false ∧ S' = S1)))) := by
          cases hal with
          | same e1 e2 e3 => exact ⟨_, _, _, _, e1, e2, .inl ⟨_, _, Nat.lt_succ_self _, .same, e3, hso⟩⟩
          | left e1 e2 e3 e4 e5 => exact ⟨_, _, _, _, e1, e2, .inl ⟨_, _, Nat.lt_succ_self _, .left (e1.last _ rfl) e3 e4, e5, hso.snoc (e1.last _ rfl) (Sn.ok hso e1 hx).lo (Sn.ok hso e2 hy)⟩⟩
          | right e1 e2 e3 e4 e5 => exact ⟨_, _, _, _, e1, e3, .inl ⟨_, _, Nat.lt_succ_self _, .right (e3.last _ rfl) e2 e4, e5, hso.snoc (e3.last _ rfl) (Sn.ok hso e3 hy).lo (Sn.ok hso e1 hx)⟩⟩
          | way e1 e2 e3 e4 => exact ⟨_, _, _, _, e1, e2, .inr ⟨(fun _ z => nomatch z), (fun _ z => nomatch z), .inl ⟨_, _, _, _, _, _, e4, rfl, rfl, Nat.lt_succ_self _, e3, (Sn.ok hso e1 hx).way.1, (Sn.ok hso e1 hx).way.2, (Sn.ok hso e2 hy).way.1, (Sn.ok hso e2 hy).way.2⟩⟩⟩
          | pair e1 e2 e3 e4 => exact ⟨_, _, _, _, e1, e2, .inr ⟨(fun _ z => nomatch z), (fun _ z => nomatch z), .inl ⟨_, _, _, _, _, _, e4, rfl, rfl, Nat.lt_succ_self _, e3, (Sn.ok hso e1 hx).pair.1, (Sn.ok hso e1 hx).pair.2, (Sn.ok hso e2 hy).pair.1, (Sn.ok hso e2 hy).pair.2⟩⟩⟩
          | name e1 e2 e3 => exact ⟨_, _, _, _, e1, e2, .inr ⟨(fun _ z => nomatch z), (fun _ z => nomatch z), .inr (.inl ⟨_, _, rfl, rfl, Nat.lt_succ_self _, e3⟩)⟩⟩
          | clash e1 e2 e3 e4 e5 => exact ⟨_, _, _, _, e1, e2,   .inr ⟨(clash_nn e3).1, (clash_nn e3).2, .inr (.inr ⟨_, _, e3, e4, e5, rfl, rfl⟩)⟩⟩
        obtain ⟨i, j, x', y', hsx, hsy, hcase⟩ := tops
        have okx := Sn.ok hso hsx hx
        have oky := Sn.ok hso hsy hy
        refine (go_seq (K := K) (B := H3) (H := H3) (go_par (ea_cons (seen hsx rfl (i := 1) rfl hvx) (ea_cons (seen hsy rfl (i := 2) rfl hvy) ea_nil)) fun w1 w2 H4 u4 hw1 hw2 => ?_)) H3 (.refl (.refl _))
        have ag4 := ag3.keep u4.1
        have hl4 : H4 l = some (.lst acc') := u4.1 _ _ hl3
        rcases hcase with ⟨S2, m', hm', hmet, hal', hso'⟩ | ⟨nx, ny, hcase⟩
        · refine (go_if (K := K) (B := H4) (H := H4) (b := true) ((et_or (et_B (ev_isi (ev_var (i := 1) rfl hw1) (kd_int x'))) fun _ => et_B (ev_isi (ev_var (i := 2) rfl hw2) (kd_int y'))).is ?_) (fun _ H5 u5 => ?_) (fun z => nomatch z)) H4 (.refl (.refl _))
          · cases hmet with
            | same => rfl
            | left _ _ _ => rfl
            | right _ _ _ => exact Bool.or_true _
          have ag5 := ag4.keep u5.1
          obtain ⟨⟨dx, g1⟩, kvs, g2, g3⟩ := id ag5
          have hl5 := u5.1 _ _ hl4
          have nlb : l ≠ b := by intro e; subst e; rw [g2] at hl5; cases hl5
          refine ⟨_, rfl, a, dx, _, rfl, g1, rfl, _, rfl, _, rfl, a, b, S1, S2, x', y', w1, w2, rfl, ag5, hw1.keep u5.2, hw2.keep u5.2, hmet, by have := hso.len; omega, fun H6 s6 t6 ag6 => ?_⟩
          refine (go_if (K := K) (B := H6) (H := H6) (b := false) (et_lost (ev_var (i := 4) rfl .non)) (fun z => nomatch z) (fun _ => go_next fun H7 u7 => ?_)) H6 (.refl (.refl _))
          refine ⟨m', hm', S2, t, acc', l, _, _, _, rfl, fun p o ho => ?_, tkH3.trans (u4.2.trans (u5.2.trans (t6.trans u7.2))), ag6.keep u7.1, hfl, u7.1 _ _ (s6 _ _ (by rw [wo_ne nlb]; exact hl5)), hacc3.keep (u4.2.trans (u5.2.trans (t6.trans u7.2))), hal', hso', ht⟩
          have npb : p ≠ b := by intro e; subst e; rw [wo_l] at ho; cases ho
          exact u7.1 _ _ (s6 _ _ (by rw [wo_ne npb]; exact u5.1 _ _ (u4.1 _ _ (sm3 _ _ ho))))
        · refine (go_if (K := K) (B := H4) (H := H4) (b := false) ((et_or (et_B (ev_isi (ev_var (i := 1) rfl hw1) (kd_int x'))) fun _ => et_B (ev_isi (ev_var (i := 2) rfl hw2) (kd_int y'))).is ?_) (fun z => nomatch z) (fun _ => ?_)) H4 (.refl (.refl _))
          · cases x' <;> first | exact absurd rfl (nx _) | (cases y' <;> first | exact absurd rfl (ny _) | rfl)
          have keepF : ∀ {H7 : Hp}, Same H4 H7 → Same (wo H b) H7 := fun s7 => sm3.trans (u4.1.trans s7)
          rcases hcase with ⟨wd, x1, x2, y1, y2, m', hlen, ex, ey, hm', hal', k1, k2, k3, k4⟩ | ⟨s, m', ex, ey, hm', hal'⟩ | ⟨p, p', hcl, hp1, hp2, er, eS⟩
          · have tx : tyD (kd x') = "tuple" := by rw [ex]; rfl
            have ty : tyD (kd y') = "tuple" := by rw [ey]; rfl
            have hw1' : Im K H4 w1 (.tuple [.str wd, kd x1, kd x2]) := ex ▸ hw1
            have hw2' : Im K H4 w2 (.tuple [.str wd, kd y1, kd y2]) := ey ▸ hw2
            refine go_if (b := true) ((et_and (a := true) (b := true) (et_B (ev_isi (ev_var (i := 1) rfl hw1) (by rw [tx]; exact k_tt))) fun _ => et_and (a := true) (b := true) (et_B (ev_isi (ev_var (i := 2) rfl hw2) (by rw [ty]; exact k_tt))) fun _ => (et_test (ev_eqS (ev_word (i := 1) rfl hw1') (ev_word (i := 2) rfl hw2'))).is (decide_eq_true rfl)).is rfl) (fun _ => ?_) (fun z => nomatch z)
            refine go_set1L (el_cat2 (es := [rowK (x1, y1), rowK (x2, y2)]) (el_lst (ea_cons (ev_tup (ea_cons (ev_ix (ev_var (i := 1) rfl hw1') ev_int rfl) (ea_cons (ev_ix (ev_var (i := 2) rfl hw2') ev_int rfl) ea_nil)) (by simp)) (ea_cons (ev_tup (ea_cons (ev_ix (ev_var (i := 1) rfl hw1') ev_int rfl) (ea_cons (ev_ix (ev_var (i := 2) rfl hw2') ev_int rfl) ea_nil)) (by simp)) ea_nil)) (by simp)) (ex_var (i := 3) rfl) hl4 (hacc3.keep u4.2) (by simp; omega)) fun p ws7 H7 hp7 u7 h7 m7 => ?_
            refine ⟨m', hm', S1, (x1, y1) :: (x2, y2) :: t, ws7, p, _, _, _, rfl, keepF u7.1, tkH3.trans (u4.2.trans u7.2), ag4.keep u7.1, (keepF (.refl _)).free hp7, h7, m7, hal', hso, fun r hr => ?_⟩
            rcases List.mem_cons.mp hr with rfl | hr
            · exact ⟨k1, k3⟩
            · rcases List.mem_cons.mp hr with rfl | hr
              · exact ⟨k2, k4⟩
              · exact ht r hr
          · subst ex ey
            refine go_if (b := false) ((et_and (a := false) (b := false) (et_B (ev_isi (ev_var (i := 1) rfl hw1) k_st)) (fun z => nomatch z)).is rfl) (fun z => nomatch z) (fun _ => ?_)
            refine go_if (b := false) ((et_test (ev_neD rfl (ev_var (i := 1) rfl hw1) (ev_var (i := 2) rfl hw2) (shaped_kd okx) (shaped_kd oky))).is (by simp [kd, PyData.eqv])) (fun z => nomatch z) (fun _ => go_next fun H7 u7 => ?_)
            exact ⟨m', hm', S1, t, acc', l, _, _, _, rfl, keepF u7.1, tkH3.trans (u4.2.trans u7.2), ag4.keep u7.1, hfl, u7.1 _ _ hl4, hacc3.keep (u4.2.trans u7.2), hal', hso, ht⟩
          · subst eS
            refine go_if (b := false) ((et_and (et_B (ev_isi (ev_var (i := 1) rfl hw1) (kd_tup x'))) (b := false) fun z => ?_).is (Bool.and_false _)) (fun z => nomatch z) (fun _ => ?_)
            · refine (et_and (et_B (ev_isi (ev_var (i := 2) rfl hw2) (kd_tup y'))) (b := false) fun z2 => ?_).is (Bool.and_false _)
              have wp : decide (("way" : Str) = "pair") = false := by decide +kernel
              have pw : decide (("pair" : Str) = "way") = false := by decide +kernel
              cases x' with
              | nm _ => cases z
              | num _ => cases z
              | way x1 x2 =>
                cases y' with
                | nm _ => cases z2
                | num _ => cases z2
                | way _ _ => exact hcl.elim
                | pair y1 y2 => exact (et_test (ev_eqS (ev_word (i := 1) rfl hw1) (ev_word (i := 2) rfl hw2))).is wp
              | pair x1 x2 =>
                cases y' with
                | nm _ => cases z2
                | num _ => cases z2
                | pair _ _ => exact hcl.elim
                | way y1 y2 => exact (et_test (ev_eqS (ev_word (i := 1) rfl hw1) (ev_word (i := 2) rfl hw2))).is pw
            refine go_if (b := true) ((et_test (ev_neD rfl (ev_var (i := 1) rfl hw1) (ev_var (i := 2) rfl hw2) (shaped_kd okx) (shaped_kd oky))).is (by rw [clash_ne hcl]; rfl)) (fun _ => ?_) (fun z => nomatch z)
            refine go_ret (ev_tup (ea_cons ev_str (ea_cons (whole hp1 u4.1 (i := 1) rfl rfl hw1) (ea_cons (whole hp2 u4.1 (i := 2) rfl rfl hw2) ea_nil))) (by simp)) fun v7 H7 u7 h7 => ?_
            exact q v7 H7 (keepF u7.1) (tkH3.trans (u4.2.trans u7.2)) (ag4.keep u7.1) (fun z => by rw [er] at z; cases z) (fun _ => ⟨_, h7, rfl⟩)
end Fw
set_option Elab.async false
set_option linter.all false
set_option maxRecDepth 100000
set_option maxHeartbeats 1000000
namespace Fw
open PySem L2 Fd
section
variable {K : PySem.W.Frag} {B H H1 H2 : Hp} {σ : St} {ta tb te : TE} {v : V} {d : PyData} {D : Ends} {t2 : TS} {tr : TA} {g : TG} {tt : TT} {vs : List Nat}
/-- a comprehension over an empty dict -/
theorem el_keys0 {j : Nat} {d : Addr} (e : σ[j]? = some (some (.ref d))) (hd : B d = some (.dK [])) : EvL K B (tLockE (tLc (iKeys (tVar j)) g tt te vs)) σ H [] := fun H1 u Q q => by
  have hd1 := u.1 _ _ hd
  refine ⟨d, .dK [], hd1, trivial, fun od => ⟨_, e, d, od, rfl, .inl ⟨[], upd_same, fun E hE => ?_⟩⟩⟩
  have hdE : d ≠ E := by intro z; subst z; rw [upd_same] at hE; cases hE
  have hE1 : H1 E = none := by rw [upd_ne hdE.symm] at hE; exact hE
  refine ⟨fun i m H => i = 0 ∧ H = upd (upd H1 d (.frz od (.dK []))) E (.lst []), ⟨0, rfl, rfl⟩, fun i m H ⟨ei, eH⟩ => .inl ?_⟩
  subst ei eH
  have h1 : upd (upd H1 d (.frz od (.dK []))) E (.lst []) d = some (.frz od (.dK [])) := by rw [upd_ne hdE]; exact upd_same
  refine ⟨⟨h1, Nat.zero_le _⟩, h1, q E [] _ hE1 (fun b o hb => ?_) (by rw [upd_ne hdE.symm]; exact upd_same) .nil⟩
  by_cases z : b = d
  · subst z; rw [upd_same, ← hd1]; exact hb
  · rw [upd_ne z, upd_ne (ne_of_none hb hE1), upd_ne z]; exact hb
end
variable {P : Program} {w : World} {K : PySem.W.Frag} {mg : Str → Option Value} {base : Heap}
/-! ### can it be asked -/
abbrev s_can_be_asked : Stmt := top 29
abbrev nm_can_be_asked : List Str := ["book", "deed", "names", "name", "kind"]
theorem sc_can_be_asked : FnScope nm_can_be_asked ["book", "deed"] (defScope s_can_be_asked) := ⟨rfl, rfl, rfl, by decide +kernel, rfl, by decide +kernel, by decide +kernel⟩
def rCan (n : Nat) : List PyData → PyData → Prop := fun ds r => ∃ (bk : Bk) (d : Dd), bk.length ≤ 3 ∧ d.depth ≤ n ∧ d.size ≤ 10000 ∧ namesD PN d ∧ held 0 d ∧ (∀ s ∈ usedF d, s ∈ bk.map Prod.fst) ∧ ds = [bkD bk, dd d] ∧ r = .bool true
theorem can_ok (T : Tx K mg) (n : Nat) (D : Dfn K mg "can_be_asked" s_can_be_asked ["book", "deed"]) (CW : Cal0 P w K mg base (n + 2) "is_whole" ["thing", "given"] (spI K (rWhole n))) (CU : Cal P w K mg base n "names_used" ["deed"] (spL K (rUsed n))) : Cal P w K mg base (n + 3) "can_be_asked" ["book", "deed"] (spI K (rCan n)) := by
  obtain ⟨f, fd, F, m_, b_⟩ := D
  obtain ⟨_, _, _, G_is_whole, m_is_whole, k_is_whole, b_is_whole⟩ := CW
  obtain ⟨_, _, G_names_used, m_names_used, k_names_used, b_names_used⟩ := CU.mono (show n ≤ n + 2 by omega)
  refine ⟨f, fd, F.ok sc_can_be_asked (spI_len fun ds d ⟨_, _, _, _, _, _, _, _, e, _⟩ => by rw [e]; rfl) (fun cdv A outer s H vs Q E hr h => ?_), m_, F.kp, b_⟩
  obtain ⟨ds, r, ⟨bk, d, hb, hd, hz, hpn, hh, hu, rfl, rfl⟩, hm, q⟩ := h
  obtain ⟨vb, v, rfl, h0, h1⟩ := inv2 hm
  refine ⟨_, (pss_cons (ps_set (i := 2) sc_can_be_asked.nd rfl (Or.inr rfl) (pe_lc (own := [("name", 3), ("kind", 4)]) (g := gTup K 2 (gCons (gName 3) (gCons (gName 4) gNil))) (tt := tYes) rfl sc_can_be_asked.nd (pi_tup (pv 0)) (blkOk_by (own := [("name", 3), ("kind", 4)]) (N := nm_can_be_asked) (sc := defScope s_can_be_asked) (by decide +kernel)) (fun _ _ _ _ _ => (pg_tup rfl (pgs_cons (pg_name (i := 3) sc_can_be_asked.nd rfl (Or.inl rfl)) (pgs_cons (pg_name (i := 4) sc_can_be_asked.nd rfl (Or.inl rfl)) pgs_nil)))) (fun _ _ _ _ _ => pts_nil) (fun _ _ _ _ _ => (pv 3))))
 (pss_one (ps_ret (pe_and (pe_call G_is_whole hr rfl m_is_whole k_is_whole b_is_whole (.cons (show RelV (.int 0) _ from ⟨_, rfl⟩) .nil) pass0 (pa_cons (pv 1) pa_nil)) (pe_one (pe_callB (cr_all rfl) rfl T.all_ (by decide +kernel) (pa_cons (pe_lc (own := [("name", 3)]) (g := gName 3) (tt := tYes) rfl sc_can_be_asked.nd (pi_list (pe_call G_names_used hr rfl m_names_used k_names_used b_names_used .nil pass0 (pa_cons (pv 1) pa_nil))) (blkOk_by (own := [("name", 3)]) (N := nm_can_be_asked) (sc := defScope s_can_be_asked) (by decide +kernel)) (fun _ _ _ _ _ => (pg_name (i := 3) sc_can_be_asked.nd rfl (Or.inl rfl))) (fun _ _ _ _ _ => pts_nil) (fun _ _ _ _ _ => (pe_cmpR (inK (K := K) rfl) (pv 3) (pv 2) rfl))) pa_nil))))))), ?_⟩
  refine Go.run (K := K) (B := H) ?_ (.refl H)
  refine go_setL (el_lcP (ds := bk.map rowD) (rs := (bk.map Prod.fst).map .str) (by decide) (ev_var rfl h0) (by simp; omega) (by simp) fun i d r H1 hd hr u => ?_) fun l ws H1 hl u1 hl1 m1 => ?_
  · rw [List.getElem?_map] at hd hr
    rw [List.getElem?_map] at hr
    cases e : bk[i]? with
    | none => rw [e] at hd; cases hd
    | some r' =>
      rw [e] at hd hr
      cases hd
      cases hr
      exact ⟨.str r'.1, kd r'.2, rfl, fun x y hx hy => ev_var rfl hx⟩
  · refine Go.run (K := K) (B := H1) (H := H1) ?_ (.refl H1)
    have hul := usedF_len d
    refine go_ret (d := .bool true) ((ev_andV (b := true) (ev_call0 (ea_cons (ev_var (i := 1) rfl (h1.keep u1.2)) ea_nil) ⟨d, hd, hpn, hh, rfl, rfl⟩) fun _ => (ev_all (bs := List.replicate ((usedF d).map PyData.str).length true) ?_).is (by simp)).is rfl) fun v H2 u2 hv => q v H2 (u1.1.trans u2.1) hv
    have el := el_lcM (K := K) (B := H1) (H := H1) (tt := tYes) (te := tOp (rIn K false) (tVar 3) (tVar 2)) (j := 3) (σ := [some vb, some v, some (.ref l), none, none]) (ds := (usedF d).map PyData.str) (ac := fun i => (List.replicate i true).map PyData.bool) (el_call (E := E0) (ea_cons (ev_var (i := 1) rfl (h1.keep u1.2)) ea_nil) (rel := rUsed n) ⟨d, hd, hz, rfl, rfl⟩) rfl (fun i hi => by simp at hi ⊢; omega) fun i d' v' H2 hd' u2 hv' => ⟨true, et_yes, fun _ => ⟨.bool true, ?_, ?_⟩, fun z => nomatch z⟩
    · exact el
    · rw [List.replicate_succ', List.map_append]; rfl
    · rw [List.getElem?_map] at hd'
      cases e : (usedF d)[i]? with
      | none => rw [e] at hd'; cases hd'
      | some s =>
        rw [e] at hd'
        cases hd'
        exact (ev_inSL (ev_var (i := 3) rfl hv') (ex_var (i := 2) rfl) (SqL.of hl1) (m1.keep u2.2)).is (by rw [decide_eq_true (hu s (List.mem_of_getElem? e))])
/-! ### the objects are made -/
abbrev s_Agreeing___init__ : Stmt := inClass (top 22) 0
abbrev nm_Agreeing___init__ : List Str := ["self"]
theorem sc_Agreeing___init__ : FnScope nm_Agreeing___init__ ["self"] (defScope s_Agreeing___init__) := ⟨rfl, rfl, rfl, by decide +kernel, rfl, by decide +kernel, by decide +kernel⟩
def spAgI (K : PySem.W.Frag) (C : Addr) : Sp := fun vs H Q _ => ∃ (a dx : Addr), vs = [.ref a] ∧ H a = some (.ins C dx []) ∧ ∀ H' b, H b = none → Same (wo H a) H' → TK K H H' → AgS K C H' a b [] → Q .non H'
theorem agI_ok {C f : Addr} {fd : FuncData} (A : AgC K C) (T : Tx K mg) (F : Fun K "__init__" "Agreeing.__init__" s_Agreeing___init__ f fd) : FnOk P w K mg base CX0 1 f fd ["self"] (spAgI K C) := by
  refine F.ok sc_Agreeing___init__ (fun vs H Q E ⟨_, _, e, _⟩ => by rw [e]; rfl) (fun cdv A' outer s H vs Q E hr h => ?_)
  obtain ⟨a, dx, rfl, ha, q⟩ := h
  refine ⟨_, (pss_one (ps_fld (pv 0) pe_dnewK rfl)), ?_⟩
  intro b hb
  have hab : a ≠ b := ne_of_none ha hb
  have s1 := same_new hb (.dK [])
  refine ⟨_, rfl, a, C, dx, [], rfl, s1 _ _ ha, A.cl, A.nb, by decide, ?_⟩
  have tk2 : TK K (upd H b (.dK [])) (upd (upd H b (.dK [])) a (.ins C dx (putF "became" (.ref b) []))) := TK.upd (by rw [s1 _ _ ha]; trivial)
  refine q _ b hb (fun x o hx => ?_) ((TK.of s1).trans tk2) ⟨⟨dx, upd_same⟩, [], by rw [upd_ne hab.symm]; exact upd_same, .nil⟩
  have hne : x ≠ a := by intro e; subst e; rw [wo_l] at hx; cases hx
  rw [upd_ne hne]
  rw [wo_ne hne] at hx
  exact s1 _ _ hx
end Fw
set_option Elab.async false
set_option linter.all false
set_option maxRecDepth 100000
set_option maxHeartbeats 1000000
namespace Fw
open PySem L2 Fd
variable {P : Program} {w : World} {K : PySem.W.Frag} {mg : Str → Option Value} {base : Heap}
/-! ### the object that infers -/
def inf (g a : Addr) (n : Nat) (pl : V) : List (Str × V) := [("book", .ref g), ("agreeing", .ref a), ("numbered", .int n), ("place", pl)]
structure InC (K : PySem.W.Frag) (CA CI : Addr) : Prop where
  ag : AgC K CA
  cl : Cls K CI
  nb : NoAttr K CI "book"
  na : NoAttr K CI "agreeing"
  nn : NoAttr K CI "numbered"
  np : NoAttr K CI "place"
def DictBk (K : PySem.W.Frag) (H : Hp) (g : Addr) (bk : Bk) : Prop := ∃ kvs, H g = some (.dK kvs) ∧ ∀ s k, bk.lookup s = some k → ∃ v, valV kvs (.inr s) = some v ∧ Im K H v (kd k)
def InfS (K : PySem.W.Frag) (CA CI : Addr) (H : Hp) (i a b g n : Nat) (bk : Bk) (S : Bec) : Prop := (∃ dx pl, H i = some (.ins CI dx (inf g a n pl))) ∧ AgS K CA H a b S ∧ DictBk K H g bk
theorem DictBk.keep {H H' : Hp} {g : Addr} {bk : Bk} (h : DictBk K H g bk) (s : ∀ o, H g = some o → H' g = some o) (t : TK K H H') : DictBk K H' g bk := by
  obtain ⟨kvs, h1, h2⟩ := h
  exact ⟨kvs, s _ h1, fun x k hx => by obtain ⟨v, hv, hm⟩ := h2 x k hx; exact ⟨v, hv, hm.keep t⟩⟩
theorem InfS.keep {CA CI : Addr} {H H' : Hp} {i a b g n : Nat} {bk : Bk} {S : Bec} (h : InfS K CA CI H i a b g n bk S) (s : Same H H') : InfS K CA CI H' i a b g n bk S := by
  obtain ⟨⟨dx, pl, h1⟩, h2, h3⟩ := h
  exact ⟨⟨dx, pl, s _ _ h1⟩, h2.keep s, h3.keep (s _) (.of s)⟩
theorem InfS.ne {CA CI : Addr} {H : Hp} {i a b g n : Nat} {bk : Bk} {S : Bec} (h : InfS K CA CI H i a b g n bk S) : i ≠ a ∧ i ≠ b ∧ i ≠ g ∧ a ≠ b ∧ a ≠ g := by
  obtain ⟨⟨dx, pl, h1⟩, ⟨⟨dy, h2⟩, kvs, h3, _⟩, kv2, h4, _⟩ := h
  refine ⟨fun e => ?_, fun e => ?_, fun e => ?_, fun e => ?_, fun e => ?_⟩
  · rw [e, h2] at h1; cases h1
  · rw [e, h3] at h1; cases h1
  · rw [e, h4] at h1; cases h1
  · rw [e, h3] at h2; cases h2
  · rw [e, h4] at h2; cases h2
/-- the object's own fields written -/
theorem InfS.put {CA CI : Addr} {H : Hp} {i a b g n m dx : Nat} {bk : Bk} {S : Bec} {pl : V} (h : InfS K CA CI H i a b g n bk S) : InfS K CA CI (upd H i (.ins CI dx (inf g a m pl))) i a b g m bk S ∧ TK K H (upd H i (.ins CI dx (inf g a m pl))) ∧ Same (wo H i) (upd H i (.ins CI dx (inf g a m pl))) := by
  obtain ⟨n1, n2, n3, n4, n5⟩ := h.ne
  obtain ⟨⟨dx', pl', h1⟩, ⟨⟨dy, h2⟩, kvs, h3, h4⟩, h5⟩ := h
  have tk : TK K H (upd H i (.ins CI dx (inf g a m pl))) := TK.upd (by rw [h1]; trivial)
  refine ⟨⟨⟨dx, pl, upd_same⟩, ⟨⟨dy, by rw [upd_ne n1.symm]; exact h2⟩, kvs, by rw [upd_ne n2.symm]; exact h3, h4.keep tk⟩, h5.keep (fun o ho => by rw [upd_ne n3.symm]; exact ho) tk⟩, tk, fun x o hx => ?_⟩
  have hne : x ≠ i := by intro e; subst e; rw [wo_l] at hx; cases hx
  rw [upd_ne hne]
  rw [wo_ne hne] at hx
  exact hx
theorem same_wo {H H' : Hp} {l : Addr} (s : Same (wo H l) H') {x : Addr} {o : HO} (hx : x ≠ l) (h : H x = some o) : H' x = some o := s _ _ (by rw [wo_ne hx]; exact h)
/-- what numbers have become, changed -/
theorem InfS.bec {CA CI : Addr} {H H' : Hp} {i a b g n : Nat} {bk : Bk} {S S' : Bec} (h : InfS K CA CI H i a b g n bk S) (s : Same (wo H b) H') (t : TK K H H') (h' : AgS K CA H' a b S') (hg : g ≠ b) : InfS K CA CI H' i a b g n bk S' := by
  obtain ⟨n1, n2, n3, n4, n5⟩ := h.ne
  obtain ⟨⟨dx, pl, h1⟩, _, h5⟩ := h
  exact ⟨⟨dx, pl, same_wo s n2 h1⟩, h', h5.keep (fun o ho => same_wo s hg ho) t⟩
theorem s_1 : ¬ ("book" : Str) = "agreeing" := by decide +kernel
theorem s_2 : ¬ ("book" : Str) = "numbered" := by decide +kernel
theorem s_3 : ¬ ("book" : Str) = "place" := by decide +kernel
theorem s_4 : ¬ ("agreeing" : Str) = "numbered" := by decide +kernel
theorem s_5 : ¬ ("agreeing" : Str) = "place" := by decide +kernel
theorem s_6 : ¬ ("numbered" : Str) = "place" := by decide +kernel
theorem put_num {g a n m : Nat} {pl : V} : putF "numbered" (.int (m : Int)) (inf g a n pl) = inf g a m pl := by
  unfold inf
  simp only [putF, if_neg s_2, if_neg s_4, if_true]
theorem put_place {g a n : Nat} {pl pl' : V} : putF "place" pl' (inf g a n pl) = inf g a n pl' := by
  unfold inf
  simp only [putF, if_neg s_3, if_neg s_5, if_neg s_6, if_true]
theorem put_all {g a : Nat} : putF "place" V.non (putF "numbered" (.int (0 : Nat)) (putF "agreeing" (.ref a) (putF "book" (.ref g) []))) = inf g a 0 .non := by
  unfold inf
  simp only [putF, if_neg s_1, if_neg s_2, if_neg s_4, if_neg s_3, if_neg s_5, if_neg s_6, if_true]
abbrev s_Inferring_another : Stmt := inClass (top 27) 1
abbrev nm_Inferring_another : List Str := ["self"]
theorem sc_Inferring_another : FnScope nm_Inferring_another ["self"] (defScope s_Inferring_another) := ⟨rfl, rfl, rfl, by decide +kernel, rfl, by decide +kernel, by decide +kernel⟩
def spAno (K : PySem.W.Frag) (CA CI : Addr) : Sp := fun vs H Q _ => ∃ (i a b g n : Nat) (bk : Bk) (S : Bec), vs = [.ref i] ∧ InfS K CA CI H i a b g n bk S ∧ ∀ H', Same (wo H i) H' → TK K H H' → InfS K CA CI H' i a b g (n + 1) bk S → Q (.int ((n + 1 : Nat) : Int)) H'
theorem another_ok {CA CI : Addr} (A : InC K CA CI) (T : Tx K mg) (D : DfnM K CI "another" "Inferring.another" s_Inferring_another ["self"]) : CalM P w K mg base 1 CI "another" ["self"] (spAno K CA CI) := by
  obtain ⟨f, fd, F, c_, b_⟩ := D
  refine ⟨f, fd, F.ok sc_Inferring_another (fun vs H Q E ⟨_, _, _, _, _, _, _, e, _⟩ => by rw [e]; rfl) (fun cdv A' outer s H vs Q E hr h => ?_), c_, b_⟩
  obtain ⟨i, a, b, g, n, bk, S, rfl, hI, q⟩ := h
  refine ⟨_, (pss_cons (ps_fld (pv 0) (pe_op op_add (pe_fld (pv 0) rfl) pe_int) rfl)
 (pss_one (ps_ret (pe_fld (pv 0) rfl)))), ?_⟩
  obtain ⟨⟨dx, pl, h1⟩, _, _⟩ := id hI
  obtain ⟨p1, p2, p3⟩ := hI.put (m := n + 1) (dx := dx) (pl := pl)
  refine ⟨_, rfl, i, CI, dx, _, .int (n : Int), rfl, h1, A.cl, A.nn, rfl, n, 1, rfl, rfl, _, rfl, i, CI, dx, _, rfl, h1, A.cl, A.nn, by show 4 < 1000; decide, ?_⟩
  have e : putF "numbered" (.int ((n : Int) + 1)) (inf g a n pl) = inf g a (n + 1) pl := put_num (m := n + 1)
  rw [e]
  exact ⟨_, rfl, i, CI, dx, _, .int ((n + 1 : Nat) : Int), rfl, upd_same, A.cl, A.nn, rfl, q _ p3 p2 p1⟩
abbrev s_Inferring_same : Stmt := inClass (top 27) 3
abbrev nm_Inferring_same : List Str := ["self", "one", "other", "place"]
theorem sc_Inferring_same : FnScope nm_Inferring_same ["self", "one", "other", "place"] (defScope s_Inferring_same) := ⟨rfl, rfl, rfl, by decide +kernel, rfl, by decide +kernel, by decide +kernel⟩
def spSame (K : PySem.W.Frag) (CA CI : Addr) (c : Nat) : Sp := fun vs H Q _ => ∃ (i a b g n : Nat) (bk : Bk) (S S' : Bec) (m N : Nat) (r : Bool) (x y : Kd) (v1 v2 vp : V), vs = [.ref i, v1, v2, vp] ∧ InfS K CA CI H i a b g n bk S ∧ g ≠ b ∧ Im K H v1 (kd x) ∧ Im K H v2 (kd y) ∧ Al c m S [(x, y)] r S' ∧ N ≤ 10000 ∧ SOk N S ∧ KOk N x ∧ KOk N y ∧
  ∀ H', Same (wo (wo H i) b) H' → TK K H H' → InfS K CA CI H' i a b g n bk S' → Q (.bl r) H'
theorem same_ok {CA CI : Addr} (A : InC K CA CI) (T : Tx K mg) (c : Nat) (D : DfnM K CI "same" "Inferring.same" s_Inferring_same ["self", "one", "other", "place"]) (CM : CalM P w K mg base (c + 3) CA "made_alike" ["self", "one", "other"] (spAl K CA c)) : CalM P w K mg base (c + 4) CI "same" ["self", "one", "other", "place"] (spSame K CA CI c) := by
  obtain ⟨f, fd, F, c_, b_⟩ := D
  have cl_Agreeing := A.ag.cl
  obtain ⟨_, _, G_made_alike, c_made_alike, b_made_alike⟩ := CM
  refine ⟨f, fd, F.ok sc_Inferring_same (fun vs H Q E ⟨_, _, _, _, _, _, _, _, _, _, _, _, _, _, _, _, e, _⟩ => by rw [e]; rfl) (fun cdv A' outer s H vs Q E hr h => ?_), c_, b_⟩
  obtain ⟨i, a, b, g, n, bk, S, S', m, N, r, x, y, v1, v2, vp, rfl, hI, hgb, h1, h2, hal, hN, hso, hx, hy, q⟩ := h
  refine ⟨_, (pss_cons (ps_if (pt_cmp (pc_isN (pe_meth (pe_fld (pv 0) rfl) cl_Agreeing c_made_alike G_made_alike hr b_made_alike .nil pass0 (pa_cons (pv 1) (pa_cons (pv 2) pa_nil)))))
 (pss_one (ps_ret pe_bl))
 pss_nil)
 (pss_cons (ps_fld (pv 0) (pv 3) rfl)
 (pss_one (ps_ret pe_bl)))), ?_⟩
  obtain ⟨⟨dx, pl, hi⟩, hA, hD⟩ := id hI
  obtain ⟨⟨dy, ha⟩, _⟩ := id hA
  refine ⟨_, rfl, i, CI, dx, _, .ref a, rfl, hi, A.cl, A.na, rfl, a, dy, _, rfl, ha, rfl, v1, rfl, v2, rfl, a, b, S, S', m, N, r, x, y, v1, v2, rfl, hA, h1, h2, hal, hN, hso, hx, hy, fun v' H' s' t' hA' hr1 hr2 => ?_⟩
  have hI' := hI.bec s' t' hA' hgb
  cases r with
  | true =>
    rw [hr1 rfl]
    refine ⟨true, rfl, ?_⟩
    refine q H' (fun p o hp => s' _ _ ?_) t' hI'
    have h1 : p ≠ b := by intro e; subst e; rw [wo_l] at hp; cases hp
    rw [wo_ne h1] at hp ⊢
    exact wo_same _ _ hp
  | false =>
    obtain ⟨d, hd, hn⟩ := hr2 rfl
    have hv : v' ≠ .non := by
      intro e
      subst e
      cases hd
      cases hn
    refine ⟨false, by rw [decide_eq_false hv], ?_⟩
    obtain ⟨⟨dx', pl', hi'⟩, _, _⟩ := id hI'
    obtain ⟨p1, p2, p3⟩ := hI'.put (m := n) (dx := dx') (pl := vp)
    refine ⟨_, rfl, _, rfl, i, CI, dx', _, rfl, hi', A.cl, A.np, by show 4 < 1000; decide, ?_⟩
    rw [put_place]
    refine q _ (fun p o hp => p3 _ _ ?_) (t'.trans p2) p1
    have h1 : p ≠ b := by intro e; subst e; rw [wo_l] at hp; cases hp
    rw [wo_ne h1] at hp
    have h2 : p ≠ i := by intro e; subst e; rw [wo_l] at hp; cases hp
    rw [wo_ne h2] at hp ⊢
    exact same_wo s' h1 hp
end Fw
set_option Elab.async false
set_option linter.all false
set_option maxRecDepth 100000
set_option maxHeartbeats 1000000
namespace Fw
open PySem L2 Fd
variable {P : Program} {w : World} {K : PySem.W.Frag} {mg : Str → Option Value} {base : Heap}
/-! ### book_kind, half_of, __init__ -/
theorem go_newD {D : Ends} {H : Hp} {σ : St} {i : Nat} {t2 : TS} (h : ∀ p, H p = none → t2 D (σ.set i (some (.ref p))) (upd H p (.dK []))) : tSeq (tAsg tDNewK (gName i)) t2 D σ H := h
abbrev s_Inferring_book_kind : Stmt := inClass (top 27) 2
abbrev nm_Inferring_book_kind : List Str := ["self", "name", "numbers", "kind", "letter"]
theorem sc_Inferring_book_kind : FnScope nm_Inferring_book_kind ["self", "name"] (defScope s_Inferring_book_kind) := ⟨rfl, rfl, rfl, by decide +kernel, rfl, by decide +kernel, by decide +kernel⟩
def spBkKind (K : PySem.W.Frag) (CA CI : Addr) (c : Nat) : Sp := fun vs H Q _ => ∃ (i a b g n : Nat) (bk : Bk) (S : Bec) (s : Str) (k : Kd), vs = [.ref i, .str s] ∧ InfS K CA CI H i a b g n bk S ∧ bk.lookup s = some k ∧ k.depth < c ∧ k.settled ∧ namesK PN k ∧ ∀ v' H', Same H H' → Im K H' v' (kd k) → Q v' H'
theorem book_kind_ok {CA CI : Addr} (A : InC K CA CI) (T : Tx K mg) (c : Nat) (hc : 1 ≤ c) (D : DfnM K CI "book_kind" "Inferring.book_kind" s_Inferring_book_kind ["self", "name"]) (CL : Cal P w K mg base (c + 1) "loosened" ["kind", "numbers"] (spLoose K c)) (CT : Cal P w K mg base c "lettered" ["kind", "letters"] (spLett K c))
    (CA' : CalM P w K mg base 1 CI "another" ["self"] (spAno K CA CI)) : CalM P w K mg base (c + 2) CI "book_kind" ["self", "name"] (spBkKind K CA CI c) := by
  obtain ⟨f, fd, F, c_, b_⟩ := D
  have cl_Inferring := A.cl
  obtain ⟨_, _, G_loosened, m_loosened, k_loosened, b_loosened⟩ := CL
  obtain ⟨_, _, G_lettered, m_lettered, k_lettered, b_lettered⟩ := CT.mono (show c ≤ c + 1 by omega)
  obtain ⟨_, _, G_another, c_another, b_another⟩ := CA'.mono (show 1 ≤ c + 1 by omega)
  refine ⟨f, fd, F.ok sc_Inferring_book_kind (fun vs H Q E ⟨_, _, _, _, _, _, _, _, _, e, _⟩ => by rw [e]; rfl) (fun cdv A' outer s H vs Q E hr h => ?_), c_, b_⟩
  obtain ⟨i, a, b, g, n, bk, S, x, k, rfl, hI, hl, hd, hs, hpn, q⟩ := h
  have hu := u1 hr
  refine ⟨_, (pss_cons (ps_set (i := 2) sc_Inferring_book_kind.nd rfl (Or.inl rfl) pe_dnewK)
 (pss_cons (ps_set (i := 3) sc_Inferring_book_kind.nd rfl (Or.inl rfl) (pe_call G_loosened hr rfl m_loosened k_loosened b_loosened .nil pass0 (pa_cons (pe_dget hu (pe_fld (pv 0) rfl) (pv 1) (fun _ _ => rfl)) (pa_cons (pv 2) pa_nil))))
 (pss_one (ps_ret (pe_call G_lettered hr rfl m_lettered k_lettered b_lettered .nil pass0 (pa_cons (pv 3) (pa_cons (pe_lock (pe_lc (own := [("letter", 4)]) (g := gName 4) (tt := tYes) rfl sc_Inferring_book_kind.nd (pi_keys (pv 2)) (blkOk_by (own := [("letter", 4)]) (N := nm_Inferring_book_kind) (sc := defScope s_Inferring_book_kind) (by decide +kernel)) (fun _ _ _ _ _ => (pg_name (i := 4) sc_Inferring_book_kind.nd rfl (Or.inl rfl))) (fun _ _ _ _ _ => pts_nil) (fun _ _ _ _ _ => (pe_meth0 (pv 0) cl_Inferring c_another G_another hr b_another .nil pass0)))) pa_nil))))))), ?_⟩
  refine go_newD fun p hp => ?_
  have s1 := same_new hp (.dK [])
  have hp1 : upd H p (.dK []) p = some (.dK []) := upd_same
  have hI1 := hI.keep s1
  refine (go_set (K := K) (B := upd H p (.dK [])) (H := upd H p (.dK [])) (σ := [some (.ref i), some (.str x), some (.ref p), none, none]) (d := kd k) (ev_callR (er_D (d := kd k) (R := fun vs' _ => ∃ vs'', vs' = V.ref p :: vs'' ∧ vs'' = []) ?_ (er_X (ex_var (i := 2) rfl) er_nil)) fun vs H2 Q' E' u ⟨v1, vs1, e1, hv1, vs2, e2, e3⟩ q' => ?_) fun vk H2 u2 hk => ?_) _ (.refl (.refl _))
  · intro H2 u2 Q' q'
    have hI2 := hI1.keep u2.1
    obtain ⟨⟨dx, pl, h1⟩, _, kvs, h3, h4⟩ := id hI2
    obtain ⟨v, hv, hm⟩ := h4 x k hl
    refine ⟨_, rfl, i, CI, dx, _, .ref g, rfl, h1, A.cl, A.nb, rfl, _, rfl, g, v, rfl, ?_, q' v H2 (.refl _) hm⟩
    have := DGet.k (k := (Sum.inr x : Key)) h3
    rw [hv] at this
    exact this
  · refine go_ret (d := kd k) (ev_callR (er_D (ev_var (i := 3) rfl hk) (er_L (el_keys0 (j := 2) rfl hp1) er_nil)) fun vs H3 Q' E' u ⟨v1, vs1, e1, hv1, l, ws, vs2, e2, hl', ml, e3⟩ q' => ?_) fun v H3 u3 hv => q v H3 (s1.trans u3.1) hv
    subst e3 e2 e1
    refine ⟨k, fun _ => "", v1, l, hd, rfl, hv1, fun j hj => ?_, fun v' H' s' hv' => q' v' H' s' (by rw [Kd.sub_settled hs] at hv'; exact hv')⟩
    exfalso
    have : ∀ {k : Kd}, k.settled → ¬ Fd.inK j k := fun {k} => by
      induction k with
      | nm s => intro _ z; exact z
      | num n => intro z _; exact z
      | way a b i1 i2 => intro h z; exact z.elim (i1 h.1) (i2 h.2)
      | pair a b i1 i2 => intro h z; exact z.elim (i1 h.1) (i2 h.2)
    exact this hs hj
  · subst e3 e2 e1
    exact ⟨k, v1, .ref p, hd, hs, hpn, rfl, hv1, q'⟩
abbrev s_Inferring_half_of : Stmt := inClass (top 27) 5
abbrev nm_Inferring_half_of : List Str := ["self", "word", "kind", "place", "one", "other"]
theorem sc_Inferring_half_of : FnScope nm_Inferring_half_of ["self", "word", "kind", "place"] (defScope s_Inferring_half_of) := ⟨rfl, rfl, rfl, by decide +kernel, rfl, by decide +kernel, by decide +kernel⟩
/-- true: the first half -/
def spHalf (K : PySem.W.Frag) (CA CI : Addr) (c : Nat) : Sp := fun vs H Q _ => ∃ (i a b g n : Nat) (bk : Bk) (S S' : Bec) (m N : Nat) (x : Kd) (ff : Bool) (v1 vp : V), vs = [.ref i, .str (if ff then "first" else "second"), v1, vp] ∧ InfS K CA CI H i a b g n bk S ∧ g ≠ b ∧ Im K H v1 (kd x) ∧ Al c m S [(x, .pair (.num (n + 1)) (.num (n + 2)))] true S' ∧ n + 2 ≤ N ∧ N ≤ 10000 ∧ SOk N S ∧ KOk N x ∧
  ∀ H', Same (wo (wo H i) b) H' → TK K H H' → InfS K CA CI H' i a b g (n + 2) bk S' → Q (.int ((if ff then n + 1 else n + 2 : Nat) : Int)) H'
theorem wo2_trans {H H1 H2 : Hp} {i b : Addr} (s1 : Same (wo (wo H i) b) H1) (s2 : Same (wo (wo H1 i) b) H2) : Same (wo (wo H i) b) H2 := fun p o hp => by
  have h1 : p ≠ b := by intro e; subst e; rw [wo_l] at hp; cases hp
  have h2 : p ≠ i := by intro e; subst e; rw [wo_ne h1, wo_l] at hp; cases hp
  exact s2 _ _ (by rw [wo_ne h1, wo_ne h2]; exact s1 _ _ hp)
theorem wo_wo2 {H H1 : Hp} {i b : Addr} (s1 : Same (wo H i) H1) : Same (wo (wo H i) b) H1 := wo_same.trans s1
theorem same_wo2 {H H1 : Hp} {i b : Addr} (s1 : Same H H1) : Same (wo (wo H i) b) H1 := wo_same.trans (wo_same.trans s1)
theorem half_ok {CA CI : Addr} (A : InC K CA CI) (T : Tx K mg) (c : Nat) (D : DfnM K CI "half_of" "Inferring.half_of" s_Inferring_half_of ["self", "word", "kind", "place"]) (CS : CalM P w K mg base (c + 4) CI "same" ["self", "one", "other", "place"] (spSame K CA CI c))
    (CA' : CalM P w K mg base 1 CI "another" ["self"] (spAno K CA CI)) : CalM P w K mg base (c + 5) CI "half_of" ["self", "word", "kind", "place"] (spHalf K CA CI c) := by
  obtain ⟨f, fd, F, c_, b_⟩ := D
  have cl_Inferring := A.cl
  obtain ⟨_, _, G_same, c_same, b_same⟩ := CS
  obtain ⟨_, _, G_another, c_another, b_another⟩ := CA'.mono (show 1 ≤ c + 4 by omega)
  refine ⟨f, fd, F.ok sc_Inferring_half_of (fun vs H Q E ⟨_, _, _, _, _, _, _, _, _, _, _, _, _, _, e, _⟩ => by rw [e]; rfl) (fun cdv A' outer s H vs Q E hr h => ?_), c_, b_⟩
  obtain ⟨i, a, b, g, n, bk, S, S', m, N, x, ff, v1, vp, rfl, hI, hgb, h1, hal, hn, hN, hso, hx, q⟩ := h
  refine ⟨_, (pss_cons (ps_par (i := 4) (j := 5) rfl sc_Inferring_half_of.nd rfl rfl (by decide) rfl rfl (pa_cons (pe_meth0 (pv 0) cl_Inferring c_another G_another hr b_another .nil pass0) (pa_cons (pe_meth0 (pv 0) cl_Inferring c_another G_another hr b_another .nil pass0) pa_nil)) rfl)
 (pss_cons (ps_if (pt_not (pt_val (pe_meth (pv 0) cl_Inferring c_same G_same hr b_same .nil pass0 (pa_cons (pv 2) (pa_cons (pe_tup (pa_cons pe_str (pa_cons (pv 4) (pa_cons (pv 5) pa_nil)))) (pa_cons (pv 3) pa_nil))))))
 (pss_one (ps_ret pe_non))
 pss_nil)
 (pss_one (ps_ret (pe_ifExp (pt_cmpR op_eq (pv 1) pe_str (nomark _)) (pv 4) (pv 5)))))), ?_⟩
  obtain ⟨⟨dx, pl, hi⟩, _, _⟩ := id hI
  refine ⟨_, rfl, i, dx, _, rfl, hi, rfl, i, a, b, g, n, bk, S, rfl, hI, fun H1 s1 t1 I1 => ?_⟩
  obtain ⟨⟨dx1, pl1, hi1⟩, _, _⟩ := id I1
  refine ⟨_, rfl, i, dx1, _, rfl, hi1, rfl, i, a, b, g, n + 1, bk, S, rfl, I1, fun H2 s2 t2 I2 => ?_⟩
  refine ⟨_, _, rfl, ?_⟩
  have t02 := t1.trans t2
  have h12 : Same (wo (wo H i) b) H2 := wo2_trans (wo_wo2 s1) (wo_wo2 s2)
  -- the pair of the two new numbers
  obtain ⟨⟨dx2, pl2, hi2⟩, _, _⟩ := id I2
  refine ⟨_, rfl, i, dx2, _, rfl, hi2, rfl, ?_⟩
  refine ⟨v1, rfl, ?_⟩
  refine (ev_tup (K := K) (B := H2) (H := H2) (σ := [some (.ref i), some (.str (if ff then "first" else "second")), some v1, some vp, some (.int ((n + 1 : Nat) : Int)), some (.int ((n + 1 + 1 : Nat) : Int))]) (ea_cons ev_str (ea_cons (ev_var (i := 4) rfl (.int _)) (ea_cons (ev_var (i := 5) rfl (.int _)) ea_nil))) (by simp)) H2 (.refl (.refl _)) _ fun v3 H3 s3 hv3 => ?_
  refine ⟨vp, rfl, i, a, b, g, n + 2, bk, S, S', m, N, true, x, .pair (.num (n + 1)) (.num (n + 2)), v1, v3, vp, rfl, I2.keep s3, hgb, h1.keep (t02.trans (.of s3)), hv3, hal, hN, hso, hx, ⟨by simp [Kd.depth], ⟨trivial, trivial⟩, ⟨(by show n + 1 ≤ N; omega), (by show n + 2 ≤ N; omega)⟩⟩, fun H4 s4 t4 I4 => ?_⟩
  refine ⟨true, rfl, ?_⟩
  have fin := q H4 (wo2_trans (wo2_trans h12 (same_wo2 s3)) s4) (t02.trans ((TK.of s3).trans t4)) I4
  cases ff with
  | true => exact ⟨_, rfl, rfl, _, rfl, _, rfl, fin⟩
  | false => exact ⟨_, rfl, rfl, _, rfl, _, rfl, fin⟩
end Fw
set_option Elab.async false
set_option linter.all false
set_option maxRecDepth 100000
set_option maxHeartbeats 1000000
namespace Fw
open PySem L2 Fd
variable {P : Program} {w : World} {K : PySem.W.Frag} {mg : Str → Option Value} {base : Heap}
/-! ### kind_of -/
structure KofIn (K : PySem.W.Frag) (CA CI : Addr) (H : Hp) (c n : Nat) (i a b g m : Nat) (bk : Bk) (S : Bec) (d : Dd) (Γ : List Kd) (k : Kd) (S' : Bec) (m' : Nat) (pg : Addr) (ws : List V) : Prop where
  dp : d.depth ≤ n
  st : InfS K CA CI H i a b g m bk S
  gb : g ≠ b
  run : Inf bk c S m Γ d k S' m'
  bok : BOk bk
  chs : Chs 40 d
  nums : NumsTo m Γ
  sok : SOk m S
  room : m + 2 * d.size ≤ 10000
  few : Γ.length + d.depth ≤ 1000
  lst : H pg = some (.lst ws)
  im : ImAll K H ws (Γ.map kd)
def spKof (K : PySem.W.Frag) (CA CI : Addr) (c n : Nat) : Sp := fun vs H Q _ => ∃ (i a b g m : Nat) (bk : Bk) (S : Bec) (d : Dd) (Γ : List Kd) (k : Kd) (S' : Bec) (m' : Nat) (pg : Addr) (ws : List V) (vd vp : V) (pl : List PyData),
  vs = [.ref i, vd, .ref pg, vp] ∧ KofIn K CA CI H c n i a b g m bk S d Γ k S' m' pg ws ∧ Im K H vd (dd d) ∧ Im K H vp (.tuple pl) ∧ pl.length + d.depth ≤ 1000 ∧
  ∀ v' H', Same (wo (wo H i) b) H' → TK K H H' → InfS K CA CI H' i a b g m' bk S' → Im K H' v' (kd k) → Q v' H'
theorem isN_kd (k : Kd) : isN (kd k) = false := by cases k <;> rfl
theorem lst_wo2 {CA CI : Addr} {H H' : Hp} {i a b g m : Nat} {bk : Bk} {S : Bec} {pg : Addr} {ws : List V} (h : InfS K CA CI H i a b g m bk S) (hl : H pg = some (.lst ws)) (s : Same (wo (wo H i) b) H') : H' pg = some (.lst ws) := by
  obtain ⟨⟨dx, pl, h1⟩, ⟨_, kvs, h2, _⟩, _⟩ := h
  have n1 : pg ≠ i := by intro e; rw [e, h1] at hl; cases hl
  have n2 : pg ≠ b := by intro e; rw [e, h2] at hl; cases hl
  exact s _ _ (by rw [wo_ne n2, wo_ne n1]; exact hl)
section
variable {CA CI : Addr} {H : Hp} {σ : St} {c n i a b g m : Nat} {bk : Bk} {S S' : Bec} {d : Dd} {Γ : List Kd} {k : Kd} {m' : Nat} {pg : Addr} {ws : List V} {E : XK} {te : TE} {vp : V} {pl : List PyData} {Q : VK} {z : Int}
theorem er_Lx {H : Hp} {B : Hp} {σ : St} {te : TE} {tr : TA} {R : List V → Hp → Prop} {ds : List PyData} (h : EvL K B te σ H ds) (hr : EvR K B tr σ H R) : EvR K B (tCons te tr) σ H (fun vs H' => ∃ p ws vs', vs = .ref p :: vs' ∧ H' p = some (.lst ws) ∧ ImAll K H' ws ds ∧ R vs' H') := fun H1 u Q q =>
  h H1 u _ fun p ws H2 hp s2 h2 m => hr H2 (u.then s2) _ fun vs H3 s3 r => q (.ref p :: vs) H3 (s2.trans s3) ⟨p, ws, vs, rfl, s3 _ _ h2, m.keep (.of s3), r⟩
theorem go_asgM {D : Ends} {te : TE} {j : Nat} {t2 : TS} (h : te σ H fun v H1 => t2 D (σ.set j (some v)) H1) : tSeq (tAsg te (gName j)) t2 D σ H := h
/-- a call for a part, the givens as they are -/
theorem kof_call (h : KofIn K CA CI H c n i a b g m bk S d Γ k S' m' pg ws) (e0 : σ[0]? = some (some (.ref i))) (e2 : σ[2]? = some (some (.ref pg))) (e3 : σ[3]? = some (some vp)) (hp : Im K H vp (.tuple pl)) (hpl : pl.length + 1 + d.depth ≤ 1000) (he : Ev K H te σ H (dd d))
    (q : ∀ v' H', Same (wo (wo H i) b) H' → TK K H H' → InfS K CA CI H' i a b g m' bk S' → Im K H' v' (kd k) → Q v' H') : tMeth CI "kind_of" (spKof K CA CI c n) [] E (tVar 0) (tCons te (tCons (tVar 2) (tCons (tOp (rCatA K) (tVar 3) (tTup (tCons (tC (.int z)) tNil))) tNil))) σ H Q := by
  obtain ⟨⟨dx, p0, hi⟩, _, _⟩ := id h.st
  refine ⟨_, e0, i, dx, _, rfl, hi, rfl, ?_⟩
  refine (er_D he (er_X (ex_var e2) (er_D (ev_cat (ev_var e3 hp) (ev_tup (ea_cons ev_int ea_nil) (by simp)) (by simp; omega)) er_nil)) : EvR K H _ σ H _) H (.refl (.refl _)) _ fun vs H3 s3 ⟨vd, vs1, q1, hvd, vs2, q2, vq, vs3, q3, hvq, q4⟩ => ?_
  subst q4 q3 q2 q1
  refine ⟨i, a, b, g, m, bk, S, d, Γ, k, S', m', pg, ws, vd, vq, _, rfl, ⟨h.dp, h.st.keep s3, h.gb, h.run, h.bok, h.chs, h.nums, h.sok, h.room, h.few, s3 _ _ h.lst, h.im.keep (.of s3)⟩, hvd, hvq, by simp; omega, fun v' H' s' t' I' hv => q v' H' (wo2_trans (same_wo2 s3) s') ((TK.of s3).trans t') I' hv⟩
end
abbrev s_Inferring_kind_of : Stmt := inClass (top 27) 4
abbrev nm_Inferring_kind_of : List Str := ["self", "deed", "given", "place", "spot", "inner", "one", "other", "last"]
theorem sc_Inferring_kind_of : FnScope nm_Inferring_kind_of ["self", "deed", "given", "place"] (defScope s_Inferring_kind_of) := ⟨rfl, rfl, rfl, by decide +kernel, rfl, by decide +kernel, by decide +kernel⟩
theorem kof_ok {CA CI : Addr} (A : InC K CA CI) (T : Tx K mg) (c N : Nat) (hN : 5 ≤ N) (D : DfnM K CI "kind_of" "Inferring.kind_of" s_Inferring_kind_of ["self", "deed", "given", "place"]) (C1 : CalM P w K mg base 1 CI "another" ["self"] (spAno K CA CI)) (C2 : CalM P w K mg base 5 CI "book_kind" ["self", "name"] (spBkKind K CA CI 3))
    (C3 : CalM P w K mg base N CI "same" ["self", "one", "other", "place"] (spSame K CA CI c)) (C4 : CalM P w K mg base N CI "half_of" ["self", "word", "kind", "place"] (spHalf K CA CI c)) : ∀ n, CalM P w K mg base (N + n) CI "kind_of" ["self", "deed", "given", "place"] (spKof K CA CI c n) := by
  obtain ⟨f, fd, F, c_kind_of, b_kind_of⟩ := D
  have cl_Inferring := A.cl
  intro n
  refine ⟨f, fd, ?_, c_kind_of, b_kind_of⟩
  induction n with
  | zero => exact fn_none fun vs H Q E ⟨_, _, _, _, _, _, _, d, _, _, _, _, _, _, _, _, _, _, h, _⟩ => absurd h.dp (by have := d.depth_pos; omega)
  | succ n G_kind_of =>
    obtain ⟨_, _, G_another, c_another, b_another⟩ := C1.mono (show 1 ≤ N + n by omega)
    obtain ⟨_, _, G_book_kind, c_book_kind, b_book_kind⟩ := C2.mono (show 5 ≤ N + n by omega)
    obtain ⟨_, _, G_same, c_same, b_same⟩ := C3.mono (show N ≤ N + n by omega)
    obtain ⟨_, _, G_half_of, c_half_of, b_half_of⟩ := C4.mono (show N ≤ N + n by omega)
    refine F.ok sc_Inferring_kind_of (fun vs H Q E ⟨_, _, _, _, _, _, _, _, _, _, _, _, _, _, _, _, _, e, _⟩ => by rw [e]; rfl) (fun cdv A' outer s H vs Q E hr h => ?_)
    obtain ⟨i, a, b, g, m, bk, S, d, Γ, k, S', m', pg, ws, vd, vp, pl, rfl, hin, hvd, hvp, hpl, q⟩ := h
    refine ⟨_, (pss_cons (ps_if (pt_cmpR op_eq (pe_ix ix_tup (pv 1) pe_int (fun _ _ => rfl)) pe_str (nomark _))
 (pss_one (ps_ret (pe_ix ix_list (pv 2) (pe_ix ix_tup (pv 1) pe_int (fun _ _ => rfl)) (fun _ _ => rfl))))
 pss_nil)
 (pss_cons (ps_if (pt_cmpR op_eq (pe_ix ix_tup (pv 1) pe_int (fun _ _ => rfl)) pe_str (nomark _))
 (pss_one (ps_ret (pe_meth (pv 0) cl_Inferring c_book_kind G_book_kind hr b_book_kind .nil pass0 (pa_cons (pe_ix ix_tup (pv 1) pe_int (fun _ _ => rfl)) pa_nil))))
 pss_nil)
 (pss_cons (ps_if (pt_cmpR op_eq (pe_ix ix_tup (pv 1) pe_int (fun _ _ => rfl)) pe_str (nomark _))
 (pss_one (ps_ret (pe_meth0 (pv 0) cl_Inferring c_another G_another hr b_another .nil pass0)))
 pss_nil)
 (pss_cons (ps_if (pt_cmpR op_eq (pe_ix ix_tup (pv 1) pe_int (fun _ _ => rfl)) pe_str (nomark _))
 (pss_cons (ps_set (i := 4) sc_Inferring_kind_of.nd rfl (Or.inl rfl) (pe_meth0 (pv 0) cl_Inferring c_another G_another hr b_another .nil pass0))
 (pss_cons (ps_set (i := 5) sc_Inferring_kind_of.nd rfl (Or.inl rfl) (pe_meth (pv 0) cl_Inferring c_kind_of G_kind_of hr b_kind_of .nil pass0 (pa_cons (pe_ix ix_tup (pv 1) pe_int (fun _ _ => rfl)) (pa_cons (pe_op op_cat (pv 2) (pe_lst (pa_cons (pv 4) pa_nil))) (pa_cons (pe_op op_catA (pv 3) (pe_tup (pa_cons pe_int pa_nil))) pa_nil)))))
 (pss_one (ps_ret (pe_ifExp (pt_cmp (pc_isN (pv 5))) pe_non (pe_tup (pa_cons pe_str (pa_cons (pv 4) (pa_cons (pv 5) pa_nil)))))))))
 pss_nil)
 (pss_cons (ps_set (i := 6) sc_Inferring_kind_of.nd rfl (Or.inl rfl) (pe_meth (pv 0) cl_Inferring c_kind_of G_kind_of hr b_kind_of .nil pass0 (pa_cons (pe_ix ix_tup (pv 1) pe_int (fun _ _ => rfl)) (pa_cons (pv 2) (pa_cons (pe_op op_catA (pv 3) (pe_tup (pa_cons pe_int pa_nil))) pa_nil)))))
 (pss_cons (ps_if (pt_cmp (pc_isN (pv 6)))
 (pss_one (ps_ret pe_non))
 pss_nil)
 (pss_cons (ps_if (pt_cmpR op_eq (pe_callB call_len_seq rfl T.len_ (by decide +kernel) (pa_cons (pv 1) pa_nil)) pe_int (nomark _))
 (pss_one (ps_ret (pe_meth (pv 0) cl_Inferring c_half_of G_half_of hr b_half_of .nil pass0 (pa_cons (pe_ix ix_tup (pv 1) pe_int (fun _ _ => rfl)) (pa_cons (pv 6) (pa_cons (pv 3) pa_nil))))))
 pss_nil)
 (pss_cons (ps_set (i := 7) sc_Inferring_kind_of.nd rfl (Or.inl rfl) (pe_meth (pv 0) cl_Inferring c_kind_of G_kind_of hr b_kind_of .nil pass0 (pa_cons (pe_ix ix_tup (pv 1) pe_int (fun _ _ => rfl)) (pa_cons (pv 2) (pa_cons (pe_op op_catA (pv 3) (pe_tup (pa_cons pe_int pa_nil))) pa_nil)))))
 (pss_cons (ps_if (pt_cmp (pc_isN (pv 7)))
 (pss_one (ps_ret pe_non))
 pss_nil)
 (pss_cons (ps_if (pt_cmpR op_eq (pe_ix ix_tup (pv 1) pe_int (fun _ _ => rfl)) pe_str (nomark _))
 (pss_one (ps_ret (pe_tup (pa_cons pe_str (pa_cons (pv 6) (pa_cons (pv 7) pa_nil))))))
 pss_nil)
 (pss_cons (ps_set (i := 8) sc_Inferring_kind_of.nd rfl (Or.inl rfl) (pe_meth0 (pv 0) cl_Inferring c_another G_another hr b_another .nil pass0))
 (pss_one (ps_ret (pe_ifExp (pt_val (pe_meth (pv 0) cl_Inferring c_same G_same hr b_same .nil pass0 (pa_cons (pv 6) (pa_cons (pe_tup (pa_cons pe_str (pa_cons (pv 7) (pa_cons (pv 8) pa_nil)))) (pa_cons (pv 3) pa_nil))))) (pv 8) pe_non)))))))))))))), ?_⟩
    refine Go.run (K := K) (B := H) ?_ (.refl H)
    have hrun := hin.run
    have hchs := hin.chs
    have hroom := hin.room
    have hfew := hin.few
    have hdp := hin.dp
    have ok := fun {S0 n0 d0 k0 S1 n1} (h : Inf bk c S0 n0 Γ d0 k0 S1 n1) => Inf.ok hin.bok h
    cases hrun with
    | @spot _ _ _ j _ e =>
      refine go_ifs (b := true) (et_word (i := 1) rfl hvd (by decide +kernel)) (fun _ => ?_) (fun z => nomatch z)
      exact go_ret (ev_ixL (ex_var (i := 2) rfl) (SqL.of hin.lst) hin.im (ev_ix (ev_var (i := 1) rfl hvd) ev_int rfl) (atI_nat (by rw [List.getElem?_map, e]; rfl))) fun v H1 u hv => q v H1 (same_wo2 u.1) u.2 (hin.st.keep u.1) hv
    | @book _ _ _ x _ e =>
      refine go_ifs (b := false) (et_word (i := 1) rfl hvd (by decide +kernel)) (fun z => nomatch z) (fun _ => ?_)
      refine go_ifs (b := true) (et_word (i := 1) rfl hvd (by decide +kernel)) (fun _ => ?_) (fun z => nomatch z)
      intro H1 u1
      have I1 := hin.st.keep u1.1
      obtain ⟨⟨dx, p0, hi⟩, _, _⟩ := id I1
      obtain ⟨b1, b2, b3⟩ := hin.bok _ _ (lookup_in_bk e)
      refine ⟨_, rfl, i, dx, _, rfl, hi, rfl, ?_⟩
      refine (ev_ix (ev_var (i := 1) rfl hvd) ev_int rfl : Ev K H _ [some (.ref i), some vd, some (.ref pg), some vp, none, none, none, none, none] H (.str x)) H1 u1 _ fun v2 H2 s2 hv2 => ?_
      have e2 := hv2.str_inv
      subst e2
      exact ⟨i, a, b, g, m, bk, S, x, k, rfl, I1.keep s2, e, by omega, b2, b3, fun v' H' s' hv => q v' H' (same_wo2 (u1.1.trans (s2.trans s'))) (u1.2.trans (.of (s2.trans s'))) (I1.keep (s2.trans s')) hv⟩
    | @turn _ _ _ d1 k1 _ _ h1 =>
      refine go_ifs (b := false) (et_word (i := 1) rfl hvd (by decide +kernel)) (fun z => nomatch z) (fun _ => ?_)
      refine go_ifs (b := false) (et_word (i := 1) rfl hvd (by decide +kernel)) (fun z => nomatch z) (fun _ => ?_)
      refine go_ifs (b := false) (et_word (i := 1) rfl hvd (by decide +kernel)) (fun z => nomatch z) (fun _ => ?_)
      refine go_ifs (b := true) (et_word (i := 1) rfl hvd (by decide +kernel)) (fun _ => ?_) (fun z => nomatch z)
      intro H1 u1
      have I1 := hin.st.keep u1.1
      obtain ⟨⟨dx, p0, hi⟩, _, _⟩ := id I1
      refine go_asgM ⟨_, rfl, i, dx, _, rfl, hi, rfl, i, a, b, g, m, bk, S, rfl, I1, fun H2 s2 t2 I2 => ?_⟩
      have t02 := u1.2.trans t2
      have w02 : Same (wo (wo H i) b) H2 := wo2_trans (same_wo2 u1.1) (wo_wo2 s2)
      have hl2 := lst_wo2 hin.st hin.lst w02
      obtain ⟨⟨dx2, p2, hi2⟩, _, _⟩ := id I2
      refine go_asgM ⟨_, rfl, i, dx2, _, rfl, hi2, rfl, ?_⟩
      refine (er_D (ev_ix (ev_var (i := 1) rfl (hvd.keep t02)) ev_int rfl) (er_Lx (el_cat (ex_var (i := 2) rfl) hl2 (hin.im.keep t02) (el_lst (ea_cons (ev_var (i := 4) rfl (.int _)) ea_nil) (by simp)) (by simp; omega)) (er_D (ev_cat (ev_var (i := 3) rfl (hvp.keep t02)) (ev_tup (ea_cons ev_int ea_nil) (by simp)) (by simp; omega)) er_nil)) : EvR K H2 _ [some (.ref i), some vd, some (.ref pg), some vp, some (.int ((m + 1 : Nat) : Int)), none, none, none, none] H2 _) H2 (.refl (.refl _)) _ fun vs H3 s3 ⟨x1, vs1, q1, hx1, l, wl, vs2, q2, hl3, ml, x3, vs3, q3, hx3, q4⟩ => ?_
      subst q4 q3 q2 q1
      have hdd : d1.depth ≤ n := by simp only [Dd.depth] at hdp; omega
      refine ⟨i, a, b, g, m + 1, bk, S, d1, Γ ++ [.num (m + 1)], k1, S', m', l, wl, x1, x3, _, rfl, ⟨hdd, I2.keep s3, hin.gb, h1, hin.bok, hchs.2, hin.nums.snoc, hin.sok.mono (Nat.le_succ _), by simp only [Dd.size] at hroom; omega, by simp only [Dd.depth] at hfew; simp; omega, hl3, by rw [List.map_append]; exact ml⟩, hx1, hx3, by simp only [Dd.depth] at hpl; simp; omega, fun v5 H4 s4 t4 I4 hv5 => ?_⟩
      have w04 : Same (wo (wo H i) b) H4 := wo2_trans w02 (wo2_trans (same_wo2 s3) s4)
      have t04 := t02.trans ((TK.of s3).trans t4)
      dsimp only
      refine Go.run (K := K) (B := H4) (H := H4) ?_ (.refl H4)
      refine go_ret (d := kd (.way (.num (m + 1)) k1)) (ev_ite (b := false) ((et_B (ev_isN' (ev_var (i := 5) rfl hv5))).is (isN_kd _)) (fun z => nomatch z) fun _ => ev_tup (ea_cons ev_str (ea_cons (ev_var (i := 4) rfl (.int _)) (ea_cons (ev_var (i := 5) rfl hv5) ea_nil))) (by simp)) fun v H5 u5 hv => q v H5 (wo2_trans w04 (same_wo2 u5.1)) (t04.trans u5.2) (I4.keep u5.1) hv
    | @dod _ _ _ f e k1 S1 n1 k2 S2 n2 mm S3 h1 h2 ha =>
      refine go_ifs (b := false) (et_word (i := 1) rfl hvd (by decide +kernel)) (fun z => nomatch z) (fun _ => ?_)
      refine go_ifs (b := false) (et_word (i := 1) rfl hvd (by decide +kernel)) (fun z => nomatch z) (fun _ => ?_)
      refine go_ifs (b := false) (et_word (i := 1) rfl hvd (by decide +kernel)) (fun z => nomatch z) (fun _ => ?_)
      refine go_ifs (b := false) (et_word (i := 1) rfl hvd (by decide +kernel)) (fun z => nomatch z) (fun _ => ?_)
      have hd1 : f.depth ≤ n := by simp only [Dd.depth] at hdp; omega
      obtain ⟨o1, o2, o3, o4, o5⟩ := ok h1 hchs.1 hin.nums hin.sok
      intro H1 u1
      have I1 := hin.st.keep u1.1
      refine go_asgM (kof_call (d := f) (Γ := Γ) (ws := ws) ⟨hd1, I1, hin.gb, h1, hin.bok, hchs.1, hin.nums, hin.sok, by simp only [Dd.size] at hroom; omega, by simp only [Dd.depth] at hfew; omega, u1.1 _ _ hin.lst, hin.im.keep u1.2⟩ rfl rfl rfl (hvp.keep u1.2) (by simp only [Dd.depth] at hpl; omega) (ev_ix (ev_var (i := 1) rfl (hvd.keep u1.2)) ev_int rfl) fun v6 H2 s2 t2 I2 hv6 => ?_)
      have t02 := u1.2.trans t2
      have w02 : Same (wo (wo H i) b) H2 := wo2_trans (same_wo2 u1.1) s2
      refine Go.run (K := K) (B := H2) (H := H2) ?_ (.refl H2)
      refine go_ifs (b := false) ((et_B (ev_isN' (ev_var (i := 6) rfl hv6))).is (isN_kd _)) (fun z => nomatch z) (fun _ => ?_)
      refine go_ifs (b := false) ((et_test (ev_eqI (ev_lenT (ev_var (i := 1) rfl (hvd.keep t02))) ev_int)).is (by show decide (((3 : Nat) : Int) = 2) = false; decide +kernel)) (fun z => nomatch z) (fun _ => ?_)
      have hd2 : e.depth ≤ n := by simp only [Dd.depth] at hdp; omega
      obtain ⟨r1, r2, r3, r4, r5⟩ := ok h2 hchs.2 (hin.nums.mono o4) o1
      intro H3 u3
      have I3 := I2.keep u3.1
      have t03 := t02.trans u3.2
      refine go_asgM (kof_call (d := e) (Γ := Γ) (ws := ws) ⟨hd2, I3, hin.gb, h2, hin.bok, hchs.2, hin.nums.mono o4, o1, by simp only [Dd.size] at hroom; omega, by simp only [Dd.depth] at hfew; omega, u3.1 _ _ (lst_wo2 hin.st hin.lst w02), hin.im.keep t03⟩ rfl rfl rfl (hvp.keep t03) (by simp only [Dd.depth] at hpl; omega) (ev_ix (ev_var (i := 1) rfl (hvd.keep t03)) ev_int rfl) fun v7 H4 s4 t4 I4 hv7 => ?_)
      have t04 := t03.trans t4
      have w04 : Same (wo (wo H i) b) H4 := wo2_trans w02 (wo2_trans (same_wo2 u3.1) s4)
      have hv6' := hv6.keep (u3.2.trans t4)
      refine Go.run (K := K) (B := H4) (H := H4) ?_ (.refl H4)
      refine go_ifs (b := false) ((et_B (ev_isN' (ev_var (i := 7) rfl hv7))).is (isN_kd _)) (fun z => nomatch z) (fun _ => ?_)
      refine go_ifs (b := false) (et_word (i := 1) rfl (hvd.keep t04) (by decide +kernel)) (fun z => nomatch z) (fun _ => ?_)
      intro H5 u5
      have I5 := I4.keep u5.1
      obtain ⟨⟨dx, p0, hi⟩, _, _⟩ := id I5
      refine go_asgM ⟨_, rfl, i, dx, _, rfl, hi, rfl, i, a, b, g, n2, bk, S2, rfl, I5, fun H6 s6 t6 I6 => ?_⟩
      have t06 := t04.trans (u5.2.trans t6)
      have w06 : Same (wo (wo H i) b) H6 := wo2_trans w04 (wo2_trans (same_wo2 u5.1) (wo_wo2 s6))
      obtain ⟨⟨dx6, p6, hi6⟩, _, _⟩ := id I6
      refine ⟨_, rfl, i, dx6, _, rfl, hi6, rfl, v6, rfl, ?_⟩
      refine (ev_tup (ea_cons ev_str (ea_cons (ev_var (i := 7) rfl (hv7.keep (u5.2.trans t6))) (ea_cons (ev_var (i := 8) rfl (.int _)) ea_nil))) (by simp) : Ev K H6 _ [some (.ref i), some vd, some (.ref pg), some vp, none, none, some v6, some v7, some (.int ((n2 + 1 : Nat) : Int))] H6 (kd (.way k2 (.num (n2 + 1))))) H6 (.refl (.refl _)) _ fun vt H7 s7 hvt => ?_
      have hc2 := chs_chain hchs.2
      refine ⟨vp, rfl, i, a, b, g, n2 + 1, bk, S2, S', mm, n2 + 1, true, k1, .way k2 (.num (n2 + 1)), v6, vt, vp, rfl, I6.keep s7, hin.gb, (hv6'.keep (u5.2.trans t6)).keep (.of s7), hvt, ha, by simp only [Dd.size] at hroom; omega, r1.mono (by omega), o2.mono (by omega), ⟨by simp only [Kd.depth]; omega, ⟨r2.nm, trivial⟩, ⟨r2.lo.mono (by omega), Nat.le_refl _⟩⟩, fun H8 s8 t8 I8 => ?_⟩
      exact ⟨true, rfl, _, rfl, q _ H8 (wo2_trans w06 (wo2_trans (same_wo2 s7) s8)) (t06.trans ((TK.of s7).trans t8)) I8 (.int _)⟩
    | @both _ _ _ f e k1 S1 n1 k2 S2 n2 h1 h2 =>
      refine go_ifs (b := false) (et_word (i := 1) rfl hvd (by decide +kernel)) (fun z => nomatch z) (fun _ => ?_)
      refine go_ifs (b := false) (et_word (i := 1) rfl hvd (by decide +kernel)) (fun z => nomatch z) (fun _ => ?_)
      refine go_ifs (b := false) (et_word (i := 1) rfl hvd (by decide +kernel)) (fun z => nomatch z) (fun _ => ?_)
      refine go_ifs (b := false) (et_word (i := 1) rfl hvd (by decide +kernel)) (fun z => nomatch z) (fun _ => ?_)
      have hd1 : f.depth ≤ n := by simp only [Dd.depth] at hdp; omega
      obtain ⟨o1, o2, o3, o4, o5⟩ := ok h1 hchs.2.1 hin.nums hin.sok
      intro H1 u1
      have I1 := hin.st.keep u1.1
      refine go_asgM (kof_call (d := f) (Γ := Γ) (ws := ws) ⟨hd1, I1, hin.gb, h1, hin.bok, hchs.2.1, hin.nums, hin.sok, by simp only [Dd.size] at hroom; omega, by simp only [Dd.depth] at hfew; omega, u1.1 _ _ hin.lst, hin.im.keep u1.2⟩ rfl rfl rfl (hvp.keep u1.2) (by simp only [Dd.depth] at hpl; omega) (ev_ix (ev_var (i := 1) rfl (hvd.keep u1.2)) ev_int rfl) fun v6 H2 s2 t2 I2 hv6 => ?_)
      have t02 := u1.2.trans t2
      have w02 : Same (wo (wo H i) b) H2 := wo2_trans (same_wo2 u1.1) s2
      refine Go.run (K := K) (B := H2) (H := H2) ?_ (.refl H2)
      refine go_ifs (b := false) ((et_B (ev_isN' (ev_var (i := 6) rfl hv6))).is (isN_kd _)) (fun z => nomatch z) (fun _ => ?_)
      refine go_ifs (b := false) ((et_test (ev_eqI (ev_lenT (ev_var (i := 1) rfl (hvd.keep t02))) ev_int)).is (by show decide (((3 : Nat) : Int) = 2) = false; decide +kernel)) (fun z => nomatch z) (fun _ => ?_)
      have hd2 : e.depth ≤ n := by simp only [Dd.depth] at hdp; omega
      obtain ⟨r1, r2, r3, r4, r5⟩ := ok h2 hchs.2.2 (hin.nums.mono o4) o1
      intro H3 u3
      have I3 := I2.keep u3.1
      have t03 := t02.trans u3.2
      refine go_asgM (kof_call (d := e) (Γ := Γ) (ws := ws) ⟨hd2, I3, hin.gb, h2, hin.bok, hchs.2.2, hin.nums.mono o4, o1, by simp only [Dd.size] at hroom; omega, by simp only [Dd.depth] at hfew; omega, u3.1 _ _ (lst_wo2 hin.st hin.lst w02), hin.im.keep t03⟩ rfl rfl rfl (hvp.keep t03) (by simp only [Dd.depth] at hpl; omega) (ev_ix (ev_var (i := 1) rfl (hvd.keep t03)) ev_int rfl) fun v7 H4 s4 t4 I4 hv7 => ?_)
      have t04 := t03.trans t4
      have w04 : Same (wo (wo H i) b) H4 := wo2_trans w02 (wo2_trans (same_wo2 u3.1) s4)
      have hv6' := hv6.keep (u3.2.trans t4)
      refine Go.run (K := K) (B := H4) (H := H4) ?_ (.refl H4)
      refine go_ifs (b := false) ((et_B (ev_isN' (ev_var (i := 7) rfl hv7))).is (isN_kd _)) (fun z => nomatch z) (fun _ => ?_)
      refine go_ifs (b := true) (et_word (i := 1) rfl (hvd.keep t04) (by decide +kernel)) (fun _ => ?_) (fun z => nomatch z)
      exact go_ret (ev_tup (ea_cons ev_str (ea_cons (ev_var (i := 6) rfl hv6') (ea_cons (ev_var (i := 7) rfl hv7) ea_nil))) (by simp)) fun v H5 u5 hv => q v H5 (wo2_trans w04 (same_wo2 u5.1)) (t04.trans u5.2) (I4.keep u5.1) hv
    | @first _ _ _ d1 k1 S1 n1 mm S2 h1 ha =>
      refine go_ifs (b := false) (et_word (i := 1) rfl hvd (by decide +kernel)) (fun z => nomatch z) (fun _ => ?_)
      refine go_ifs (b := false) (et_word (i := 1) rfl hvd (by decide +kernel)) (fun z => nomatch z) (fun _ => ?_)
      refine go_ifs (b := false) (et_word (i := 1) rfl hvd (by decide +kernel)) (fun z => nomatch z) (fun _ => ?_)
      refine go_ifs (b := false) (et_word (i := 1) rfl hvd (by decide +kernel)) (fun z => nomatch z) (fun _ => ?_)
      have hd1 : d1.depth ≤ n := by simp only [Dd.depth] at hdp; omega
      obtain ⟨o1, o2, o3, o4, o5⟩ := ok h1 hchs hin.nums hin.sok
      intro H1 u1
      have I1 := hin.st.keep u1.1
      refine go_asgM (kof_call (d := d1) (Γ := Γ) (ws := ws) ⟨hd1, I1, hin.gb, h1, hin.bok, hchs, hin.nums, hin.sok, by simp only [Dd.size] at hroom; omega, by simp only [Dd.depth] at hfew; omega, u1.1 _ _ hin.lst, hin.im.keep u1.2⟩ rfl rfl rfl (hvp.keep u1.2) (by simp only [Dd.depth] at hpl; omega) (ev_ix (ev_var (i := 1) rfl (hvd.keep u1.2)) ev_int rfl) fun v6 H2 s2 t2 I2 hv6 => ?_)
      have t02 := u1.2.trans t2
      have w02 : Same (wo (wo H i) b) H2 := wo2_trans (same_wo2 u1.1) s2
      refine Go.run (K := K) (B := H2) (H := H2) ?_ (.refl H2)
      refine go_ifs (b := false) ((et_B (ev_isN' (ev_var (i := 6) rfl hv6))).is (isN_kd _)) (fun z => nomatch z) (fun _ => ?_)
      refine go_ifs (b := true) ((et_test (ev_eqI (ev_lenT (ev_var (i := 1) rfl (hvd.keep t02))) ev_int)).is (by show decide (((2 : Nat) : Int) = 2) = true; decide +kernel)) (fun _ => ?_) (fun z => nomatch z)
      intro H3 u3
      have I3 := I2.keep u3.1
      obtain ⟨⟨dx, p0, hi⟩, _, _⟩ := id I3
      refine ⟨_, rfl, i, dx, _, rfl, hi, rfl, ?_⟩
      refine (ev_word (i := 1) rfl (hvd.keep t02) : Ev K H2 _ [some (.ref i), some vd, some (.ref pg), some vp, none, none, some v6, none, none] H2 (.str "first")) H3 u3 _ fun v2 H4 s4 hv2 => ?_
      have e2 := hv2.str_inv
      subst e2
      refine ⟨v6, rfl, vp, rfl, i, a, b, g, n1, bk, S1, S', mm, n1 + 2, k1, true, v6, vp, rfl, I3.keep s4, hin.gb, hv6.keep (u3.2.trans (.of s4)), ha, Nat.le_refl _, by simp only [Dd.size] at hroom; omega, o1.mono (by omega), o2.mono (by omega), fun H5 s5 t5 I5 => ?_⟩
      exact q _ H5 (wo2_trans w02 (wo2_trans (same_wo2 (u3.1.trans s4)) s5)) (t02.trans (u3.2.trans ((TK.of s4).trans t5))) I5 (.int _)
    | @second _ _ _ d1 k1 S1 n1 mm S2 h1 ha =>
      refine go_ifs (b := false) (et_word (i := 1) rfl hvd (by decide +kernel)) (fun z => nomatch z) (fun _ => ?_)
      refine go_ifs (b := false) (et_word (i := 1) rfl hvd (by decide +kernel)) (fun z => nomatch z) (fun _ => ?_)
      refine go_ifs (b := false) (et_word (i := 1) rfl hvd (by decide +kernel)) (fun z => nomatch z) (fun _ => ?_)
      refine go_ifs (b := false) (et_word (i := 1) rfl hvd (by decide +kernel)) (fun z => nomatch z) (fun _ => ?_)
      have hd1 : d1.depth ≤ n := by simp only [Dd.depth] at hdp; omega
      obtain ⟨o1, o2, o3, o4, o5⟩ := ok h1 hchs hin.nums hin.sok
      intro H1 u1
      have I1 := hin.st.keep u1.1
      refine go_asgM (kof_call (d := d1) (Γ := Γ) (ws := ws) ⟨hd1, I1, hin.gb, h1, hin.bok, hchs, hin.nums, hin.sok, by simp only [Dd.size] at hroom; omega, by simp only [Dd.depth] at hfew; omega, u1.1 _ _ hin.lst, hin.im.keep u1.2⟩ rfl rfl rfl (hvp.keep u1.2) (by simp only [Dd.depth] at hpl; omega) (ev_ix (ev_var (i := 1) rfl (hvd.keep u1.2)) ev_int rfl) fun v6 H2 s2 t2 I2 hv6 => ?_)
      have t02 := u1.2.trans t2
      have w02 : Same (wo (wo H i) b) H2 := wo2_trans (same_wo2 u1.1) s2
      refine Go.run (K := K) (B := H2) (H := H2) ?_ (.refl H2)
      refine go_ifs (b := false) ((et_B (ev_isN' (ev_var (i := 6) rfl hv6))).is (isN_kd _)) (fun z => nomatch z) (fun _ => ?_)
      refine go_ifs (b := true) ((et_test (ev_eqI (ev_lenT (ev_var (i := 1) rfl (hvd.keep t02))) ev_int)).is (by show decide (((2 : Nat) : Int) = 2) = true; decide +kernel)) (fun _ => ?_) (fun z => nomatch z)
      intro H3 u3
      have I3 := I2.keep u3.1
      obtain ⟨⟨dx, p0, hi⟩, _, _⟩ := id I3
      refine ⟨_, rfl, i, dx, _, rfl, hi, rfl, ?_⟩
      refine (ev_word (i := 1) rfl (hvd.keep t02) : Ev K H2 _ [some (.ref i), some vd, some (.ref pg), some vp, none, none, some v6, none, none] H2 (.str "second")) H3 u3 _ fun v2 H4 s4 hv2 => ?_
      have e2 := hv2.str_inv
      subst e2
      refine ⟨v6, rfl, vp, rfl, i, a, b, g, n1, bk, S1, S', mm, n1 + 2, k1, false, v6, vp, rfl, I3.keep s4, hin.gb, hv6.keep (u3.2.trans (.of s4)), ha, Nat.le_refl _, by simp only [Dd.size] at hroom; omega, o1.mono (by omega), o2.mono (by omega), fun H5 s5 t5 I5 => ?_⟩
      exact q _ H5 (wo2_trans w02 (wo2_trans (same_wo2 (u3.1.trans s4)) s5)) (t02.trans (u3.2.trans ((TK.of s4).trans t5))) I5 (.int _)
end Fw
set_option Elab.async false
set_option linter.all false
set_option maxRecDepth 100000
set_option maxHeartbeats 1000000
namespace Fw
open PySem L2 Fd
variable {P : Program} {w : World} {K : PySem.W.Frag} {mg : Str → Option Value} {base : Heap}
abbrev s_Inferring___init__ : Stmt := inClass (top 27) 0
abbrev nm_Inferring___init__ : List Str := ["self", "book"]
theorem sc_Inferring___init__ : FnScope nm_Inferring___init__ ["self", "book"] (defScope s_Inferring___init__) := ⟨rfl, rfl, rfl, by decide +kernel, rfl, by decide +kernel, by decide +kernel⟩
def spInI (K : PySem.W.Frag) (CA CI : Addr) : Sp := fun vs H Q _ => ∃ (i dx : Addr) (vb : V) (bk : Bk), vs = [.ref i, vb] ∧ H i = some (.ins CI dx []) ∧ BkV K H vb bk ∧ (bk.map Prod.fst).Nodup ∧
  ∀ H' a b g, H b = none → g ≠ b → Same (wo H i) H' → TK K H H' → InfS K CA CI H' i a b g 0 bk [] → Q .non H'
theorem inI_ok {CA CI f fA : Addr} {fd fdA : FuncData} (A : InC K CA CI) (T : Tx K mg) (F : Fun K "__init__" "Inferring.__init__" s_Inferring___init__ f fd) (M_Agreeing : Mk K CA fA) (G_Agreeing' : FnOk P w K mg base CX0 1 fA fdA ["self"] (spAgI K CA)) (g_Agreeing : mg "Agreeing" = some (.ref CA)) (b_Agreeing : Binds K fdA ["self"] []) :
    FnOk P w K mg base CX0 3 f fd ["self", "book"] (spInI K CA CI) := by
  have G_Agreeing := G_Agreeing'
  refine F.ok sc_Inferring___init__ (fun vs H Q E ⟨_, _, _, _, e, _⟩ => by rw [e]; rfl) (fun cdv A' outer s H vs Q E hr h => ?_)
  obtain ⟨i, dx, vb, bk, rfl, hi, hb, hn, q⟩ := h
  refine ⟨_, (pss_cons (ps_fld (pv 0) (pe_callTy (call_dictT rfl) rfl T.dict_ (by decide +kernel) (pa_cons (pv 1) pa_nil)) rfl)
 (pss_cons (ps_fld (pv 0) (pe_make0 M_Agreeing G_Agreeing hr rfl g_Agreeing b_Agreeing .nil pass0) rfl)
 (pss_cons (ps_fld (pv 0) pe_int rfl)
 (pss_one (ps_fld (pv 0) pe_non rfl))))), ?_⟩
  obtain ⟨ab, o, ws, rfl, h1, h2, h3⟩ := id hb
  obtain ⟨ps, kvs, rfl, hp, hrw⟩ := bk_rows h3
  refine ⟨_, rfl, ab, o, ps, kvs, rfl, h1, h2, hp, fun g hg => ?_⟩
  have sg := same_new hg (.dK (mergeK [] kvs))
  obtain ⟨H1, e1⟩ : ∃ H1, H1 = upd H g (.dK (mergeK [] kvs)) := ⟨_, rfl⟩
  rw [← e1] at sg ⊢
  have hg1 : H1 g = some (.dK (mergeK [] kvs)) := by rw [e1]; exact upd_same
  have nig : i ≠ g := ne_of_none hi hg
  refine ⟨_, rfl, i, CI, dx, [], rfl, sg _ _ hi, A.cl, A.nb, by decide, ?_⟩
  obtain ⟨H2, e2⟩ : ∃ H2, H2 = upd H1 i (.ins CI dx (putF "book" (.ref g) [])) := ⟨_, rfl⟩
  rw [← e2]
  have t2 : TK K H1 H2 := by rw [e2]; exact TK.upd (by rw [sg _ _ hi]; trivial)
  have hi2 : H2 i = some (.ins CI dx (putF "book" (.ref g) [])) := by rw [e2]; exact upd_same
  have hg2 : H2 g = some (.dK (mergeK [] kvs)) := by rw [e2, upd_ne nig.symm]; exact hg1
  have w2 : Same (wo H i) H2 := fun p o' hp' => by
    have hne : p ≠ i := by intro e; subst e; rw [wo_l] at hp'; cases hp'
    rw [wo_ne hne] at hp'
    rw [e2, upd_ne hne]
    exact sg _ _ hp'
  intro a da ha hda hne
  obtain ⟨H3, e3⟩ : ∃ H3, H3 = upd (upd H2 da (.own a)) a (.ins CA da []) := ⟨_, rfl⟩
  rw [← e3]
  have s23 : Same H2 H3 := fun p o' hp' => by rw [e3, upd_ne (ne_of_none hp' ha), upd_ne (ne_of_none hp' hda)]; exact hp'
  have ha3 : H3 a = some (.ins CA da []) := by rw [e3]; exact upd_same
  refine ⟨a, da, rfl, ha3, fun H4 b hb4 s4 t4 A4 => ⟨rfl, ?_⟩⟩
  have nia : i ≠ a := ne_of_none hi2 ha
  have nga : g ≠ a := ne_of_none hg2 ha
  have hi4 : H4 i = some (.ins CI dx (putF "book" (.ref g) [])) := same_wo s4 nia (s23 _ _ hi2)
  have hg4 : H4 g = some (.dK (mergeK [] kvs)) := same_wo s4 nga (s23 _ _ hg2)
  have hb3 : H b = none := by
    cases e : H b with
    | none => rfl
    | some o' =>
      have nbi : b ≠ i := by intro e'; subst e'; rw [s23 _ _ hi2] at hb4; cases hb4
      have := s23 _ _ (w2 _ _ (by rw [wo_ne nbi]; exact e))
      rw [hb4] at this
      cases this
  have ngb : g ≠ b := ne_of_none (s23 _ _ hg2) hb4
  have nib : i ≠ b := ne_of_none (s23 _ _ hi2) hb4
  refine ⟨_, rfl, i, CI, dx, _, rfl, hi4, A.cl, A.na, by show 1 < 1000; decide, _, rfl, i, CI, dx, _, rfl, upd_same, A.cl, A.nn, by show 2 < 1000; decide, _, rfl, i, CI, dx, _, rfl, upd_same, A.cl, A.np, by show 3 < 1000; decide, ?_⟩
  have e5 : upd (upd (upd H4 i (.ins CI dx (putF "agreeing" (.ref a) (putF "book" (.ref g) [])))) i (.ins CI dx (putF "numbered" (.int 0) (putF "agreeing" (.ref a) (putF "book" (.ref g) []))))) i (.ins CI dx (putF "place" V.non (putF "numbered" (.int 0) (putF "agreeing" (.ref a) (putF "book" (.ref g) []))))) = upd H4 i (.ins CI dx (inf g a 0 .non)) := by
    funext p
    by_cases e : p = i
    · subst e; rw [upd_same, upd_same]; exact congrArg some (congrArg (HO.ins CI dx) put_all)
    · rw [upd_ne e, upd_ne e, upd_ne e, upd_ne e]
  show Q .non (upd (upd (upd H4 i _) i _) i _)
  rw [e5]
  have t5 : TK K H4 (upd H4 i (.ins CI dx (inf g a 0 .non))) := TK.upd (by rw [hi4]; trivial)
  have tall : TK K H (upd H4 i (.ins CI dx (inf g a 0 .non))) := (TK.of sg).trans (t2.trans ((TK.of s23).trans (t4.trans t5)))
  obtain ⟨⟨dy, ha4⟩, kv, hb4', hbec⟩ := A4
  refine q _ a b g hb3 ngb (fun p o' hp' => ?_) tall ⟨⟨dx, .non, upd_same⟩, ⟨⟨dy, by rw [upd_ne nia.symm]; exact ha4⟩, kv, by rw [upd_ne nib.symm]; exact hb4', hbec.keep t5⟩, mergeK [] kvs, by rw [upd_ne nig.symm]; exact hg4, fun x k hx => ?_⟩
  · have hne' : p ≠ i := by intro e; subst e; rw [wo_l] at hp'; cases hp'
    have hp2 := s23 _ _ (w2 _ _ hp')
    have npa : p ≠ a := by
      intro e; subst e
      have := w2 _ _ hp'
      rw [ha] at this
      cases this
    rw [upd_ne hne']
    exact same_wo s4 npa hp2
  · obtain ⟨v, hv, hm⟩ := hrw.get hn hx
    exact ⟨v, hv, hm.keep tall⟩
end Fw
set_option Elab.async false
set_option linter.all false
set_option maxRecDepth 100000
set_option maxHeartbeats 1000000
namespace Fw
open PySem L2 Fd
variable {P : Program} {w : World} {K : PySem.W.Frag} {mg : Str → Option Value} {base : Heap}
/-! ### fits -/
/-- a deed that may be asked of a book -/
structure Ask (bk : Bk) (n : Nat) (d : Dd) : Prop where
  nodup : (bk.map Prod.fst).Nodup
  few : bk.length ≤ 3
  book : BOk bk
  dp : d.depth ≤ n
  size : d.size ≤ 1000
  names : namesD PN d
  hld : held 0 d
  used : ∀ s ∈ usedF d, s ∈ bk.map Prod.fst
  chs : Chs 40 d
/-- what is at hand of the classes -/
structure Classes (P : Program) (w : World) (K : PySem.W.Frag) (mg : Str → Option Value) (base : Heap) (CA CI : Addr) (M n : Nat) : Prop where
  ic : InC K CA CI
  whole : CalM P w K mg base 15 CA "whole" ["self", "kind"] (spWhole K CA 14)
  make : ∃ f fd, Mk K CI f ∧ FnOk P w K mg base CX0 3 f fd ["self", "book"] (spInI K CA CI) ∧ mg "Inferring" = some (.ref CI) ∧ Binds K fd ["self", "book"] []
  kof : CalM P w K mg base M CI "kind_of" ["self", "deed", "given", "place"] (spKof K CA CI 14 n)
  same : CalM P w K mg base 18 CI "same" ["self", "one", "other", "place"] (spSame K CA CI 14)
theorem wo2_base {H H1 H2 : Hp} {i b : Addr} (s : Same H H1) (hi : H i = none) (hb : H b = none) (s2 : Same (wo (wo H1 i) b) H2) : Same H H2 := fun p o hp => s2 _ _ (by rw [wo_ne (ne_of_none hp hb), wo_ne (ne_of_none hp hi)]; exact s _ _ hp)
/-- Inferring(book) -/
theorem make_inf {CA CI : Addr} {H : Hp} {σ : St} {j : Nat} {vb : V} {bk : Bk} {E : XK} {Q : VK} (e : σ[j]? = some (some vb)) (hb : BkV K H vb bk) (hn : (bk.map Prod.fst).Nodup)
    (q : ∀ (i a b g : Addr) H', H i = none → H b = none → g ≠ b → Same H H' → InfS K CA CI H' i a b g 0 bk [] → Q (.ref i) H') : tMake CI (spInI K CA CI) [] E (tCons (tVar j) tNil) σ H Q := by
  refine ⟨vb, e, fun x dx hx hdx hne => ?_⟩
  have s1 : Same H (upd (upd H dx (.own x)) x (.ins CI dx [])) := fun p o hp => by rw [upd_ne (ne_of_none hp hx), upd_ne (ne_of_none hp hdx)]; exact hp
  refine ⟨x, dx, vb, bk, rfl, upd_same, hb.keep s1, hn, fun H' a b g h1 h2 h3 h4 h5 => ⟨rfl, ?_⟩⟩
  have nbx : b ≠ x := by intro z; subst z; rw [upd_same] at h1; cases h1
  have nbd : b ≠ dx := by intro z; subst z; rw [upd_ne hne, upd_same] at h1; cases h1
  refine q x a b g H' hx (by rw [upd_ne nbx, upd_ne nbd] at h1; exact h1) h2 (fun p o hp => same_wo h3 (ne_of_none hp hx) (s1 _ _ hp)) h5
abbrev s_fits : Stmt := top 31
abbrev nm_fits : List Str := ["book", "kind", "deed", "inferring", "found"]
theorem sc_fits : FnScope nm_fits ["book", "kind", "deed"] (defScope s_fits) := ⟨rfl, rfl, rfl, by decide +kernel, rfl, by decide +kernel, by decide +kernel⟩
def spFits (K : PySem.W.Frag) (n : Nat) : Sp := fun vs H Q _ => ∃ (bk : Bk) (K0 K' : Kd) (d : Dd) (vb vk vd : V), vs = [vb, vk, vd] ∧ BkV K H vb bk ∧ Im K H vk (kd K') ∧ Im K H vd (dd d) ∧ Ask bk n d ∧ Has (fun k => Kd.depth k < 10) bk [] d K0 ∧ K'.settled ∧ K'.depth ≤ 4 ∧ namesK PN K' ∧
  ∀ (r : Bool) H', (r = true ↔ Has All bk [] d K') → Same H H' → Q (.bl r) H'
theorem fits_ok {CA CI : Addr} (T : Tx K mg) (M n : Nat) (hM : 18 ≤ M) (hn : n + 3 ≤ M) (Cs : Classes P w K mg base CA CI M n) (D : Dfn K mg "fits" s_fits ["book", "kind", "deed"]) (CC : Cal P w K mg base (n + 3) "can_be_asked" ["book", "deed"] (spI K (rCan n))) :
    Cal P w K mg base (M + 1) "fits" ["book", "kind", "deed"] (spFits K n) := by
  obtain ⟨f, fd, F, m_, b_⟩ := D
  have cl_Inferring := Cs.ic.cl
  obtain ⟨_, _, G_can_be_asked, m_can_be_asked, k_can_be_asked, b_can_be_asked⟩ := CC.mono hn
  obtain ⟨fI, fdI, M_Inferring, G0, g_Inferring, b_Inferring⟩ := Cs.make
  obtain ⟨M', rfl⟩ : ∃ M', M = M' + 1 := ⟨M - 1, by omega⟩
  have G_Inferring := G0.mono (show 3 ≤ M' by omega)
  obtain ⟨_, _, G_kind_of, c_kind_of, b_kind_of⟩ := Cs.kof
  obtain ⟨_, _, G_same, c_same, b_same⟩ := Cs.same.mono hM
  refine ⟨f, fd, F.ok sc_fits (fun vs H Q E ⟨_, _, _, _, _, _, _, e, _⟩ => by rw [e]; rfl) (fun cdv A' outer s H vs Q E hr h => ?_), m_, F.kp, b_⟩
  obtain ⟨bk, K0, K', d, vb, vk, vd, rfl, hb, hk, hd, ha, hhas, hs, hE, hpn, q⟩ := h
  refine ⟨_, (pss_cons (ps_if (pt_not (pt_val (pe_call G_can_be_asked hr rfl m_can_be_asked k_can_be_asked b_can_be_asked .nil pass0 (pa_cons (pv 0) (pa_cons (pv 2) pa_nil)))))
 (pss_one (ps_ret pe_bl))
 pss_nil)
 (pss_cons (ps_set (i := 3) sc_fits.nd rfl (Or.inl rfl) (pe_make M_Inferring G_Inferring hr rfl g_Inferring b_Inferring .nil pass0 (pa_cons (pv 0) pa_nil)))
 (pss_cons (ps_set (i := 4) sc_fits.nd rfl (Or.inl rfl) (pe_meth (pv 3) cl_Inferring c_kind_of G_kind_of hr b_kind_of .nil pass0 (pa_cons (pv 2) (pa_cons (pe_lst pa_nil) (pa_cons (pe_tup pa_nil) pa_nil)))))
 (pss_one (ps_ret (pe_and (pe_cmp (pc_notN (pv 4)) rfl) (pe_one (pe_meth (pv 3) cl_Inferring c_same G_same hr b_same .nil pass0 (pa_cons (pv 4) (pa_cons (pv 1) (pa_cons (pe_tup pa_nil) pa_nil))))))))))), ?_⟩
  refine Go.run (K := K) (B := H) ?_ (.refl H)
  refine go_ifs (b := false) (et_not (a := true) (et_B (ev_call (ea_cons (ev_var rfl hb.im) (ea_cons (ev_var rfl hd) ea_nil)) ⟨bk, d, ha.few, ha.dp, by have := ha.size; omega, ha.names, ha.hld, ha.used, rfl, rfl⟩))) (fun z => nomatch z) (fun _ => ?_)
  intro H1 u1
  obtain ⟨k, S, n1, m, r, S', hrun, hal, hr⟩ := fits_ex (c := 10) (E := 4) (fun s k h => (ha.book s k h).2.1) (by decide) hhas hs hE
  obtain ⟨o1, o2, o3, o4, o5⟩ := Inf.ok ha.book hrun ha.chs (fun k hk => nomatch hk) SOk.nil
  refine go_asgM (make_inf (j := 0) rfl (hb.keep u1.1) ha.nodup fun i a b g H2 hi hbn hgb s2 I2 => ?_)
  have t2 := u1.2.trans (TK.of s2)
  obtain ⟨⟨dx, p0, hi2⟩, _, _⟩ := id I2
  refine go_asgM ⟨_, rfl, i, dx, _, rfl, hi2, rfl, ?_⟩
  refine (er_D (ev_var (i := 2) rfl (hd.keep t2)) (er_Lx (el_lst ea_nil (by simp)) (er_D (ev_tup ea_nil (by simp)) er_nil)) : EvR K H2 _ [some vb, some vk, some vd, some (.ref i), none] H2 _) H2 (.refl (.refl _)) _ fun vs H3 s3 ⟨x1, vs1, q1, hx1, l, wl, vs2, q2, hl3, ml, x3, vs3, q3, hx3, q4⟩ => ?_
  subst q4 q3 q2 q1
  cases ml
  have hsz := ha.size
  have hdp' := d.depth_pos
  have hds : d.depth ≤ 1000 := by have := Dd.depth_le_size d; omega
  refine ⟨i, a, b, g, 0, bk, [], d, [], k, S, n1, l, [], x1, x3, [], rfl, ⟨ha.dp, I2.keep s3, hgb, hrun, ha.book, ha.chs, (fun k hk => nomatch hk), SOk.nil, by omega, by simp; omega, hl3, .nil⟩, hx1, hx3, by simp; omega, fun v4 H4 s4 t4 I4 hv4 => ?_⟩
  have s14 : Same H1 H4 := wo2_base (s2.trans s3) hi hbn s4
  have hne : v4 ≠ .non := by
    intro e
    subst e
    cases k <;> cases hv4
  have t14 := t2.trans ((TK.of s3).trans t4)
  obtain ⟨⟨dx4, p4, hi4⟩, _, _⟩ := id I4
  refine ⟨v4, rfl, true, by rw [decide_eq_false hne]; rfl, _, rfl, i, dx4, _, rfl, hi4, rfl, v4, rfl, vk, rfl, ?_⟩
  refine (ev_tup ea_nil (by simp) : Ev K H4 (tTup tNil) [some vb, some vk, some vd, some (.ref i), some v4] H4 (.tuple [])) H4 (.refl (.refl _)) _ fun vt H5 s5 hvt => ?_
  refine ⟨i, a, b, g, n1, bk, S, S', m, 10000, r, k, K', v4, vk, vt, rfl, I4.keep s5, hgb, hv4.keep (.of s5), (hk.keep t14).keep (.of s5), hal, Nat.le_refl _, o1.mono (by omega), o2.mono (by omega), ⟨by omega, hpn, lo_settled hs⟩, fun H6 s6 t6 I6 => ?_⟩
  exact q r H6 hr (u1.1.trans (wo2_base (s14.trans s5) hi hbn s6))
end Fw
set_option Elab.async false
set_option linter.all false
set_option maxRecDepth 100000
set_option maxHeartbeats 1000000
namespace Fw
open PySem L2 Fd
/-! ### letters -/
def abcs : List Nat := ("ABCDEFGHIJKLMNOPQRSTUVWXYZ" : Str).cps.toList
def letter (i : Nat) : Str := ⟨#[abcs.getD (i % 26) 0]⟩
theorem numsIn_nodup (k : Kd) : (numsIn k).Nodup := by
  have two : ∀ A B : List Nat, A.Nodup → B.Nodup → (A ++ B.filter fun n => !A.contains n).Nodup := fun A B ha hb => by
    rw [List.nodup_append]
    refine ⟨ha, hb.filter _, fun a h1 b h2 e => ?_⟩
    subst e
    have := (List.mem_filter.mp h2).2
    rw [List.contains_iff_mem.mpr h1] at this
    cases this
  induction k with
  | nm s => exact List.nodup_nil
  | num n => simp [numsIn]
  | way a b i1 i2 => exact two _ _ i1 i2
  | pair a b i1 i2 => exact two _ _ i1 i2
theorem pos_at : ∀ (l : List Nat) (i j n : Nat), l.Nodup → l[j]? = some n → pos l i n = i + j
  | [], _, _, _, _, h => by simp at h
  | x :: r, i, 0, n, _, h => by cases h; simp [pos]
  | x :: r, i, j + 1, n, hn, h => by
    rw [List.nodup_cons] at hn
    have h' : r[j]? = some n := h
    have ne : ¬ x = n := fun e => hn.1 (e ▸ List.mem_of_getElem? h')
    simp only [pos, if_neg ne]
    rw [pos_at r (i + 1) j n hn.2 h']
    omega
theorem letter_at (i : Nat) : atI ("ABCDEFGHIJKLMNOPQRSTUVWXYZ" : Str).cps.toList ((i : Int) % 26) = some (abcs.getD (i % 26) 0) := by
  have e : (i : Int) % 26 = ((i % 26 : Nat) : Int) := by omega
  rw [e]
  have hl : i % 26 < 26 := Nat.mod_lt _ (by decide)
  have h26 : abcs.length = 26 := by decide +kernel
  refine atI_nat ?_
  show abcs[i % 26]? = _
  rw [List.getD_eq_getElem?_getD, List.getElem?_eq_getElem (by omega)]
  rfl
theorem lett_valid (i : Nat) : abcs.getD (i % 26) 0 < 1114112 := by
  have hl : i % 26 < 26 := Nat.mod_lt _ (by decide)
  have : ∀ j : Fin 26, abcs.getD j.val 0 < 1114112 := by decide +kernel
  exact this ⟨_, hl⟩
theorem Wh.names {N : Nat} {S : Bec} {c : Nat} {k k' : Kd} (h : Wh S c k k') (s : SOk N S) : KOk N k → namesK PN k' := by
  induction h with
  | nm h => intro hk; exact (Sn.ok s h hk).nm
  | num h => intro hk; exact (Sn.ok s h hk).nm
  | way h _ _ i1 i2 => intro hk; have z := (Sn.ok s h hk).way; exact ⟨i1 z.1, i2 z.2⟩
  | pair h _ _ i1 i2 => intro hk; have z := (Sn.ok s h hk).pair; exact ⟨i1 z.1, i2 z.2⟩
theorem lett_lay {f : Nat → Nat} {k : Kd} (h : namesK PN k) : (kd (Kd.sub (fun n => .nm (letter (f n))) k)).canLay0 = true ∧ (Kd.sub (fun n => .nm (letter (f n))) k).depth ≤ k.depth := by
  have w1 : PyData.strOk "way" = true := by decide +kernel
  have w2 : PyData.strOk "pair" = true := by decide +kernel
  induction k with
  | nm s => exact ⟨by simp only [Kd.sub, kd, PyData.canLay0]; exact pn_ok h, Nat.le_refl _⟩
  | num n =>
    refine ⟨?_, by simp [Kd.sub, Kd.depth]⟩
    simp only [Kd.sub, kd, PyData.canLay0]
    unfold PyData.strOk letter
    have := lett_valid (f n)
    simp only [List.all_toArray, List.all_cons, List.all_nil, Bool.and_true, decide_eq_true_eq]
    exact this
  | way a b i1 i2 =>
    obtain ⟨a1, a2⟩ := i1 h.1
    obtain ⟨b1, b2⟩ := i2 h.2
    exact ⟨by simp only [Kd.sub, kd, PyData.canLay0, PyData.canLayAll0, w1, a1, b1, Bool.and_self], by simp only [Kd.sub, Kd.depth]; omega⟩
  | pair a b i1 i2 =>
    obtain ⟨a1, a2⟩ := i1 h.1
    obtain ⟨b1, b2⟩ := i2 h.2
    exact ⟨by simp only [Kd.sub, kd, PyData.canLay0, PyData.canLayAll0, w2, a1, b1, Bool.and_self], by simp only [Kd.sub, Kd.depth]; omega⟩
variable {P : Program} {w : World} {K : PySem.W.Frag} {mg : Str → Option Value} {base : Heap}
abbrev s_infer : Stmt := top 30
abbrev nm_infer : List Str := ["book", "deed", "inferring", "kind", "letters", "number"]
theorem sc_infer : FnScope nm_infer ["book", "deed"] (defScope s_infer) := ⟨rfl, rfl, rfl, by decide +kernel, rfl, by decide +kernel, by decide +kernel⟩
def spInfer (K : PySem.W.Frag) (n : Nat) : Sp := fun vs H Q _ => ∃ (bk : Bk) (K0 : Kd) (d : Dd) (vb vd : V), vs = [vb, vd] ∧ BkV K H vb bk ∧ Im K H vd (dd d) ∧ Ask bk n d ∧ Has (fun k => Kd.depth k < 10) bk [] d K0 ∧
  ∀ (r : Kd) v' H', Told bk letter d r → (kd r).canLay0 = true → r.depth ≤ 60 → Same H H' → Im K H' v' (.tuple [.str "kind", kd r]) → Q v' H'
theorem ev_neLL0 {B H : Hp} {σ : St} {ta : TE} {ds : List PyData} (ha : EvL K B ta σ H ds) (hs : SeqAt.shaped (.list ds) = true) : Ev K B (tOp (rNeD K) ta (tLst tNil)) σ H (.bool (!ds.isEmpty)) := fun H1 u Q q =>
  ha H1 u _ fun l vs H2 _ s2 h2 m => by
    refine ⟨Nat.zero_le _, fun p hp => ?_⟩
    have sn := same_new hp (.lst [])
    refine ⟨.list ds, .list [], .lst (SqL.of (sn _ _ h2)) (m.keep (.of sn)).dp, .lst (SqL.of upd_same) .nil, hs, by decide +kernel, ?_⟩
    have e : PyData.eqv (.list ds) (.list []) = ds.isEmpty := by cases ds <;> simp [PyData.eqv, PyData.eqvAll]
    rw [e]
    exact q _ _ (s2.trans sn) (.bl _)
theorem wh_depth {S : Bec} {c : Nat} {k k' : Kd} (h : Wh S c k k') : k'.depth < c := by
  induction h <;> simp only [Kd.depth] at * <;> omega
theorem infer_ok {CA CI : Addr} (T : Tx K mg) (M n : Nat) (hM : 18 ≤ M) (hn : n + 3 ≤ M) (Cs : Classes P w K mg base CA CI M n) (D : Dfn K mg "infer" s_infer ["book", "deed"]) (CC : Cal P w K mg base (n + 3) "can_be_asked" ["book", "deed"] (spI K (rCan n)))
    (CH : Cal P w K mg base n "holes_in" ["deed"] (spL K (rHoles n))) (CN : Cal P w K mg base 14 "numbers_in" ["kind"] (spL K (rNums 14))) (CL : Cal P w K mg base 14 "lettered" ["kind", "letters"] (spLett K 14)) : Cal P w K mg base (M + 1) "infer" ["book", "deed"] (spInfer K n) := by
  obtain ⟨f, fd, F, m_, b_⟩ := D
  have cl_Inferring := Cs.ic.cl
  have cl_Agreeing := Cs.ic.ag.cl
  obtain ⟨tL, g_LETTERS⟩ := T.LETTERS
  obtain ⟨_, _, G_can_be_asked, m_can_be_asked, k_can_be_asked, b_can_be_asked⟩ := CC.mono hn
  obtain ⟨_, _, G_holes_in, m_holes_in, k_holes_in, b_holes_in⟩ := CH.mono (show n ≤ M by omega)
  obtain ⟨_, _, G_numbers_in, m_numbers_in, k_numbers_in, b_numbers_in⟩ := CN.mono (show 14 ≤ M by omega)
  obtain ⟨_, _, G_lettered, m_lettered, k_lettered, b_lettered⟩ := CL.mono (show 14 ≤ M by omega)
  obtain ⟨_, _, G_whole, c_whole, b_whole⟩ := Cs.whole.mono (show 15 ≤ M by omega)
  obtain ⟨fI, fdI, M_Inferring, G0, g_Inferring, b_Inferring⟩ := Cs.make
  obtain ⟨M', rfl⟩ : ∃ M', M = M' + 1 := ⟨M - 1, by omega⟩
  have G_Inferring := G0.mono (show 3 ≤ M' by omega)
  obtain ⟨_, _, G_kind_of, c_kind_of, b_kind_of⟩ := Cs.kof
  refine ⟨f, fd, F.ok sc_infer (fun vs H Q E ⟨_, _, _, _, _, e, _⟩ => by rw [e]; rfl) (fun cdv A' outer s H vs Q E hr h => ?_), m_, F.kp, b_⟩
  have hu := u1 hr
  obtain ⟨bk, K0, d, vb, vd, rfl, hb, hd, ha, hhas, q⟩ := h
  refine ⟨_, (pss_cons (ps_if (PW.pt (pw_or (pt_not (pt_val (pe_call G_can_be_asked hr rfl m_can_be_asked k_can_be_asked b_can_be_asked .nil pass0 (pa_cons (pv 0) (pa_cons (pv 1) pa_nil))))) (pw_or1 (pt_cmpR (op_neD hr.units) (pe_call G_holes_in hr rfl m_holes_in k_holes_in b_holes_in .nil pass0 (pa_cons (pv 1) pa_nil)) (pe_lst pa_nil) (nomark _)))))
 (pss_one ps_never)
 pss_nil)
 (pss_cons (ps_set (i := 2) sc_infer.nd rfl (Or.inl rfl) (pe_make M_Inferring G_Inferring hr rfl g_Inferring b_Inferring .nil pass0 (pa_cons (pv 0) pa_nil)))
 (pss_cons (ps_set (i := 3) sc_infer.nd rfl (Or.inl rfl) (pe_meth (pv 2) cl_Inferring c_kind_of G_kind_of hr b_kind_of .nil pass0 (pa_cons (pv 1) (pa_cons (pe_lst pa_nil) (pa_cons (pe_tup pa_nil) pa_nil)))))
 (pss_cons (ps_if (pt_cmp (pc_isN (pv 3)))
 (pss_one (ps_ret (pe_tup (pa_cons pe_str (pa_cons (pe_fld (pv 2) rfl) pa_nil)))))
 pss_nil)
 (pss_cons (ps_set (i := 3) sc_infer.nd rfl (Or.inl rfl) (pe_meth (pe_fld (pv 2) rfl) cl_Agreeing c_whole G_whole hr b_whole .nil pass0 (pa_cons (pv 3) pa_nil)))
 (pss_cons (ps_set (i := 4) sc_infer.nd rfl (Or.inl rfl) pe_dnewK)
 (pss_cons (ps_for PassesOwn.never rfl (pi_list (pe_call G_numbers_in hr rfl m_numbers_in k_numbers_in b_numbers_in .nil pass0 (pa_cons (pv 3) pa_nil))) (pg_name (i := 5) sc_infer.nd rfl (Or.inl rfl))
 (pss_one (ps_dput hu (pv 4) (pv 5) (pe_ix ix_str (pe_glob (v := .str "ABCDEFGHIJKLMNOPQRSTUVWXYZ") rfl g_LETTERS ⟨_, rfl⟩) (pe_op op_mod (pe_callB call_lenD rfl T.len_ (by decide +kernel) (pa_cons (pv 4) pa_nil)) (pe_callB call_len_str rfl T.len_ (by decide +kernel) (pa_cons (pe_glob (v := .str "ABCDEFGHIJKLMNOPQRSTUVWXYZ") rfl g_LETTERS ⟨_, rfl⟩) pa_nil))) (fun _ _ => rfl)) rfl)))
 (pss_one (ps_ret (pe_tup (pa_cons pe_str (pa_cons (pe_call G_lettered hr rfl m_lettered k_lettered b_lettered .nil pass0 (pa_cons (pv 3) (pa_cons (pv 4) pa_nil))) pa_nil)))))))))))), ?_⟩
  refine Go.run (K := K) (B := H) ?_ (.refl H)
  refine go_ifs (b := false) (et_or (a := false) (b := false) (et_not (a := true) (et_B (ev_call (ea_cons (ev_var rfl hb.im) (ea_cons (ev_var rfl hd) ea_nil)) ⟨bk, d, ha.few, ha.dp, by have := ha.size; omega, ha.names, ha.hld, ha.used, rfl, rfl⟩))) fun _ => (et_test (ev_neLL0 (ds := []) (el_call (ea_cons (ev_var rfl hd) ea_nil) ⟨d, ha.dp, rfl, rfl⟩) (by decide +kernel))).is rfl) (fun z => nomatch z) (fun _ => ?_)
  intro H1 u1
  obtain ⟨k, S, n1, ww, hrun, hw, htold⟩ := infer_ex (c := 14) (fun s k h => (ha.book s k h).2.1) (by decide) (hhas.mono fun k q => Nat.lt_of_lt_of_le q (by decide))
  obtain ⟨o1, o2, o3, o4, o5⟩ := Inf.ok ha.book hrun ha.chs (fun k hk => nomatch hk) SOk.nil
  refine go_asgM (make_inf (j := 0) rfl (hb.keep u1.1) ha.nodup fun i a b g H2 hi hbn hgb s2 I2 => ?_)
  have t2 := u1.2.trans (TK.of s2)
  obtain ⟨⟨dx, p0, hi2⟩, _, _⟩ := id I2
  refine go_asgM ⟨_, rfl, i, dx, _, rfl, hi2, rfl, ?_⟩
  refine (er_D (ev_var (i := 1) rfl (hd.keep t2)) (er_Lx (el_lst ea_nil (by simp)) (er_D (ev_tup ea_nil (by simp)) er_nil)) : EvR K H2 _ [some vb, some vd, some (.ref i), none, none, none] H2 _) H2 (.refl (.refl _)) _ fun vs H3 s3 ⟨x1, vs1, q1, hx1, l, wl, vs2, q2, hl3, ml, x3, vs3, q3, hx3, q4⟩ => ?_
  subst q4 q3 q2 q1
  cases ml
  have hsz := ha.size
  have hds : d.depth ≤ 1000 := by have := Dd.depth_le_size d; omega
  refine ⟨i, a, b, g, 0, bk, [], d, [], k, S, n1, l, [], x1, x3, [], rfl, ⟨ha.dp, I2.keep s3, hgb, hrun, ha.book, ha.chs, (fun k hk => nomatch hk), SOk.nil, by omega, by simp; omega, hl3, .nil⟩, hx1, hx3, by simp; omega, fun v4 H4 s4 t4 I4 hv4 => ?_⟩
  have s04 : Same H H4 := u1.1.trans (wo2_base (s2.trans s3) hi hbn s4)
  dsimp only
  refine Go.run (K := K) (B := H4) (H := H4) ?_ (.refl H4)
  refine go_ifs (b := false) ((et_B (ev_isN' (ev_var (i := 3) rfl hv4))).is (isN_kd _)) (fun z => nomatch z) (fun _ => ?_)
  refine go_set (d := kd ww) (fun H5 u5 Q' q' => ?_) fun vw H5 u5 hvw => ?_
  · obtain ⟨⟨dx5, p5, hi5⟩, A5, _⟩ := id (I4.keep u5.1)
    obtain ⟨⟨dy, ha5⟩, _⟩ := id A5
    exact ⟨_, rfl, i, CI, dx5, _, .ref a, rfl, hi5, Cs.ic.cl, Cs.ic.na, rfl, a, dy, _, rfl, ha5, rfl, v4, rfl, a, b, S, k, ww, v4, rfl, A5, hv4.keep u5.2, hw, fun v' H' s' hv => q' v' H' s' hv⟩
  intro H6 u6
  refine go_newD fun p hp => ?_
  have hwd := wh_depth hw
  have hnd := numsIn_nodup ww
  have hsz2 : ww.size ≤ 32768 := size_lt hwd (by decide)
  have hnl := numsIn_len ww
  obtain ⟨H7, e7⟩ : ∃ H7, H7 = upd H6 p (.dK []) := ⟨_, rfl⟩
  rw [← e7]
  have s67 : Same H6 H7 := by rw [e7]; exact same_new hp _
  have hp7 : H7 p = some (.dK []) := by rw [e7]; exact upd_same
  have s06 : Same H H6 := s04.trans u6.1
  have hpH : H p = none := s06.free hp
  have hvw7 := hvw.keep (u6.2.trans (.of s67))
  refine (go_seq (K := K) (B := H7) (H := H7) (go_forM (el_call (ea_cons (ev_var (i := 3) rfl hvw7) ea_nil) ⟨ww, by omega, by omega, rfl, rfl⟩) fun ln wn H8 hln u8 hln8 mn =>
    ⟨fun j σ' H' => ∃ (x : Option V) (kvs : List (Key × V)), σ' = [some vb, some vd, some (.ref i), some vw, some (.ref p), x] ∧ Same H H' ∧ TK K H8 H' ∧ H' ln = some (.lst wn) ∧ H' p = some (.dK kvs) ∧ kvs.length = j ∧ (∀ (j' m : Nat), j' < j → (numsIn ww)[j']? = some m → valV kvs (Sum.inl (m : Int)) = some (.str (letter j'))) ∧ (∀ m : Nat, m ∉ (numsIn ww).take j → valV kvs (Sum.inl (m : Int)) = none),
      ⟨_, [], rfl, s06.trans (s67.trans u8.1), .refl _, hln8, u8.1 _ _ hp7, rfl, (fun j' m h => absurd h (Nat.not_lt_zero _)), fun m _ => rfl⟩, fun j σ' H' ⟨_, _, _, _, t, h, _⟩ => ⟨h, t⟩, fun j dn x σ' H' hdn ⟨y, kvs, es, sm, tk, hln', hp', hkl, hk1, hk2⟩ hx => ?_, fun σ' H' ⟨y, kvs, es, sm, tk, hln', hp', hkl, hk1, hk2⟩ => ?_⟩)) H7 (.refl (.refl _))
  · subst es
    unfold intsN at hdn
    rw [List.getElem?_map] at hdn
    cases e : (numsIn ww)[j]? with
    | none => rw [e] at hdn; cases hdn
    | some m =>
      rw [e] at hdn
      cases hdn
      have ex := hx.int_inv
      subst ex
      have hj := (List.getElem?_eq_some_iff.mp e).1
      have hpl : ln ≠ p := by intro z; subst z; rw [hln'] at hp'; cases hp'
      have lenD : Ev K H' (tCB (fun xs H Q => ∃ a kvs, xs = [V.ref a] ∧ H a = some (.dK kvs) ∧ Q (.int kvs.length) H) (tCons (tVar 4) tNil)) [some vb, some vd, some (.ref i), some vw, some (.ref p), some (.int (m : Int))] H' (.int (j : Nat)) := fun H9 u9 Q9 q9 => ⟨_, rfl, p, kvs, rfl, u9.1 _ _ hp', by rw [hkl]; exact q9 _ H9 (.refl _) (.int _)⟩
      refine (ev_ixS (ev_str (x := "ABCDEFGHIJKLMNOPQRSTUVWXYZ")) (ev_mod lenD ((ev_lenS (ev_str (x := "ABCDEFGHIJKLMNOPQRSTUVWXYZ")) (by decide +kernel)).is (show _ = PyData.int 26 from congrArg PyData.int (by decide +kernel))) (by decide)) (by decide +kernel) (letter_at j) : Ev K H' _ [some vb, some vd, some (.ref i), some vw, some (.ref p), some (.int (m : Int))] H' (.str (letter j))) H' (.refl (.refl _)) _ fun v9 H9 s9 hv9 => ?_
      have e9 := hv9.str_inv
      subst e9
      have hp9 := s9 _ _ hp'
      have hnew : valV kvs (Sum.inl (m : Int)) = none := hk2 m fun hm => by
        obtain ⟨j', hj'⟩ := List.getElem?_of_mem hm
        rw [List.getElem?_take] at hj'
        split at hj'
        · rename_i hlt
          have := ((List.getElem?_inj (i := j') (j := j) (by omega) hnd).mp (by rw [hj', e])).symm
          omega
        · cases hj'
      refine ⟨_, rfl, _, rfl, p, upd H9 p (.dK (putK kvs (Sum.inl (m : Int)) (.str (letter j)))), rfl, DPut.k (k := (Sum.inl (m : Int) : Key)) hp9 (by rw [hkl]; exact sz_lt (by omega)), ?_⟩
      have tk9 : TK K H9 (upd H9 p (.dK (putK kvs (Sum.inl (m : Int)) (.str (letter j))))) := TK.upd (by rw [hp9]; trivial)
      refine ⟨_, _, rfl, fun x o hx => ?_, tk.trans ((TK.of s9).trans tk9), by rw [upd_ne hpl]; exact s9 _ _ hln', upd_same, by rw [putK_new _ hnew]; simp [hkl], fun j' m' hlt he => ?_, fun m' hm' => ?_⟩
      · rw [upd_ne (ne_of_none hx hpH)]
        exact s9 _ _ (sm _ _ hx)
      · rw [valV_put]
        by_cases q : j' = j
        · subst q
          rw [e] at he
          cases he
          rw [if_pos rfl]
        · rw [if_neg fun z => ?_]
          · exact hk1 j' m' (by omega) he
          · have zm : m' = m := by have := Sum.inl.inj z; omega
            subst zm
            exact q ((List.getElem?_inj (i := j') (j := j) (by have := (List.getElem?_eq_some_iff.mp he).1; omega) hnd).mp (by rw [he, e]))
      · rw [valV_put, if_neg fun z => ?_]
        · refine hk2 m' fun h => hm' ?_
          rw [List.take_succ, List.mem_append]
          exact .inl h
        · have zm : m' = m := by have := Sum.inl.inj z; omega
          subst zm
          refine hm' ?_
          rw [List.take_succ, List.mem_append, e]
          exact .inr (by simp)
  · subst es
    have hlen : (intsN (numsIn ww)).length = (numsIn ww).length := by simp [intsN]
    rw [hlen] at hkl hk1 hk2
    have hvw' := hvw7.keep (u8.2.trans tk)
    refine (ev_tup (ea_cons ev_str (ea_cons (ev_callR (d := kd (lettK letter ww)) (er_D (ev_var (i := 3) rfl hvw') (er_X (ex_var (i := 4) rfl) er_nil)) fun vs H9 Q' E' u9 ⟨y1, vs1, q1, hy1, vs2, q2, q3⟩ q' => ?_) ea_nil)) (by simp) : Ev K H' _ [some vb, some vd, some (.ref i), some vw, some (.ref p), y] H' _) H' (.refl (.refl _)) _ fun v9 H9 s9 hv9 => q (lettK letter ww) v9 H9 (htold letter) (lett_lay (Wh.names hw o1 o2)).1 (by have := (lett_lay (f := fun n => pos (numsIn ww) 0 n) (Wh.names hw o1 o2)).2; unfold lettK; omega) (sm.trans s9) hv9
    subst q3 q2 q1
    refine ⟨ww, fun n => letter (pos (numsIn ww) 0 n), y1, p, hwd, rfl, hy1, fun n hn => ?_, q'⟩
    obtain ⟨j, hj⟩ := List.getElem?_of_mem (mem_numsIn.mpr hn)
    refine ⟨kvs, u9.1 _ _ hp', ?_⟩
    show valV kvs _ = some (.str (letter (pos (numsIn ww) 0 n)))
    rw [pos_at _ 0 j n hnd hj, Nat.zero_add]
    exact hk1 j n (List.getElem?_eq_some_iff.mp hj).1 hj
end Fw
set_option Elab.async false
set_option linter.all false
namespace Fw
open PySem L2 Fd
/-! ### what a grown deed keeps -/
theorem wide (D : Nat) : Wider (fun k => Kd.depth k ≤ D) (fun k => Kd.depth k ≤ D + 1) :=
  ⟨fun k h => Nat.le_succ_of_le h, fun a b h1 h2 => by simp only [Kd.depth]; omega, fun a b h1 h2 => by simp only [Kd.depth]; omega⟩
structure Fine (bk : Bk) (K : Kd) (D G : Dd) (z : Nat) : Prop where
  has : Has (fun k => Kd.depth k ≤ 2 + z) bk [] G K
  same : ∀ K', Has All bk [] G K' ↔ Has All bk [] D K'
  ends : ∃ m, m ≤ 100 ∧ Steps m G D
  still : Still 0 D
  q : Q z 0 (fun _ => true) G .v
  names : namesD PN G
  size : G.size ≤ 80
theorem Fine.pars {bk : Bk} {K : Kd} {D G : Dd} {z : Nat} (h : Fine bk K D G z) : Pars 0 G D := by
  obtain ⟨m, _, s⟩ := h.ends
  exact s.pars
theorem names_moved {p : Str → Prop} {d : Dd} : ∀ {g m : Nat}, namesD p d → namesD p (d.moved g m) := by
  induction d with
  | spot n => intro g m h; unfold Dd.moved; split <;> trivial
  | book s => intro g m h; exact h
  | turn d ih => intro g m h; exact ih h
  | dod f e i1 i2 => intro g m h; exact ⟨i1 h.1, i2 h.2⟩
  | both f e i1 i2 => intro g m h; exact ⟨i1 h.1, i2 h.2⟩
  | first d ih => intro g m h; exact ih h
  | second d ih => intro g m h; exact ih h
theorem names_spare {p : Str → Prop} {g : Nat} {A : Dd} (h : spareOf g A) : namesD p A := by
  rcases h with ⟨n, _, rfl⟩ | rfl <;> trivial
theorem names_gro {p : Str → Prop} {w : Bool} {g : Nat} {d G : Dd} (h : Gro w g d G) : namesD p d → namesD p G := by
  induction h with
  | spot => exact id
  | book => exact id
  | turn _ ih => exact ih
  | dod _ _ i1 i2 => exact fun z => ⟨i1 z.1, i2 z.2⟩
  | both _ _ i1 i2 => exact fun z => ⟨i1 z.1, i2 z.2⟩
  | first _ ih => exact ih
  | second _ ih => exact ih
  | same _ ih => exact ih
  | kill _ hs ih => exact fun z => ⟨names_moved (ih z), names_spare hs⟩
  | fst _ hs ih => exact fun z => ⟨ih z, names_spare hs⟩
  | snd _ hs ih => exact fun z => ⟨names_spare hs, ih z⟩
  | idd _ ih => exact fun z => ⟨trivial, ih z⟩
theorem Fine.zero {bk : Bk} {k : Kd} {d : Dd} (h : Drawn bk k d) : Fine bk k d d 0 := by
  have hb : ∀ s k, (s, k) ∈ bk → Kd.depth k ≤ 2 := fun s k hk => (h.book.each _ hk).2.2.1
  exact ⟨h.fit.pl.has hb (fun k hk => nomatch hk) (fun _ => h.kind), fun _ => Iff.rfl, ⟨0, Nat.zero_le _, .zero⟩, h.fit.pl.still, by have := h.fit.pl.q; simpa using this, h.fit.names, by have := h.size; omega⟩
theorem Fine.low {bk : Bk} {K : Kd} {D G : Dd} {z : Nat} (h : Fine bk K D G z) (most : Nat) : Low 81 most G := fun k r _ hr => by
  have := (h.q.steps_depth hr).1
  have := h.size
  omega
theorem grown_low {bk : Bk} {K : Kd} {D G : Dd} {z : Nat} (h : Fine bk K D G z) (hz : z ≤ 1) (xs : List Int) (hs : (grownF xs 0 0 G).size ≤ 80) (most : Nat) : Low 81 most (grownF xs 0 0 G) := fun k r _ hr => by
  have q := h.q.gro hz _ (grownF_gro xs G 0 0)
  have := (q.steps_depth hr).1
  omega
theorem Fine.more {bk : Bk} {K : Kd} {D G : Dd} {z : Nat} (h : Fine bk K D G z) (hz : z ≤ 1) (xs : List Int) : ∃ z', z' ≤ z + 1 ∧ Fine bk K D (moreF xs G) z' := by
  unfold moreF
  split
  · exact ⟨z, Nat.le_succ _, h⟩
  · rename_i hn
    simp only [not_or, Bool.not_eq_false] at hn
    obtain ⟨h1, h2, h3⟩ := hn
    have gro := grownF_gro xs G 0 0
    obtain ⟨n, s, e1, e2, e3, _⟩ := ends_true (k := 0) h3
    have hend := only_end (gro.pars.trans h.pars) h.still e2 e3
    subst hend
    have hhas := gro.has (wide (2 + z)) (pt := .nm "") (show Kd.depth (.nm "") ≤ 2 + z by simp [Kd.depth]) (show Kd.depth (.way (.nm "") (.nm "")) ≤ 2 + z by simp [Kd.depth]; omega) (Γ := []) rfl (fun k hk => nomatch hk) h.has
    refine ⟨z + 1, Nat.le_refl _, hhas, fun K' => ?_, ⟨n, e1, e2⟩, h.still, h.q.gro hz _ gro, names_gro gro h.names, by omega⟩
    rw [← h.same K']
    exact ⟨gro.has_back rfl, fun hK => gro.has (p := All) (q := All) ⟨fun _ _ => trivial, fun _ _ _ _ => trivial, fun _ _ _ _ => trivial⟩ (pt := .nm "") trivial trivial (Γ := []) rfl (fun _ _ => trivial) hK⟩
theorem has_used {p : Kd → Prop} {bk : Bk} {Γ : List Kd} {d : Dd} {k : Kd} (h : Has p bk Γ d k) : ∀ s ∈ usedF d, s ∈ bk.map Prod.fst := by
  induction h with
  | spot _ _ => intro s hs; cases hs
  | book e _ =>
    intro s hs
    rw [List.mem_singleton.mp hs]
    exact List.mem_map.mpr ⟨_, lookup_in_bk e, rfl⟩
  | turn _ _ _ ih => exact ih
  | dod _ _ _ i1 i2 => intro s hs; exact (List.mem_append.mp hs).elim (i1 s) (i2 s)
  | both _ _ _ i1 i2 => intro s hs; exact (List.mem_append.mp hs).elim (i1 s) (i2 s)
  | first _ _ _ ih => exact ih
  | second _ _ _ ih => exact ih
theorem Chs.mono {A B : Nat} (h : A ≤ B) {d : Dd} (a : Chs A d) : Chs B d := by
  induction d with
  | spot n => trivial
  | book s => trivial
  | turn d ih => exact ⟨Nat.le_trans a.1 h, ih a.2⟩
  | dod f e i1 i2 => exact ⟨i1 a.1, i2 a.2⟩
  | both f e i1 i2 => exact ⟨Nat.le_trans a.1 h, i1 a.2.1, i2 a.2.2⟩
  | first d ih => exact ih a
  | second d ih => exact ih a
theorem BkOk.bok {bk : Bk} (h : BkOk bk 2) : BOk bk := fun s k hk => by
  obtain ⟨_, h2, h3, h4⟩ := h.each _ hk
  exact ⟨h3, h2, h4⟩
theorem Fine.ten {bk : Bk} {K : Kd} {D G : Dd} {z : Nat} (h : Fine bk K D G z) (hz : z ≤ 2) : Has (fun k => Kd.depth k < 10) bk [] G K := h.has.mono fun k q => by omega
theorem Fine.ask {bk : Bk} {K : Kd} {D G : Dd} {z : Nat} (h : Fine bk K D G z) (hz : z ≤ 2) (hb : BkOk bk 2) : Ask bk 96 G :=
  ⟨hb.nodup, hb.few, hb.bok, by have := Dd.depth_le_size G; have := h.size; omega, by have := h.size; omega, h.names, h.has.held, has_used h.has, (has_chs (h.ten hz)).2.mono (by decide)⟩
/-- kinds that are asked about -/
structure KAsk (k : Kd) : Prop where
  settled : k.settled
  dp : k.depth ≤ 3
  nm : namesK PN k
theorem bent_ok' {n : Nat} : ∀ {k : Kd} {x : Int}, k.settled → k.depth ≤ n → namesK PN k → (bentF k x).settled ∧ (bentF k x).depth ≤ n + 1 ∧ namesK PN (bentF k x) := by
  intro k
  induction k generalizing n with
  | nm s => intro x h1 h2 h3; exact ⟨⟨trivial, trivial⟩, by simp [bentF, Kd.depth], h3, h3⟩
  | num i => intro x h1; exact h1.elim
  | way a b _ ih =>
    intro x h1 h2 h3
    simp only [Kd.depth] at h2
    rw [bentF]
    split
    · exact ⟨⟨h1, h1⟩, by simp only [Kd.depth]; omega, h3, h3⟩
    · split
      · exact ⟨⟨h1.2, h1.1⟩, by simp only [Kd.depth]; omega, h3.2, h3.1⟩
      · obtain ⟨i1, i2, i3⟩ := ih (n := n - 1) (x := x / 3) h1.2 (by omega) h3.2
        exact ⟨⟨h1.1, i1⟩, by simp only [Kd.depth]; omega, h3.1, i3⟩
  | pair a b _ ih =>
    intro x h1 h2 h3
    simp only [Kd.depth] at h2
    rw [bentF]
    split
    · exact ⟨⟨h1, h1⟩, by simp only [Kd.depth]; omega, h3, h3⟩
    · split
      · exact ⟨⟨h1.2, h1.1⟩, by simp only [Kd.depth]; omega, h3.2, h3.1⟩
      · obtain ⟨i1, i2, i3⟩ := ih (n := n - 1) (x := x / 3) h1.2 (by omega) h3.2
        exact ⟨⟨h1.1, i1⟩, by simp only [Kd.depth]; omega, h3.1, i3⟩
/-- opened: the same for all that come to the same end -/
theorem drawn_op {bk : Bk} {k : Kd} {D : Dd} (h : Drawn bk k D) {K' : Kd} (hk : KAsk K') (hh : Has All bk [] D K') : ∃ r, Op bk true 45 [] K' D r ∧ r.depth ≤ 40 := by
  have hb : ∀ s k, (s, k) ∈ bk → Kd.depth k ≤ 3 ∧ Kd.settled k := fun s k hk => by
    obtain ⟨_, h2, h3, _⟩ := h.book.each _ hk
    exact ⟨by show Kd.depth k ≤ 3; have : Kd.depth k ≤ 2 := h3; omega, h2⟩
  obtain ⟨r, hr, hd⟩ := (opened_all (n := 3) hb hh (fun k hk => nomatch hk) h.fit.pl.still).2 hk.dp hk.settled
  have c1 := h.fit.cw
  have c2 := h.fit.dw
  have c3 := h.kind
  exact ⟨r, hr.mono (by omega), by omega⟩
theorem drawn_self {bk : Bk} {k : Kd} {D : Dd} (h : Drawn bk k D) : Op bk true 45 [] k D D := by
  have := h.fit.depth
  have := h.kind
  refine h.fit.pl.op.mono ?_
  simp only [if_true]
  omega
end Fw
set_option Elab.async false
set_option linter.all false
set_option maxRecDepth 100000
set_option maxHeartbeats 1000000
namespace Fw
open PySem L2 Fd
theorem depth_tup2 {x : PyData} {s : Str} (h : x.depth ≤ 60) : (PyData.tuple [.str s, x]).depth ≤ 64 := by
  simp only [PyData.depth, PyData.depthAll]; omega
variable {P : Program} {w : World} {K : PySem.W.Frag} {mg : Str → Option Value} {base : Heap}
/-! ### the plain form -/
abbrev s_plain_form : Stmt := top 43
abbrev nm_plain_form : List Str := ["book", "kind", "deed", "most", "found"]
theorem sc_plain_form : FnScope nm_plain_form ["book", "kind", "deed", "most"] (defScope s_plain_form) := ⟨rfl, rfl, rfl, by decide +kernel, rfl, by decide +kernel, by decide +kernel⟩
def spPf (K : PySem.W.Frag) : Sp := fun vs H Q _ => ∃ (bk : Bk) (k K' : Kd) (D G : Dd) (r : Dd) (z : Nat) (vb vk vd : V), vs = [vb, vk, vd, .int 200] ∧ BkV K H vb bk ∧ Im K H vk (kd K') ∧ Im K H vd (dd G) ∧ Fine bk k D G z ∧ z ≤ 2 ∧ BkOk bk 2 ∧ KAsk K' ∧ Has All bk [] D K' ∧ Op bk true 45 [] K' D r ∧
  ∀ v' H', Same H H' → Im K H' v' (.tuple [.str "plain", dd r]) → Q v' H'
theorem pf_ok (T : Tx K mg) (L : Nat) (hL : 167 ≤ L) (D : Dfn K mg "plain_form" s_plain_form ["book", "kind", "deed", "most"]) (CW : Cal0 P w K mg base 98 "is_whole" ["thing", "given"] (spI K (rWhole 96))) (CH : Cal P w K mg base 96 "holes_in" ["deed"] (spL K (rHoles 96)))
    (CF : Cal P w K mg base L "fits" ["book", "kind", "deed"] (spFits K 96)) (CS : Cal P w K mg base 167 "still" ["deed", "most"] (spI K (rStill 81))) (CO : Cal P w K mg base 90 "opened" ["book", "given", "kind", "deed"] (spOp K 45)) : Cal P w K mg base (L + 1) "plain_form" ["book", "kind", "deed", "most"] (spPf K) := by
  obtain ⟨f, fd, F, m_, b_⟩ := D
  obtain ⟨_, _, _, G_is_whole, m_is_whole, k_is_whole, b_is_whole⟩ := CW.mono (show 98 ≤ L by omega)
  obtain ⟨_, _, G_holes_in, m_holes_in, k_holes_in, b_holes_in⟩ := CH.mono (show 96 ≤ L by omega)
  obtain ⟨_, _, G_fits, m_fits, k_fits, b_fits⟩ := CF
  obtain ⟨_, _, G_still, m_still, k_still, b_still⟩ := CS.mono hL
  obtain ⟨_, _, G_opened, m_opened, k_opened, b_opened⟩ := CO.mono (show 90 ≤ L by omega)
  refine ⟨f, fd, F.ok sc_plain_form (fun vs H Q E ⟨_, _, _, _, _, _, _, _, _, _, e, _⟩ => by rw [e]; rfl) (fun cdv A outer s H vs Q E hr h => ?_), m_, F.kp, b_⟩
  obtain ⟨bk, k, K', D, G, r, z, vb, vk, vd, rfl, hb, hk, hd, hf, hz, hbo, hka, hhas, hop, q⟩ := h
  refine ⟨_, (pss_cons (ps_if (PW.pt (pw_or (pt_not (pt_val (pe_call G_is_whole hr rfl m_is_whole k_is_whole b_is_whole (.cons (show RelV (.int 0) _ from ⟨_, rfl⟩) .nil) pass0 (pa_cons (pv 2) pa_nil)))) (pw_or (pt_cmpR (op_neD hr.units) (pe_call G_holes_in hr rfl m_holes_in k_holes_in b_holes_in .nil pass0 (pa_cons (pv 2) pa_nil)) (pe_lst pa_nil) (nomark _)) (pw_or1 (pt_not (pt_val (pe_call G_fits hr rfl m_fits k_fits b_fits .nil pass0 (pa_cons (pv 0) (pa_cons (pv 1) (pa_cons (pv 2) pa_nil))))))))))
 (pss_one ps_never)
 pss_nil)
 (pss_cons (ps_set (i := 4) sc_plain_form.nd rfl (Or.inl rfl) (pe_call G_still hr rfl m_still k_still b_still .nil pass0 (pa_cons (pv 2) (pa_cons (pv 3) pa_nil))))
 (pss_cons (ps_if (pt_cmpR op_eq (pe_ix ix_tup (pv 4) pe_int (fun _ _ => rfl)) pe_str (nomark _))
 (pss_one (ps_ret (pv 4)))
 pss_nil)
 (pss_one (ps_ret (pe_tup (pa_cons pe_str (pa_cons (pe_call G_opened hr rfl m_opened k_opened b_opened .nil pass0 (pa_cons (pv 0) (pa_cons (pe_tup pa_nil) (pa_cons (pv 1) (pa_cons (pe_ix ix_tup (pv 4) pe_int (fun _ _ => rfl)) pa_nil))))) pa_nil)))))))), ?_⟩
  refine Go.run (K := K) (B := H) ?_ (.refl H)
  have ask := hf.ask hz hbo
  obtain ⟨m, hm, hst⟩ := hf.ends
  have hends : ends 200 G = true := ends_of hst hf.still (by omega)
  obtain ⟨n, s, e1, e2, e3, e4⟩ := ends_true (k := 0) hends
  have hs := only_end hf.pars hf.still e2 e3
  subst hs
  have fit : EvT K H (tB (tCall (spFits K 96) [] E0 (tCons (tVar 0) (tCons (tVar 1) (tCons (tVar 2) tNil))))) (L2.start nm_plain_form [vb, vk, vd, .int 200]) H true := et_B (ev_callR (er_Bk rfl hb (er_D (ev_var rfl hk) (er_D (ev_var rfl hd) er_nil))) fun vs H1 Q' E' u ⟨x0, vs1, q1, hx0, x1, vs2, q2, hx1, x2, vs3, q3, hx2, q4⟩ q' => by
    subst q4 q3 q2 q1
    refine ⟨bk, k, K', G, x0, x1, x2, rfl, hx0, hx1, hx2, ask, hf.ten hz, hka.settled, by have := hka.dp; omega, hka.nm, fun r' H' hr' s' => ?_⟩
    have : r' = true := hr'.mpr ((hf.same K').mpr hhas)
    subst this
    exact q' _ H' s' (.bl true))
  refine go_ifs (b := false) (et_or (a := false) (b := false) (et_not (a := true) (et_B (ev_call0 (ea_cons (ev_var rfl hd) ea_nil) ⟨G, ask.dp, ask.names, ask.hld, rfl, rfl⟩))) fun _ => et_or (a := false) (b := false) ((et_test (ev_neLL0 (ds := []) (el_call (ea_cons (ev_var rfl hd) ea_nil) ⟨G, ask.dp, rfl, rfl⟩) (by decide +kernel))).is rfl) fun _ => et_not (a := true) fit) (fun z => nomatch z) (fun _ => ?_)
  refine go_set (ev_call (ea_cons (ev_var rfl hd) (ea_cons (ev_var rfl (.int _)) ea_nil)) ⟨G, 200, hf.low 200, rfl, e4.symm⟩) fun vf H1 u1 hvf => ?_
  refine go_ifs (b := false) (et_word (i := 4) rfl hvf (by decide +kernel)) (fun z => nomatch z) (fun _ => ?_)
  refine go_ret (ev_tup (ea_cons ev_str (ea_cons (ev_callR (d := dd r) (er_Bk (i := 0) rfl hb (er_D (ev_tup ea_nil (by simp)) (er_D (ev_var (i := 1) rfl (hk.keep u1.2)) (er_D (ev_ix (d := dd s) (ev_var (i := 4) rfl hvf) ev_int rfl) er_nil)))) fun vs H2 Q' E' u ⟨x0, vs1, q1, hx0, x1, vs2, q2, hx1, x2, vs3, q3, hx2, x3, vs4, q4, hx3, q5⟩ q' => ?_) ea_nil)) (by simp)) fun v H2 u2 hv => q v H2 u2.1 hv
  subst q5 q4 q3 q2 q1
  exact ⟨bk, [], K', s, r, x0, x1, x2, x3, hop, hbo.nodup, by simp, rfl, hx0, hx1, hx2, hx3, q'⟩
end Fw
set_option Elab.async false
set_option linter.all false
set_option maxRecDepth 100000
set_option maxHeartbeats 1000000
namespace Fw
open PySem L2 Fd
theorem names_op {p : Str → Prop} {bk : Bk} {w : Bool} {c : Nat} {Γ : List Kd} {K : Kd} {d d' : Dd} (h : Op bk w c Γ K d d') : namesD p d → namesD p d' := by
  induction h with
  | spot _ => exact id
  | book _ => exact id
  | dod _ _ i1 i2 => exact fun z => ⟨i1 z.1, i2 z.2⟩
  | first _ ih => exact ih
  | second _ ih => exact ih
  | name _ ih => exact ih
  | turn _ ih => exact ih
  | eta _ _ ih => exact fun z => ih ⟨names_moved z, trivial⟩
  | both _ _ i1 i2 => exact fun z => ⟨i1 z.1, i2 z.2⟩
  | etap _ _ _ i1 i2 => exact fun z => ⟨i1 z, i2 z⟩
theorem shaped_tup {s : Str} {x : PyData} (hs : PyData.strOk s = true) (h : x.canLay0 = true) (hd : x.depth ≤ 60) : SeqAt.shaped (.tuple [.str s, x]) = true := by
  unfold SeqAt.shaped
  rw [Bool.and_eq_true]
  exact ⟨by simp only [PyData.canLay0, PyData.canLayAll0, hs, h, Bool.and_self], decide_eq_true (depth_tup2 hd)⟩
theorem lay_tup {s : Str} {x : PyData} (hs : PyData.strOk s = true) (h : x.canLay0 = true) : (PyData.tuple [.str s, x]).canLay0 = true := by
  simp only [PyData.canLay0, PyData.canLayAll0, hs, h, Bool.and_self]
theorem ok_plain : PyData.strOk "plain" = true := by decide +kernel
theorem ok_kind : PyData.strOk "kind" = true := by decide +kernel
theorem told_eq {bk : Bk} {k : Kd} {D G : Dd} {z : Nat} (hf : Fine bk k D G z) (hb : BkOk bk 2) {x y : Kd} (hx : Told bk letter G x) (hy : Told bk letter D y) : x = y :=
  told_same (fun s k h => (hb.bok s k h).2.1) hf.same hx hy
variable {P : Program} {w : World} {K : PySem.W.Frag} {mg : Str → Option Value} {base : Heap}
theorem go_retEqD {B H : Hp} {σ : St} {D : Ends} {ta tb : TE} {S1 S2 : PyData → Prop} (h1 : EvP K B ta σ H S1) (h2 : EvP K B tb σ H S2) (q : ∀ x y H1, S1 x → S2 y → Up K B H H1 → SeqAt.shaped x = true ∧ SeqAt.shaped y = true ∧ D.rt (.bl (PyData.eqv x y)) H1) : Go K B (tRet (tOp (rEqD K) ta tb)) D σ H := fun H1 u =>
  h1 H1 u _ fun x v H2 hx s2 m => h2 H2 (u.then s2) _ fun y w H3 hy s3 n => by
    obtain ⟨a, b, c⟩ := q x y H3 hx hy ((u.then s2).then s3)
    exact ⟨x, y, (m.keep (.of s3)).dp, n.dp, a, b, c⟩
abbrev s__law_kinds_right : Stmt := top 68
abbrev nm__law_kinds_right : List Str := ["_law_book_here", "_law_deed", "_law_grown_here", "_law_kinds", "_law_kind_here", "_law_fit_here", "_law_due"]
theorem sc__law_kinds_right : FnScope nm__law_kinds_right ["_law_book_here", "_law_deed", "_law_grown_here", "_law_kinds"] (defScope s__law_kinds_right) := ⟨rfl, rfl, rfl, by decide +kernel, rfl, by decide +kernel, by decide +kernel⟩
def spRight (K : PySem.W.Frag) : Sp := fun vs H Q _ => ∃ (bk : Bk) (k : Kd) (D G : Dd) (z : Nat) (kinds : List Kd) (vb vd vg : V) (p : Addr) (ws : List V), vs = [vb, vd, vg, .ref p] ∧ BkV K H vb bk ∧ Im K H vd (dd D) ∧ Im K H vg (dd G) ∧ SqL K H p ws ∧ ImAll K H ws (kinds.map kd) ∧ Drawn bk k D ∧ Fine bk k D G z ∧ z ≤ 2 ∧ (∀ k' ∈ kinds, KAsk k') ∧
  ∀ H', Same H H' → Q (.bl true) H'
theorem right_ok (T : Tx K mg) (L : Nat) (D : Dfn K mg "_law_kinds_right" s__law_kinds_right ["_law_book_here", "_law_deed", "_law_grown_here", "_law_kinds"]) (CF : Cal P w K mg base L "fits" ["book", "kind", "deed"] (spFits K 96)) (CP : Cal P w K mg base L "plain_form" ["book", "kind", "deed", "most"] (spPf K))
    (CI : Cal P w K mg base L "infer" ["book", "deed"] (spInfer K 96)) : Cal P w K mg base (L + 1) "_law_kinds_right" ["_law_book_here", "_law_deed", "_law_grown_here", "_law_kinds"] (spRight K) := by
  obtain ⟨f, fd, F, m_, b_⟩ := D
  obtain ⟨_, _, G_fits, m_fits, k_fits, b_fits⟩ := CF
  obtain ⟨_, _, G_plain_form, m_plain_form, k_plain_form, b_plain_form⟩ := CP
  obtain ⟨_, _, G_infer, m_infer, k_infer, b_infer⟩ := CI
  refine ⟨f, fd, F.ok sc__law_kinds_right (fun vs H Q E ⟨_, _, _, _, _, _, _, _, _, _, _, e, _⟩ => by rw [e]; rfl) (fun cdv A outer s H vs Q E hr h => ?_), m_, F.kp, b_⟩
  obtain ⟨bk, k, D, G, z, kinds, vb, vd, vg, p, ws, rfl, hb, hd, hg, hp, hm, hdr, hf, hz, hks, q⟩ := h
  refine ⟨_, (pss_cons (ps_for PassesOwn.never rfl (pi_list (pv 3)) (pg_name (i := 4) sc__law_kinds_right.nd rfl (Or.inl rfl))
 (pss_cons (ps_set (i := 5) sc__law_kinds_right.nd rfl (Or.inl rfl) (pe_call G_fits hr rfl m_fits k_fits b_fits .nil pass0 (pa_cons (pv 0) (pa_cons (pv 4) (pa_cons (pv 1) pa_nil)))))
 (pss_cons (ps_if (PW.pt (pw_or (pt_cmpR op_ne (pe_call G_fits hr rfl m_fits k_fits b_fits .nil pass0 (pa_cons (pv 0) (pa_cons (pv 4) (pa_cons (pv 2) pa_nil)))) (pv 5) (nomark _)) (pw_or1 (pt_not (pt_val (pe_callB call_isi rfl T.isinstance_ (by decide +kernel) (pa_cons (pv 5) (pa_cons (pe_bltn (v := .ty "bool") rfl T.bool_ (by decide +kernel) rfl) pa_nil))))))))
 (pss_one (ps_ret pe_bl))
 pss_nil)
 (pss_cons (ps_set (i := 6) sc__law_kinds_right.nd rfl (Or.inl rfl) pe_non)
 (pss_cons (ps_if (pt_val (pv 5))
 (pss_one (ps_set (i := 6) sc__law_kinds_right.nd rfl (Or.inl rfl) (pe_call G_plain_form hr rfl m_plain_form k_plain_form b_plain_form .nil pass0 (pa_cons (pv 0) (pa_cons (pv 4) (pa_cons (pv 1) (pa_cons pe_int pa_nil)))))))
 pss_nil)
 (pss_one (ps_if (PW.pt (pw_and (pt_val (pv 5)) (pw_and1 (pt_cmpR (op_neD hr.units) (pe_call G_plain_form hr rfl m_plain_form k_plain_form b_plain_form .nil pass0 (pa_cons (pv 0) (pa_cons (pv 4) (pa_cons (pv 2) (pa_cons pe_int pa_nil))))) (pv 6) (nomark _)))))
 (pss_one (ps_ret pe_bl))
 pss_nil)))))))
 (pss_one (ps_ret (pe_cmpR (op_eqD hr.units) (pe_call G_infer hr rfl m_infer k_infer b_infer .nil pass0 (pa_cons (pv 0) (pa_cons (pv 2) pa_nil))) (pe_call G_infer hr rfl m_infer k_infer b_infer .nil pass0 (pa_cons (pv 0) (pa_cons (pv 1) pa_nil))) (nomark _))))), ?_⟩
  refine Go.run (K := K) (B := H) ?_ (.refl H)
  have f0 := Fine.zero hdr
  have hbo := hdr.book
  -- fits, told by whether the deed has the kind
  have fits : ∀ {σ : St} {H1 : Hp} {E : XK} {j : Nat} {vG vK : V} {G' : Dd} {z' : Nat} {K' : Kd} {b : Bool}, Fine bk k D G' z' → z' ≤ 2 → KAsk K' → (b = true ↔ Has All bk [] D K') → σ[0]? = some (some vb) → σ[4]? = some (some vK) → σ[j]? = some (some vG) → Im K H1 vK (kd K') → Im K H1 vG (dd G') →
      Ev K H (tCall (spFits K 96) [] E (tCons (tVar 0) (tCons (tVar 4) (tCons (tVar j) tNil)))) σ H1 (.bool b) := fun {σ H1 E j vG vK G' z' K' b} hf' hz' hk' hbb e0 e4 ej hvk hvg =>
    ev_callR (er_Bk e0 hb (er_D (ev_var e4 hvk) (er_D (ev_var ej hvg) er_nil))) fun vs H2 Q' E' u ⟨x0, vs1, q1, hx0, x1, vs2, q2, hx1, x2, vs3, q3, hx2, q4⟩ q' => by
      subst q4 q3 q2 q1
      refine ⟨bk, k, K', G', x0, x1, x2, rfl, hx0, hx1, hx2, hf'.ask hz' hbo, hf'.ten hz', hk'.settled, by have := hk'.dp; omega, hk'.nm, fun r' H' hr' s' => ?_⟩
      have e : r' = b := Bool.eq_iff_iff.mpr (hr'.trans ((hf'.same K').trans hbb.symm))
      subst e
      exact q' _ H' s' (.bl _)
  have plain : ∀ {σ : St} {H1 : Hp} {E : XK} {j : Nat} {vG vK : V} {G' r : Dd} {z' : Nat} {K' : Kd}, Fine bk k D G' z' → z' ≤ 2 → KAsk K' → Has All bk [] D K' → Op bk true 45 [] K' D r → σ[0]? = some (some vb) → σ[4]? = some (some vK) → σ[j]? = some (some vG) → Im K H1 vK (kd K') → Im K H1 vG (dd G') →
      Ev K H (tCall (spPf K) [] E (tCons (tVar 0) (tCons (tVar 4) (tCons (tVar j) (tCons (tC (.int 200)) tNil))))) σ H1 (.tuple [.str "plain", dd r]) := fun {σ H1 E j vG vK G' r z' K'} hf' hz' hk' hh hop e0 e4 ej hvk hvg =>
    ev_callR (er_Bk e0 hb (er_D (ev_var e4 hvk) (er_D (ev_var ej hvg) (er_X ex_c er_nil)))) fun vs H2 Q' E' u ⟨x0, vs1, q1, hx0, x1, vs2, q2, hx1, x2, vs3, q3, hx2, vs4, q4, q5⟩ q' => by
      subst q5 q4 q3 q2 q1
      exact ⟨bk, k, K', D, G', r, z', x0, x1, x2, rfl, hx0, hx1, hx2, hf', hz', hbo, hk', hh, hop, q'⟩
  refine go_seq (go_forL (ex_var (i := 3) rfl) hp hm fun H2 u2 => ⟨fun i σ' H' => (∃ a b c, σ' = [some vb, some vd, some vg, some (.ref p), a, b, c]) ∧ Same H H' ∧ TK K H2 H', ⟨⟨_, _, _, rfl⟩, u2.1, .refl _⟩, fun i σ' H' h => ⟨h.2.1, h.2.2⟩, fun i dk x σ' H' hdk ⟨⟨a, b, c, es⟩, sm, tk⟩ hx => ?_, fun σ' H' ⟨⟨a, b, c, es⟩, sm, tk⟩ => ?_⟩)
  · subst es
    rw [List.getElem?_map] at hdk
    cases e : kinds[i]? with
    | none => rw [e] at hdk; cases hdk
    | some K' =>
      rw [e] at hdk
      cases hdk
      have hk' := hks K' (List.mem_of_getElem? e)
      have tkH : TK K H H' := u2.2.trans tk
      have hd' := hd.keep tkH
      have hg' := hg.keep tkH
      by_cases hh : Has All bk [] D K'
      · obtain ⟨r, hop, hrd⟩ := drawn_op hdr hk' hh
        have hsh := shaped_tup ok_plain (lay_dd (names_op hop hdr.fit.names)) (by rw [depth_dd]; omega)
        refine (go_set (K := K) (B := H) (H := H') (fits (b := true) f0 (by decide) hk' ⟨fun _ => hh, fun _ => rfl⟩ rfl (j := 1) rfl rfl hx hd') fun v5 H5 u5 h5 => ?_) H' ⟨sm, .refl _⟩
        have x5 := hx.keep u5.2
        have d5 := hd'.keep u5.2
        have g5 := hg'.keep u5.2
        refine go_ifs (b := false) ((et_or (a := false) (b := false) ((et_test (ev_neB (fits (b := true) hf hz hk' ⟨fun _ => hh, fun _ => rfl⟩ rfl (j := 2) rfl rfl x5 g5) (ev_var (i := 5) rfl h5))).is rfl) fun _ => et_not (a := true) (et_B (ev_isi (ev_var (i := 5) rfl h5) k_bb))).is rfl) (fun z => nomatch z) (fun _ => ?_)
        refine go_set ev_non fun v6 H6 u6 h6 => ?_
        refine go_ifsR (b := true) (fun σ' H7 => ∃ v7, σ' = [some vb, some vd, some vg, some (.ref p), some x, some v5, some v7] ∧ Up K H H6 H7 ∧ Im K H7 v7 (.tuple [.str "plain", dd r])) (et_B (ev_var (i := 5) rfl (h5.keep u6.2))) ?_ (fun hR _ => go_set1 (plain f0 (by decide) hk' hh hop rfl (j := 1) rfl rfl (x5.keep u6.2) (d5.keep u6.2)) fun v7 H7 u7 h7 => hR _ _ ⟨v7, rfl, u7, h7⟩) (fun z => nomatch z)
        rintro σ' H7 ⟨v7, rfl, u7, h7⟩
        have t67 := u6.2.trans u7.2
        refine (go_if (K := K) (B := H) (H := H7) (b := false) ((et_and (a := true) (b := false) (et_B (ev_var (i := 5) rfl (h5.keep t67))) fun _ => (et_test (ev_neD rfl (plain hf hz hk' hh hop rfl (j := 2) rfl rfl (x5.keep t67) (g5.keep t67)) (ev_var (i := 6) rfl h7) hsh hsh)).is (by rw [SeqAt.eqv_refl _ (SeqAt.canLay_of_shaped hsh)]; rfl)).is rfl) (fun z => nomatch z) (fun _ => go_next fun H8 u8 => ?_)) H7 ⟨u7.1, .refl _⟩
        exact ⟨⟨_, _, _, rfl⟩, u8.1, tk.trans (u5.2.trans (t67.trans u8.2))⟩
      · refine (go_set (K := K) (B := H) (H := H') (fits (b := false) f0 (by decide) hk' ⟨(fun z => nomatch z), fun z => absurd z hh⟩ rfl (j := 1) rfl rfl hx hd') fun v5 H5 u5 h5 => ?_) H' ⟨sm, .refl _⟩
        have x5 := hx.keep u5.2
        have g5 := hg'.keep u5.2
        refine go_ifs (b := false) ((et_or (a := false) (b := false) ((et_test (ev_neB (fits (b := false) hf hz hk' ⟨(fun z => nomatch z), fun z => absurd z hh⟩ rfl (j := 2) rfl rfl x5 g5) (ev_var (i := 5) rfl h5))).is rfl) fun _ => et_not (a := true) (et_B (ev_isi (ev_var (i := 5) rfl h5) k_bb))).is rfl) (fun z => nomatch z) (fun _ => ?_)
        refine go_set ev_non fun v6 H6 u6 h6 => ?_
        refine go_ifs (b := false) (et_B (ev_var (i := 5) rfl (h5.keep u6.2))) (fun z => nomatch z) (fun _ => ?_)
        refine go_if (b := false) ((et_and (a := false) (b := false) (et_B (ev_var (i := 5) rfl (h5.keep u6.2))) (fun z => nomatch z)).is rfl) (fun z => nomatch z) (fun _ => go_next fun H8 u8 => ?_)
        exact ⟨⟨_, _, _, rfl⟩, u8.1, tk.trans (u5.2.trans (u6.2.trans u8.2))⟩
  · subst es
    have tkH : TK K H H' := u2.2.trans tk
    have inf : ∀ {j : Nat} {vG : V} {G' : Dd} {z' : Nat} {E : XK}, Fine bk k D G' z' → z' ≤ 2 → ([some vb, some vd, some vg, some (V.ref p), a, b, c] : St)[j]? = some (some vG) → Im K H' vG (dd G') → EvP K H (tCall (spInfer K 96) [] E (tCons (tVar 0) (tCons (tVar j) tNil))) [some vb, some vd, some vg, some (.ref p), a, b, c] H' (fun x => ∃ r, x = .tuple [.str "kind", kd r] ∧ Told bk letter G' r ∧ (kd r).canLay0 = true ∧ r.depth ≤ 60) := fun {j vG G' z' E} hf' hz' ej hvg =>
      ep_callR (er_Bk (i := 0) rfl hb (er_D (ev_var ej hvg) er_nil)) fun vs H3 Q' E' u3 ⟨x0, vs1, q1, hx0, x1, vs2, q2, hx1, q3⟩ q' => by
        subst q3 q2 q1
        exact ⟨bk, k, G', x0, x1, rfl, hx0, hx1, hf'.ask hz' hbo, hf'.ten hz', fun r w H4 ht hl hdp s4 h4 => q' _ w H4 ⟨r, rfl, ht, hl, hdp⟩ s4 h4⟩
    refine (go_retEqD (K := K) (B := H) (H := H') (inf hf hz (j := 2) rfl (hg.keep tkH)) (inf f0 (by decide) (j := 1) rfl (hd.keep tkH)) fun x y H1 ⟨r1, ex, t1, l1, p1⟩ ⟨r2, ey, t2, l2, p2⟩ u1 => ?_) H' ⟨sm, .refl _⟩
    have er := told_eq hf hbo t1 t2
    subst er ex ey
    have hsh := shaped_tup ok_kind l1 (by rw [depth_kd]; exact p1)
    refine ⟨hsh, hsh, ?_⟩
    rw [SeqAt.eqv_refl _ (SeqAt.canLay_of_shaped hsh)]
    exact q H1 u1.1
end Fw
set_option Elab.async false
set_option linter.all false
set_option maxRecDepth 100000
set_option maxHeartbeats 1000000
namespace Fw
open PySem L2 Fd
section
variable {K : PySem.W.Frag} {B H H1 H2 : Hp} {σ : St} {ta tb te : TE} {v : V} {d : PyData} {D : Ends} {t2 : TS} {tr : TA}
theorem ev_min2 {i j : Int} (ha : Ev K B ta σ H (.int i)) (hb : Ev K B tb σ H (.int j)) : Ev K B (tCB (fun xs H Q => ∃ i j, xs = [V.int i, .int j] ∧ Q (.int (if j < i then j else i)) H) (tCons ta (tCons tb tNil))) σ H (.int (if j < i then j else i)) := fun H1 u Q q =>
  ha H1 u _ fun v H2 s m => hb H2 (u.then s) _ fun w H3 s3 n => ⟨i, j, by rw [m.int_inv, n.int_inv], q _ H3 (s.trans s3) (.int _)⟩
theorem ev_max2 {i j : Int} (ha : Ev K B ta σ H (.int i)) (hb : Ev K B tb σ H (.int j)) : Ev K B (tCB (fun xs H Q => ∃ i j, xs = [V.int i, .int j] ∧ Q (.int (if j > i then j else i)) H) (tCons ta (tCons tb tNil))) σ H (.int (if j > i then j else i)) := fun H1 u Q q =>
  ha H1 u _ fun v H2 s m => hb H2 (u.then s) _ fun w H3 s3 n => ⟨i, j, by rw [m.int_inv, n.int_inv], q _ H3 (s.trans s3) (.int _)⟩
theorem go_asgR {g : TG} {sp : Sp} {E : XK} {R : List V → Hp → Prop} (h : EvR K B tr σ H R) (hr : ∀ vs H1, Up K B H H1 → R vs H1 → sp vs H1 (fun v H2 => g v σ H2 (t2 D)) E) : Go K B (tSeq (tAsg (tCall sp [] E tr) g) t2) D σ H := fun H1 u => h H1 u _ fun vs H2 s2 r => by
  show sp (vs ++ []) H2 _ E
  rw [List.append_nil]
  exact hr vs H2 (u.then s2) r
theorem el_slM {tl th : TO} {ds : List PyData} {lo hi : Option Int} (ha : EvL K B ta σ H ds) (h1 : EvO K B tl σ H lo) (h2 : EvO K B th σ H hi) : EvL K B (tSl (rSlL K) ta tl th) σ H (cutD ds lo hi) := fun H1 u Q q =>
  ha H1 u _ fun p vs H2 hp s2 h2' hm => h1 H2 (u.then s2) _ fun H3 s3 => h2 H3 ((u.then s2).then s3) _ fun H4 s4 => by
    refine ⟨p, vs, rfl, SqL.of (s4 _ _ (s3 _ _ h2')), fun l hl => q l _ _ ?_ ?_ upd_same ((((hm.keep (.of (s3.trans s4)))).cut lo hi).keep (.of (same_new hl _)))⟩
    · exact ((s2.trans s3).trans s4).free hl
    · exact ((s2.trans s3).trans s4).trans (same_new hl _)
end
theorem cut_ints (ys : List Int) (lo hi : Option Int) : ∃ zs : List Int, cutD (ys.map PyData.int) lo hi = zs.map PyData.int := by
  refine ⟨(ys.drop (HT.sIx ys.length 0 lo)).take (HT.sIx ys.length ys.length hi - HT.sIx ys.length 0 lo), ?_⟩
  unfold cutD
  rw [List.length_map, List.map_take, List.map_drop]
theorem cut_mid (ys : List Int) (h : ys.length = 22) : 0 < (cutD (ys.map PyData.int) (some 5) (some 16)).length := by
  unfold cutD
  rw [show (5 : Int) = ((5 : Nat) : Int) from rfl, show (16 : Int) = ((16 : Nat) : Int) from rfl, HT.sIx_nat, HT.sIx_nat]
  simp [h]
theorem cut_two (xs : List PyData) : cutD xs none (some 2) = xs.take 2 := by
  unfold cutD
  rw [show (2 : Int) = ((2 : Nat) : Int) from rfl, HT.sIx_none, HT.sIx_nat, List.drop_zero, Nat.sub_zero]
  by_cases h : 2 ≤ xs.length
  · rw [Nat.min_eq_left h]
  · rw [Nat.min_eq_right (by omega), List.take_length, List.take_of_length_le (by omega)]
theorem kinds_ask {bk : Bk} {kk : Kd} {d : Dd} (hdr : Drawn bk kk d) (x y : Int) : ∀ k' ∈ [kk, bentF kk x, bentF kk y, .way kk kk] ++ (bk.map Prod.snd).take 2, KAsk k' := by
  intro k' h
  have h2 := hdr.kind
  rcases List.mem_append.mp h with h | h
  · simp only [List.mem_cons, List.not_mem_nil, or_false] at h
    rcases h with rfl | rfl | rfl | rfl
    · exact ⟨hdr.settled, by omega, hdr.kn⟩
    · obtain ⟨a, b, c⟩ := bent_ok' (x := x) hdr.settled h2 hdr.kn
      exact ⟨a, b, c⟩
    · obtain ⟨a, b, c⟩ := bent_ok' (x := y) hdr.settled h2 hdr.kn
      exact ⟨a, b, c⟩
    · exact ⟨⟨hdr.settled, hdr.settled⟩, by simp only [Kd.depth]; omega, hdr.kn, hdr.kn⟩
  · obtain ⟨r, hr, rfl⟩ := List.mem_map.mp (List.mem_of_mem_take h)
    obtain ⟨_, a, b, c⟩ := hdr.book.each r hr
    exact ⟨a, by omega, c⟩
variable {P : Program} {w : World} {K : PySem.W.Frag} {mg : Str → Option Value} {base : Heap}
abbrev s_law : Stmt := top 69
abbrev nm_law : List Str := ["_law_script", "_law_k", "_law_book_here", "_law_kind_here", "_law_deed", "_law_xs", "_law_first", "_law_second", "_law_kinds", "_law_grown_here", "_law_row", "_law_some"]
theorem sc_law : FnScope nm_law ["_law_script"] (defScope s_law) := ⟨rfl, rfl, rfl, by decide +kernel, rfl, by decide +kernel, by decide +kernel⟩
def spLaw (K : PySem.W.Frag) : Sp := fun vs H Q _ => ∃ (a : Addr) (ns : List Int), vs = [.ref a] ∧ SqL K H a (ns.map V.int) ∧ ns.length ≤ 63 ∧ ∀ H', Q (.bl true) H'
theorem law_ok (T : Tx K mg) {f : Addr} {fd : FuncData} (F : Fun K "law" "law" s_law f fd) (L : Nat) (C1 : Cal P w K mg base L "_law_drawn" ["_law_script", "_law_k"] (spDrawn K)) (C2 : Cal P w K mg base L "_law_more" ["_law_deed", "_law_xs"] (spMore K 80 96 81)) (C3 : Cal P w K mg base L "_law_bent" ["_law_kind_here", "_law_x"] (spI K (rBent 5)))
    (C4 : Cal P w K mg base L "_law_many_names" ["_law_kind_here"] (spI K (rMany 5))) (C5 : Cal P w K mg base L "plain_form" ["book", "kind", "deed", "most"] (spPf K)) (C6 : Cal P w K mg base L "_law_kinds_right" ["_law_book_here", "_law_deed", "_law_grown_here", "_law_kinds"] (spRight K)) : FnOk P w K mg base CX0 (L + 1) f fd ["_law_script"] (spLaw K) := by
  obtain ⟨_, _, G__law_drawn, m__law_drawn, k__law_drawn, b__law_drawn⟩ := C1
  obtain ⟨_, _, G__law_more, m__law_more, k__law_more, b__law_more⟩ := C2
  obtain ⟨_, _, G__law_bent, m__law_bent, k__law_bent, b__law_bent⟩ := C3
  obtain ⟨_, _, G__law_many_names, m__law_many_names, k__law_many_names, b__law_many_names⟩ := C4
  obtain ⟨_, _, G_plain_form, m_plain_form, k_plain_form, b_plain_form⟩ := C5
  obtain ⟨_, _, G__law_kinds_right, m__law_kinds_right, k__law_kinds_right, b__law_kinds_right⟩ := C6
  refine F.ok sc_law (fun vs H Q E ⟨_, _, e, _⟩ => by rw [e]; rfl) (fun cdv A outer s H vs Q E hr h => ?_)
  obtain ⟨a, ns, rfl, hp, hn, q⟩ := h
  refine ⟨_, (pss_cons (ps_for PassesOwn.never rfl (pi_range1 rfl T.range_ (pa_cons (pe_callB (call_max2 rfl) rfl T.max_ (by decide +kernel) (pa_cons pe_int (pa_cons (pe_callB (call_min2 rfl) rfl T.min_ (by decide +kernel) (pa_cons (pe_callB call_len_seq rfl T.len_ (by decide +kernel) (pa_cons (pv 0) pa_nil)) (pa_cons pe_int pa_nil))) pa_nil))) pa_nil)) (pg_name (i := 1) sc_law.nd rfl (Or.inl rfl))
 (pss_cons (ps_asg (pe_call G__law_drawn hr rfl m__law_drawn k__law_drawn b__law_drawn .nil pass0 (pa_cons (pv 0) (pa_cons (pv 1) pa_nil))) (pg_tup rfl (pgs_cons (pg_name (i := 2) sc_law.nd rfl (Or.inl rfl)) (pgs_cons (pg_name (i := 3) sc_law.nd rfl (Or.inl rfl)) (pgs_cons (pg_name (i := 4) sc_law.nd rfl (Or.inl rfl)) (pgs_cons (pg_name (i := 5) sc_law.nd rfl (Or.inl rfl)) pgs_nil))))))
 (pss_cons (ps_set (i := 6) sc_law.nd rfl (Or.inl rfl) (pe_call G__law_more hr rfl m__law_more k__law_more b__law_more .nil pass0 (pa_cons (pv 4) (pa_cons (pe_slice sl_list (pv 5) po_none (po_some pe_int)) pa_nil))))
 (pss_cons (ps_set (i := 7) sc_law.nd rfl (Or.inl rfl) (pe_call G__law_more hr rfl m__law_more k__law_more b__law_more .nil pass0 (pa_cons (pv 4) (pa_cons (pe_slice sl_list (pv 5) (po_some pe_int) po_none) pa_nil))))
 (pss_cons (ps_set (i := 8) sc_law.nd rfl (Or.inl rfl) (pe_lst (pa_cons (pv 3) (pa_cons (pe_call G__law_bent hr rfl m__law_bent k__law_bent b__law_bent .nil pass0 (pa_cons (pv 3) (pa_cons (pe_ix ix_list (pv 5) pe_int (fun _ _ => rfl)) pa_nil))) (pa_cons (pe_call G__law_bent hr rfl m__law_bent k__law_bent b__law_bent .nil pass0 (pa_cons (pv 3) (pa_cons (pe_ix ix_list (pv 5) pe_int (fun _ _ => rfl)) pa_nil))) (pa_cons (pe_tup (pa_cons pe_str (pa_cons (pv 3) (pa_cons (pv 3) pa_nil)))) pa_nil))))))
 (pss_cons (ps_set (i := 8) sc_law.nd rfl (Or.inl rfl) (pe_op op_cat (pv 8) (pe_slice sl_list (pe_lc (own := [("_law_row", 10)]) (g := gName 10) (tt := tYes) rfl sc_law.nd (pi_tup (pv 2)) (blkOk_by (own := [("_law_row", 10)]) (N := nm_law) (sc := defScope s_law) (by decide +kernel)) (fun _ _ _ _ _ => (pg_name (i := 10) sc_law.nd rfl (Or.inl rfl))) (fun _ _ _ _ _ => pts_nil) (fun _ _ _ _ _ => (pe_ix (ixK (K := K) rfl) (pv 10) pe_int (fun _ _ => rfl)))) po_none (po_some pe_int))))
 (pss_cons (ps_setLc (i := 8) (own := [("_law_some", 11)]) (g := gName 11) rfl sc_law.nd rfl rfl (sw_true rfl rfl rfl (by decide +kernel)) (pi_list (pv 8)) (blkOk_by (own := [("_law_some", 11)]) (N := nm_law) (sc := defScope s_law) (by decide +kernel)) (fun _ _ _ _ _ => (pg_name (i := 11) sc_law.nd rfl (Or.inl rfl))) (fun _ _ _ _ _ => (pts_one (pt_cmpR op_le (pe_call G__law_many_names hr rfl m__law_many_names k__law_many_names b__law_many_names .nil pass0 (pa_cons (pv 11) pa_nil)) pe_int (nomark _)))) (fun _ _ _ _ _ => (pv 11)))
 (pss_one (ps_for PassesOwn.never rfl (pi_list (pe_lst (pa_cons (pv 6) (pa_cons (pv 7) (pa_cons (pe_call G__law_more hr rfl m__law_more k__law_more b__law_more .nil pass0 (pa_cons (pv 6) (pa_cons (pe_slice sl_list (pv 5) (po_some pe_int) (po_some pe_int)) pa_nil))) pa_nil))))) (pg_name (i := 9) sc_law.nd rfl (Or.inl rfl))
 (pss_cons (ps_if (pt_cmpR (op_neD hr.units) (pe_call G_plain_form hr rfl m_plain_form k_plain_form b_plain_form .nil pass0 (pa_cons (pv 2) (pa_cons (pv 3) (pa_cons (pv 9) (pa_cons pe_int pa_nil))))) (pe_tup (pa_cons pe_str (pa_cons (pv 4) pa_nil))) (nomark _))
 (pss_one (ps_ret pe_bl))
 pss_nil)
 (pss_one (ps_if (pt_not (pt_val (pe_call G__law_kinds_right hr rfl m__law_kinds_right k__law_kinds_right b__law_kinds_right .nil pass0 (pa_cons (pv 2) (pa_cons (pv 4) (pa_cons (pv 9) (pa_cons (pv 8) pa_nil)))))))
 (pss_one (ps_ret pe_bl))
 pss_nil))))))))))))
 (pss_one (ps_ret pe_bl))), ?_⟩
  refine Go.run (K := K) (B := H) ?_ (.refl H)
  obtain ⟨hi, ehi⟩ : ∃ hi : Int, hi = (if (if (5 : Int) < (ns.map V.int).length then 5 else ((ns.map V.int).length : Int)) > 2 then (if (5 : Int) < (ns.map V.int).length then 5 else ((ns.map V.int).length : Int)) else 2) := ⟨_, rfl⟩
  have hi5 : 0 ≤ hi ∧ hi ≤ 5 := by rw [ehi]; split <;> (try split) <;> omega
  refine go_seq (go_forR1 (n := hi.toNat) ((ev_max2 ev_int (ev_min2 (ev_lenX (ex_var rfl) hp) ev_int)).is (by rw [ehi])) rfl (by omega) fun H2 u2 => ⟨fun i σ' H' => (∃ a1 a2 a3 a4 a5 a6 a7 a8 a9 a10 a11, σ' = [some (.ref a), a1, a2, a3, a4, a5, a6, a7, a8, a9, a10, a11]) ∧ Same H H', ⟨⟨_, _, _, _, _, _, _, _, _, _, _, rfl⟩, u2.1⟩, fun i σ' H' hi' ⟨⟨a1, a2, a3, a4, a5, a6, a7, a8, a9, a10, a11, es⟩, sm⟩ => ?_, fun σ' H' ⟨⟨a1, a2, a3, a4, a5, a6, a7, a8, a9, a10, a11, es⟩, sm⟩ => ?_⟩)
  · subst es
    have hsc : SqL K H' a (ns.map V.int) := sm.seq hp
    refine (go_asgR (K := K) (B := H') (H := H') (er_X (ex_var (i := 0) rfl) (er_X (ev_it (b := i) (ev_var (i := 1) rfl (.int _)) (by omega)).x er_nil)) fun vs H1 u1 ⟨vs1, q1, vs2, q2, q3⟩ => ?_) H' (.refl (.refl _))
    subst q3 q2 q1
    refine ⟨a, ns, i, by omega, rfl, u1.1.seq hsc, fun bk kk d ys t l vb vk vd H2 hdr hys s2 hT hb hk hd hl => ?_⟩
    refine ⟨t, [vb, vk, vd, .ref l], rfl, hT, rfl, vb, _, rfl, vk, _, rfl, vd, _, rfl, .ref l, [], rfl, rfl, ?_⟩
    have sH2 : Same H H2 := sm.trans (u1.1.trans s2)
    show tSeq _ _ _ [some (.ref a), some (.int (0 + (i : Int))), some vb, some vk, some vd, some (.ref l), a6, a7, a8, a9, a10, a11] H2
    refine Go.run (K := K) (B := H2) (H := H2) ?_ (.refl H2)
    have f0 := Fine.zero hdr
    have more : ∀ {σ : St} {H3 : Hp} {E : XK} {te : TE} {ds : List PyData} {j : Nat} {vG : V} {G : Dd} {z : Nat} {zs : List Int}, Fine bk kk d G z → z ≤ 1 → σ[j]? = some (some vG) → Im K H3 vG (dd G) → EvL K H2 te σ H3 ds → ds = zs.map .int → 0 < ds.length →
        Ev K H2 (tCall (spMore K 80 96 81) [] E (tCons (tVar j) (tCons te tNil))) σ H3 (dd (moreF zs G)) := fun {σ H3 E te ds j vG G z zs} hf hz ej hvg hte eds hds =>
      ev_callR (er_D (ev_var ej hvg) (er_L hte er_nil)) fun vs H4 Q' E' u ⟨x0, vs1, q1, hx0, p, wp, vs2, q2, hpp, mp, q3⟩ q' => by
        subst q3 q2 q1 eds
        have ew := ints_of mp
        subst ew
        rw [List.length_map] at hds
        have hs := hf.size
        have hdp := Dd.depth_le_size G
        exact ⟨G, zs, p, x0, by omega, by omega, rfl, hx0, hpp, hds, fun h80 => grown_low hf hz zs h80 100, q'⟩
    obtain ⟨z1, e1⟩ := cut_ints ys none (some 11)
    obtain ⟨z2, e2⟩ := cut_ints ys (some 11) none
    obtain ⟨z3, e3⟩ := cut_ints ys (some 5) (some 16)
    have l1 : 0 < (cutD (ys.map PyData.int) none (some 11)).length := by rw [show (11 : Int) = ((11 : Nat) : Int) from rfl, cutD_lo _ _ (by simp; omega)]; simp; omega
    have l2 : 0 < (cutD (ys.map PyData.int) (some 11) none).length := by rw [show (11 : Int) = ((11 : Nat) : Int) from rfl, cutD_hi]; simp; omega
    have l3 := cut_mid ys hys
    obtain ⟨y1, hy1, f1⟩ := f0.more (by decide) z1
    obtain ⟨y2, hy2, f2⟩ := f0.more (by decide) z2
    obtain ⟨y3, hy3, f3⟩ := f1.more hy1 z3
    refine go_set (more f0 (by decide) (j := 4) rfl hd (el_slL (ex_var (i := 5) rfl) hl (ints_im ys) eo_none (eo_some ev_int)) e1 l1) fun v6 H3 u3 h6 => ?_
    refine go_set (more f0 (by decide) (j := 4) rfl (hd.keep u3.2) (el_slL (ex_var (i := 5) rfl) hl (ints_im ys) (eo_some ev_int) eo_none) e2 l2) fun v7 H4 u4 h7 => ?_
    have t24 := u3.2.trans u4.2
    have bent : ∀ {j : Nat}, j < 22 → Ev K H2 (tCall (spI K (rBent 5)) [] E0 (tCons (tVar 3) (tCons (tOp (rIxL K) (tVar 5) (tC (.int j))) tNil))) [some (.ref a), some (.int (0 + (i : Int))), some vb, some vk, some vd, some (.ref l), some v6, some v7, a8, a9, a10, a11] H4 (kd (bentF kk (ys.getD j 0))) := fun {j} hj =>
      ev_call (ea_cons (ev_var (i := 3) rfl (hk.keep t24)) (ea_cons (ev_xs (k := j) rfl hl ev_int (by omega)) ea_nil)) ⟨kk, _, by have := hdr.kind; omega, hdr.settled, rfl, rfl⟩
    refine go_setL (el_lst (ea_cons (ev_var (i := 3) rfl (hk.keep t24)) (ea_cons (bent (j := 0) (by decide)) (ea_cons (bent (j := 1) (by decide)) (ea_cons (ev_tup (ds := [.str "way", kd kk, kd kk]) (ea_cons ev_str (ea_cons (ev_var (i := 3) rfl (hk.keep t24)) (ea_cons (ev_var (i := 3) rfl (hk.keep t24)) ea_nil))) (by simp)) ea_nil)))) (by simp)) fun l8 w8 H5 n8 u5 e8 m8 => ?_
    refine Go.run (K := K) (B := H5) (H := H5) ?_ (.refl H5)
    have t25 := t24.trans u5.2
    have few := hdr.book.few
    obtain ⟨ks, eks⟩ : ∃ ks : List Kd, ks = [kk, bentF kk (ys.getD 0 0), bentF kk (ys.getD 1 0), .way kk kk] ++ (bk.map Prod.snd).take 2 := ⟨_, rfl⟩
    have hka : KAsk kk := ⟨hdr.settled, by have := hdr.kind; omega, hdr.kn⟩
    have hks : ∀ k' ∈ ks, KAsk k' := by subst eks; exact kinds_ask hdr (ys.getD 0 0) (ys.getD 1 0)
    refine go_setL (el_cat (ex_var (i := 8) rfl) e8 m8 (el_slM (el_lcN (ds := bk.map rowD) (rs := bk.map fun r => kd r.2) (ev_var (i := 2) rfl (hb.im.keep t25)) (by simp; omega) (by simp) fun i d r v H6 hd hr u6 hv => ?_) eo_none (eo_some ev_int)) ?_) fun l9 w9 H6 n9 u6 e9 m9 => ?_
    · rw [List.getElem?_map] at hd hr
      cases e : bk[i]? with
      | none => rw [e] at hd; cases hd
      | some r' =>
        rw [e] at hd hr
        cases hd
        cases hr
        exact ev_ix (ev_var rfl hv) ev_int rfl
    · rw [cut_two]
      simp
      omega
    refine Go.run (K := K) (B := H6) (H := H6) ?_ (.refl H6)
    have t26 := t25.trans u6.2
    have m9' : ImAll K H6 w9 (ks.map kd) := by
      rw [cut_two] at m9
      rw [eks, List.map_append, List.map_take, List.map_map]
      exact m9
    have lks : ks.length ≤ 6 := by rw [eks]; simp; omega
    refine go_setL (el_lcL (ds := ks.map kd) (ac := fun i => ((ks.take i).filter fun k => decide (manyF k ≤ 12)).map kd) (ex_var (i := 8) rfl) (SqL.of e9) m9' (by simp) (fun i hi => ?_) fun i d v H7 hd u7 hv => ?_) fun l10 w10 H7 n10 u7 e10 m10 => ?_
    · have := List.length_filter_le (fun k => decide (manyF k ≤ 12)) (ks.take i)
      have : (ks.take i).length ≤ 6 := by rw [List.length_take]; omega
      rw [List.length_map]
      omega
    · rw [List.getElem?_map] at hd
      cases e : ks[i]? with
      | none => rw [e] at hd; cases hd
      | some k' =>
        rw [e] at hd
        cases hd
        have hk' := hks k' (List.mem_of_getElem? e)
        refine ⟨decide (manyF k' ≤ 12), (et_test (ev_le (ev_call (ea_cons (ev_var (i := 11) rfl hv) ea_nil) ⟨k', by have := hk'.dp; omega, hk'.settled, rfl, rfl⟩) ev_int)).is (dc (by omega)), fun z => ⟨kd k', ?_, ev_var (i := 11) rfl hv⟩, fun z => ?_⟩
        · rw [List.take_succ, e, List.filter_append, List.map_append]
          simp only [Option.toList, List.filter_cons, z, if_true, List.filter_nil, List.map_cons, List.map_nil]
        · rw [List.take_succ, e, List.filter_append, List.map_append]
          simp only [Option.toList, List.filter_cons, z, List.filter_nil, List.map_nil, List.append_nil]
          simp
    refine Go.run (K := K) (B := H7) (H := H7) ?_ (.refl H7)
    have t27 := t26.trans u7.2
    obtain ⟨kl, ekl⟩ : ∃ kl : List Kd, kl = (ks.take (ks.map kd).length).filter fun k => decide (manyF k ≤ 12) := ⟨_, rfl⟩
    rw [← ekl] at m10
    have hkl : ∀ k' ∈ kl, KAsk k' := fun k' hk' => by
      rw [ekl] at hk'
      exact hks k' (List.mem_of_mem_take (List.mem_filter.mp hk').1)
    have s27 : Same H2 H7 := u5.1.trans (u6.1.trans u7.1)
    have b7 : BkV K H7 vb bk := hb.keep s27
    have hhas : Has All bk [] d kk := f0.has.mono fun _ _ => trivial
    have hsh := shaped_tup ok_plain (lay_dd hdr.fit.names) (by rw [depth_dd]; have := Dd.depth_le_size d; have := hdr.size; omega)
    have t57 := u5.2.trans (u6.2.trans u7.2)
    have h67 := (h6.keep u4.2).keep t57
    have h77 := h7.keep t57
    refine go_forM (el_lst (ea_cons (ev_var (i := 6) rfl h67) (ea_cons (ev_var (i := 7) rfl h77) (ea_cons ((more f1 hy1 (j := 6) rfl h67 (el_slL (ex_var (i := 5) rfl) hl (ints_im ys) (eo_some ev_int) (eo_some ev_int)) e3 l3).up' s27) ea_nil))) (by simp)) fun p ws H8 np u8 hp8 m8' => ⟨fun i' σ' H' => (∃ a9 a10 a11, σ' = [some (.ref a), some (.int (0 + (i : Int))), some vb, some vk, some vd, some (.ref l), some v6, some v7, some (.ref l10), a9, a10, a11]) ∧ Same H8 H', ⟨⟨_, _, _, rfl⟩, .refl _⟩, fun i' σ' H' ⟨_, s⟩ => ⟨s _ _ hp8, .of s⟩, fun i' dg x σ' H' hdg ⟨⟨a9, a10, a11, es⟩, s8⟩ hx => ?_, fun σ' H' ⟨⟨a9, a10, a11, es⟩, s8⟩ => ⟨⟨_, _, _, _, _, _, _, _, _, _, _, es⟩, sH2.trans (s27.trans (u8.1.trans s8))⟩⟩
    subst es
    obtain ⟨G, z, hz, hf, rfl⟩ : ∃ G z, z ≤ 2 ∧ Fine bk kk d G z ∧ dg = dd G := by
      match i', hdg with
      | 0, e => cases e; exact ⟨_, y1, by omega, f1, rfl⟩
      | 1, e => cases e; exact ⟨_, y2, by omega, f2, rfl⟩
      | 2, e => cases e; exact ⟨_, y3, by omega, f3, rfl⟩
    have s78 : Same H7 H' := u8.1.trans s8
    have kk7 := hk.keep (TK.of (s27.trans s78))
    have dd7 := hd.keep (TK.of (s27.trans s78))
    refine (go_ifs (K := K) (B := H8) (H := H') (b := false) ((et_test (ev_neD rfl (ev_callR (d := .tuple [.str "plain", dd d]) (er_Bk (i := 2) rfl (b7.keep u8.1) (er_D (ev_var (i := 3) rfl kk7) (er_D (ev_var (i := 9) rfl hx) (er_X ex_c er_nil)))) fun vs H9 Q' E' u ⟨x0, vs1, q1, hx0, x1, vs2, q2, hx1, x2, vs3, q3, hx2, vs4, q4, q5⟩ q' => by
        subst q5 q4 q3 q2 q1
        exact ⟨bk, kk, kk, d, G, d, z, x0, x1, x2, rfl, hx0, hx1, hx2, hf, hz, hdr.book, hka, hhas, drawn_self hdr, q'⟩) (ev_tup (ea_cons ev_str (ea_cons (ev_var (i := 4) rfl dd7) ea_nil)) (by simp)) hsh hsh)).is (by rw [SeqAt.eqv_refl _ (SeqAt.canLay_of_shaped hsh)]; rfl)) (fun z => nomatch z) (fun _ => ?_)) H' ⟨s8, .refl _⟩
    refine go_if (b := false) (et_not (a := true) (et_B (ev_callR (d := .bool true) (er_Bk (i := 2) rfl (b7.keep u8.1) (er_D (ev_var (i := 4) rfl dd7) (er_D (ev_var (i := 9) rfl hx) (er_X (ex_var (i := 8) rfl) er_nil)))) fun vs H9 Q' E' u ⟨x0, vs1, q1, hx0, x1, vs2, q2, hx1, x2, vs3, q3, hx2, vs4, q4, q5⟩ q' => by
      subst q5 q4 q3 q2 q1
      exact ⟨bk, kk, d, G, z, kl, x0, x1, x2, l10, w10, rfl, hx0, hx1, hx2, SqL.of (u.1 _ _ (u8.1 _ _ e10)), m10.keep (.of (u8.1.trans u.1)), hdr, hf, hz, hkl, fun H' s' => q' _ H' s' (.bl true)⟩))) (fun z => nomatch z) (fun _ => go_next fun H9 u9 => ?_)
    exact ⟨⟨_, _, _, rfl⟩, u9.1⟩
  · subst es
    exact q H'
end Fw
set_option Elab.async false
set_option linter.all false
set_option maxRecDepth 100000
set_option maxHeartbeats 1000000
namespace Fw
open PySem PySem.Spec PyProof.Rows L2 Fd
/-! ### the defs as data, what the head is asked -/
def dF (x : Str) (st : Stmt) : He.DefD := { at_ := (x, none), name := x, qual := x, params := defArgs st, body := defBody st, scope := defScope st }
def dM (c m q : Str) (st : Stmt) : He.DefD := { at_ := (c, some m), name := m, qual := q, params := defArgs st, body := defBody st, scope := defScope st }
def dWhole : He.DefD := { at_ := ("is_whole", none), name := "is_whole", qual := "is_whole", params := defArgs s_is_whole, body := defBody s_is_whole, scope := defScope s_is_whole, dfl := [.int 0] }
def fnL : List He.DefD := [dF "is_plain_name" s_is_plain_name,
  dF "is_any_name" s_is_any_name,
  dF "is_number" s_is_number,
  dF "is_begun" s_is_begun,
  dF "is_deed" s_is_deed,
  dF "holes_in" s_holes_in,
  dF "spots_held" s_spots_held,
  dWhole,
  dF "moved" s_moved,
  dF "loosened" s_loosened,
  dF "lettered" s_lettered,
  dF "names_used" s_names_used,
  dF "numbers_in" s_numbers_in,
  dF "can_be_asked" s_can_be_asked,
  dF "infer" s_infer,
  dF "fits" s_fits,
  dF "put_for" s_put_for,
  dF "put_at" s_put_at,
  dF "done_here" s_done_here,
  dF "step_at" s_step_at,
  dF "step" s_step,
  dF "still" s_still,
  dF "road_opened" s_road_opened,
  dF "opened" s_opened,
  dF "plain_form" s_plain_form,
  dF "_law_cell" s__law_cell,
  dF "_law_numbers" s__law_numbers,
  dF "_law_names" s__law_names,
  dF "_law_mix" s__law_mix,
  dF "_law_kind" s__law_kind,
  dF "_law_book" s__law_book,
  dF "_law_outs" s__law_outs,
  dF "_law_heads" s__law_heads,
  dF "_law_gone" s__law_gone,
  dF "_law_options" s__law_options,
  dF "_law_fit" s__law_fit,
  dF "_law_moved" s__law_moved,
  dF "_law_put" s__law_put,
  dF "_law_step" s__law_step,
  dF "_law_still" s__law_still,
  dF "_law_spare" s__law_spare,
  dF "_law_grown" s__law_grown,
  dF "_law_size" s__law_size,
  dF "_law_turns" s__law_turns,
  dF "_law_drawn" s__law_drawn,
  dF "_law_more" s__law_more,
  dF "_law_bent" s__law_bent,
  dF "_law_many_names" s__law_many_names,
  dF "_law_kinds_right" s__law_kinds_right,
  dF "law" s_law,
  dM "Agreeing" "__init__" "Agreeing.__init__" s_Agreeing___init__,
  dM "Agreeing" "seen" "Agreeing.seen" s_Agreeing_seen,
  dM "Agreeing" "whole" "Agreeing.whole" s_Agreeing_whole,
  dM "Agreeing" "stands_in" "Agreeing.stands_in" s_Agreeing_stands_in,
  dM "Agreeing" "made_alike" "Agreeing.made_alike" s_Agreeing_made_alike,
  dM "Agreeing" "number_met" "Agreeing.number_met" s_Agreeing_number_met,
  dM "Inferring" "__init__" "Inferring.__init__" s_Inferring___init__,
  dM "Inferring" "another" "Inferring.another" s_Inferring_another,
  dM "Inferring" "book_kind" "Inferring.book_kind" s_Inferring_book_kind,
  dM "Inferring" "same" "Inferring.same" s_Inferring_same,
  dM "Inferring" "kind_of" "Inferring.kind_of" s_Inferring_kind_of,
  dM "Inferring" "half_of" "Inferring.half_of" s_Inferring_half_of]
def faL0 : List He.Fa := [.free "isinstance",
  .free "len",
  .free "all",
  .free "str",
  .free "int",
  .free "bool",
  .free "tuple",
  .free "set",
  .free "dict",
  .free "range",
  .free "sum",
  .free "max",
  .free "min",
  .free "abs",
  .str "SMALL" "abcdefghijklmnopqrstuvwxyz",
  .str "GREAT" "ABCDEFGHIJKLMNOPQRSTUVWXYZ",
  .str "LETTERS" "ABCDEFGHIJKLMNOPQRSTUVWXYZ",
  .int "MOST_LETTERS" 8,
  .glo "ONE_PART",
  .glo "TWO_PARTS",
  .glo "ENDS",
  .glo "is_plain_name",
  .glo "is_any_name",
  .glo "is_number",
  .glo "is_begun",
  .glo "is_deed",
  .glo "holes_in",
  .glo "spots_held",
  .glo "is_whole",
  .glo "moved",
  .glo "loosened"]
def faL1 : List He.Fa := [.glo "lettered",
  .glo "names_used",
  .glo "numbers_in",
  .glo "can_be_asked",
  .glo "infer",
  .glo "fits",
  .glo "put_for",
  .glo "put_at",
  .glo "done_here",
  .glo "step_at",
  .glo "step",
  .glo "still",
  .glo "road_opened",
  .glo "opened",
  .glo "plain_form",
  .glo "_law_cell",
  .glo "_law_numbers",
  .glo "_law_names",
  .glo "_law_mix",
  .glo "_law_kind",
  .glo "_law_book",
  .glo "_law_outs",
  .glo "_law_heads",
  .glo "_law_gone",
  .glo "_law_options",
  .glo "_law_fit",
  .glo "_law_moved",
  .glo "_law_put",
  .glo "_law_step",
  .glo "_law_still",
  .glo "_law_spare"]
def faL2 : List He.Fa := [.glo "_law_grown",
  .glo "_law_size",
  .glo "_law_turns",
  .glo "_law_drawn",
  .glo "_law_more",
  .glo "_law_bent",
  .glo "_law_many_names",
  .glo "_law_kinds_right",
  .glo "law",
  .glo "Agreeing",
  .cls "Agreeing",
  .mkr "Agreeing",
  .noat "Agreeing" "became",
  .glo "Inferring",
  .cls "Inferring",
  .mkr "Inferring",
  .noat "Inferring" "book",
  .noat "Inferring" "agreeing",
  .noat "Inferring" "numbered",
  .noat "Inferring" "place",
  .meth "Agreeing" "seen",
  .meth "Agreeing" "whole",
  .meth "Agreeing" "stands_in",
  .meth "Agreeing" "made_alike",
  .meth "Agreeing" "number_met",
  .meth "Inferring" "another",
  .meth "Inferring" "book_kind",
  .meth "Inferring" "same",
  .meth "Inferring" "kind_of",
  .meth "Inferring" "half_of"]
def faL : List He.Fa := faL0 ++ (faL1 ++ faL2)
def exB (K : PySem.W.Frag) : Bool := He.tupB K "ONE_PART" [.str "turn", .str "first", .str "second"] && (He.tupB K "TWO_PARTS" [.str "do", .str "both"] && He.tupB K "ENDS" [.str "spot", .str "book", .str "hole"])
theorem fun_of {K : PySem.W.Frag} {x q : Str} {st : Stmt} {f : Addr} {fd : FuncData} (F : FunD K x q (defArgs st) (defBody st) (defScope st) [] [] f fd) : Fun K x q st f fd := by
  obtain ⟨oc, od, dV, kV, doc, pm, an, cdv, ct, osl, e, l, c, hD, _⟩ := F.ex
  rcases hD with ⟨_, rfl⟩ | ⟨e', _⟩
  · exact ⟨⟨oc, od, kV, doc, pm, an, cdv, ct, osl, e, l, c⟩, F.kp⟩
  · exact absurd rfl e'
section
variable {P : Program} {w : World} {K : PySem.W.Frag} {mg : Str → Option Value} {base : Heap}
structure All (K : PySem.W.Frag) (mg : Str → Option Value) (CA CI fA fI fW fL : Addr) (fdA fdI fdW fdL : FuncData) : Prop where
  T : Tx K mg
  A : InC K CA CI
  MA : Mk K CA fA
  FA : Fun K "__init__" "Agreeing.__init__" s_Agreeing___init__ fA fdA
  bA : Binds K fdA ["self"] []
  gA : mg "Agreeing" = some (.ref CA)
  MI : Mk K CI fI
  FI : Fun K "__init__" "Inferring.__init__" s_Inferring___init__ fI fdI
  bI : Binds K fdI ["self", "book"] []
  gI : mg "Inferring" = some (.ref CI)
  FW : FunD K "is_whole" "is_whole" (defArgs s_is_whole) (defBody s_is_whole) (defScope s_is_whole) [.int 0] [] fW fdW
  gW : mg "is_whole" = some (.ref fW)
  bW : ∃ t, Binds K fdW ["thing", "given"] [.int 0 t]
  FL : Fun K "law" "law" s_law fL fdL
  D_is_plain_name : Dfn K mg "is_plain_name" s_is_plain_name ["thing"]
  D_is_any_name : Dfn K mg "is_any_name" s_is_any_name ["thing"]
  D_is_number : Dfn K mg "is_number" s_is_number ["thing"]
  D_is_begun : Dfn K mg "is_begun" s_is_begun ["thing", "size", "words"]
  D_is_deed : Dfn K mg "is_deed" s_is_deed ["thing"]
  D_holes_in : Dfn K mg "holes_in" s_holes_in ["deed"]
  D_spots_held : Dfn K mg "spots_held" s_spots_held ["deed", "given"]
  D_moved : Dfn K mg "moved" s_moved ["deed", "given", "by"]
  D_loosened : Dfn K mg "loosened" s_loosened ["kind", "numbers"]
  D_lettered : Dfn K mg "lettered" s_lettered ["kind", "letters"]
  D_names_used : Dfn K mg "names_used" s_names_used ["deed"]
  D_numbers_in : Dfn K mg "numbers_in" s_numbers_in ["kind"]
  D_can_be_asked : Dfn K mg "can_be_asked" s_can_be_asked ["book", "deed"]
  D_infer : Dfn K mg "infer" s_infer ["book", "deed"]
  D_fits : Dfn K mg "fits" s_fits ["book", "kind", "deed"]
  D_put_for : Dfn K mg "put_for" s_put_for ["deed", "level", "other"]
  D_put_at : Dfn K mg "put_at" s_put_at ["deed", "level", "other", "around"]
  D_done_here : Dfn K mg "done_here" s_done_here ["deed", "given"]
  D_step_at : Dfn K mg "step_at" s_step_at ["deed", "given"]
  D_step : Dfn K mg "step" s_step ["deed"]
  D_still : Dfn K mg "still" s_still ["deed", "most"]
  D_road_opened : Dfn K mg "road_opened" s_road_opened ["book", "given", "deed"]
  D_opened : Dfn K mg "opened" s_opened ["book", "given", "kind", "deed"]
  D_plain_form : Dfn K mg "plain_form" s_plain_form ["book", "kind", "deed", "most"]
  D__law_cell : Dfn K mg "_law_cell" s__law_cell ["_law_script", "_law_k"]
  D__law_numbers : Dfn K mg "_law_numbers" s__law_numbers ["_law_cell_here", "_law_many"]
  D__law_names : Dfn K mg "_law_names" s__law_names ["_law_xs"]
  D__law_mix : Dfn K mg "_law_mix" s__law_mix ["_law_x", "_law_way"]
  D__law_kind : Dfn K mg "_law_kind" s__law_kind ["_law_x", "_law_names_here", "_law_deep"]
  D__law_book : Dfn K mg "_law_book" s__law_book ["_law_xs", "_law_names_here", "_law_many", "_law_deep"]
  D__law_outs : Dfn K mg "_law_outs" s__law_outs ["_law_kind_here"]
  D__law_heads : Dfn K mg "_law_heads" s__law_heads ["_law_book_here", "_law_given"]
  D__law_gone : Dfn K mg "_law_gone" s__law_gone ["_law_head", "_law_road", "_law_parts"]
  D__law_options : Dfn K mg "_law_options" s__law_options ["_law_book_here", "_law_given", "_law_name"]
  D__law_fit : Dfn K mg "_law_fit" s__law_fit ["_law_book_here", "_law_given", "_law_kind_here", "_law_x", "_law_deep"]
  D__law_moved : Dfn K mg "_law_moved" s__law_moved ["_law_deed", "_law_given", "_law_by"]
  D__law_put : Dfn K mg "_law_put" s__law_put ["_law_deed", "_law_level", "_law_other", "_law_around"]
  D__law_step : Dfn K mg "_law_step" s__law_step ["_law_deed", "_law_given"]
  D__law_still : Dfn K mg "_law_still" s__law_still ["_law_deed", "_law_most"]
  D__law_spare : Dfn K mg "_law_spare" s__law_spare ["_law_given", "_law_xs"]
  D__law_grown : Dfn K mg "_law_grown" s__law_grown ["_law_deed", "_law_given", "_law_xs", "_law_at"]
  D__law_size : Dfn K mg "_law_size" s__law_size ["_law_deed"]
  D__law_turns : Dfn K mg "_law_turns" s__law_turns ["_law_deed"]
  D__law_drawn : Dfn K mg "_law_drawn" s__law_drawn ["_law_script", "_law_k"]
  D__law_more : Dfn K mg "_law_more" s__law_more ["_law_deed", "_law_xs"]
  D__law_bent : Dfn K mg "_law_bent" s__law_bent ["_law_kind_here", "_law_x"]
  D__law_many_names : Dfn K mg "_law_many_names" s__law_many_names ["_law_kind_here"]
  D__law_kinds_right : Dfn K mg "_law_kinds_right" s__law_kinds_right ["_law_book_here", "_law_deed", "_law_grown_here", "_law_kinds"]
  D_Agreeing_seen : DfnM K CA "seen" "Agreeing.seen" s_Agreeing_seen ["self", "kind"]
  D_Agreeing_whole : DfnM K CA "whole" "Agreeing.whole" s_Agreeing_whole ["self", "kind"]
  D_Agreeing_stands_in : DfnM K CA "stands_in" "Agreeing.stands_in" s_Agreeing_stands_in ["self", "number", "kind"]
  D_Agreeing_made_alike : DfnM K CA "made_alike" "Agreeing.made_alike" s_Agreeing_made_alike ["self", "one", "other"]
  D_Agreeing_number_met : DfnM K CA "number_met" "Agreeing.number_met" s_Agreeing_number_met ["self", "one", "other"]
  D_Inferring_another : DfnM K CI "another" "Inferring.another" s_Inferring_another ["self"]
  D_Inferring_book_kind : DfnM K CI "book_kind" "Inferring.book_kind" s_Inferring_book_kind ["self", "name"]
  D_Inferring_same : DfnM K CI "same" "Inferring.same" s_Inferring_same ["self", "one", "other", "place"]
  D_Inferring_kind_of : DfnM K CI "kind_of" "Inferring.kind_of" s_Inferring_kind_of ["self", "deed", "given", "place"]
  D_Inferring_half_of : DfnM K CI "half_of" "Inferring.half_of" s_Inferring_half_of ["self", "word", "kind", "place"]
theorem all_ok {CA CI fA fI fW fL : Addr} {fdA fdI fdW fdL : FuncData} (a : All K mg CA CI fA fI fW fL fdA fdI fdW fdL) : FnOk P w K mg base CX0 178 fL fdL ["_law_script"] (spLaw K) := by
  have T := a.T
  have A := a.A
  have c_plain : Cal P w K mg base 1 "is_plain_name" ["thing"] (spI K rPlain) := plain_ok T a.D_is_plain_name
  have c_any : Cal P w K mg base 1 "is_any_name" ["thing"] (spI K rAny) := any_ok T a.D_is_any_name
  have c_num : Cal P w K mg base 1 "is_number" ["thing"] (spI K rNumber) := number_ok T a.D_is_number
  have c_begun : Cal P w K mg base 1 "is_begun" ["thing", "size", "words"] (spI K rBegun) := begun_ok T a.D_is_begun
  have c_holes : Cal P w K mg base 96 "holes_in" ["deed"] (spL K (rHoles 96)) := holes_ok T a.D_holes_in 96
  have CW : Cal0 P w K mg base 98 "is_whole" ["thing", "given"] (spI K (rWhole 96)) := by
    obtain ⟨t, bW⟩ := a.bW
    exact ⟨_, _, t, whole_ok T a.FW 96 (is_deed_ok T a.D_is_deed c_begun c_num c_plain 96) (held_ok T a.D_spots_held 96) c_holes, a.gW, a.FW.kp, bW⟩
  have c_moved : ∀ n, Cal P w K mg base n "moved" ["deed", "given", "by"] (spI K (rMoved n)) := moved_ok T.toBi a.D_moved
  have c_put : ∀ n, Cal P w K mg base (n + n) "put_at" ["deed", "level", "other", "around"] (spI K (rPut n n)) := fun n => put_at_ok T n a.D_put_at (c_moved n) n
  have c_here : ∀ n, Cal P w K mg base (n + n + 2) "done_here" ["deed", "given"] (spI K (rHere n)) := fun n => done_here_ok n a.D_done_here (put_for_ok n n a.D_put_for (c_put n))
  have c_still : Cal P w K mg base 167 "still" ["deed", "most"] (spI K (rStill 81)) := still_ok 81 a.D_still (step_ok 81 a.D_step (step_at_ok T a.D_step_at c_here 81))
  have c_opened : Cal P w K mg base 90 "opened" ["book", "given", "kind", "deed"] (spOp K 45) := (opened_ok T 45 a.D_road_opened a.D_opened (c_moved 45) 45 (Nat.le_refl _)).2
  have c_can : Cal P w K mg base 99 "can_be_asked" ["book", "deed"] (spI K (rCan 96)) := can_ok T 96 a.D_can_be_asked CW (used_ok T a.D_names_used 96)
  have m_seen : CalM P w K mg base 1 CA "seen" ["self", "kind"] (spSeen K CA) := seen_ok A.ag T a.D_Agreeing_seen
  have m_whole : CalM P w K mg base 15 CA "whole" ["self", "kind"] (spWhole K CA 14) := whole_okA A.ag T a.D_Agreeing_whole m_seen 14
  have m_alike : CalM P w K mg base 17 CA "made_alike" ["self", "one", "other"] (spAl K CA 14) := alike_ok A.ag T 14 a.D_Agreeing_made_alike m_seen m_whole (met_ok A.ag T 14 a.D_Agreeing_number_met (stands_ok A.ag T a.D_Agreeing_stands_in m_seen 14) m_whole)
  have m_another : CalM P w K mg base 1 CI "another" ["self"] (spAno K CA CI) := another_ok A T a.D_Inferring_another
  have m_same : CalM P w K mg base 18 CI "same" ["self", "one", "other", "place"] (spSame K CA CI 14) := same_ok A T 14 a.D_Inferring_same m_alike
  have m_bk : CalM P w K mg base 5 CI "book_kind" ["self", "name"] (spBkKind K CA CI 3) := book_kind_ok A T 3 (by decide) a.D_Inferring_book_kind (loosened_ok T a.D_loosened c_any 3) (lettered_ok T a.D_lettered 3) m_another
  have m_half : CalM P w K mg base 19 CI "half_of" ["self", "word", "kind", "place"] (spHalf K CA CI 14) := half_ok A T 14 a.D_Inferring_half_of m_same m_another
  have m_kof : CalM P w K mg base 115 CI "kind_of" ["self", "deed", "given", "place"] (spKof K CA CI 14 96) := kof_ok A T 14 19 (by decide) a.D_Inferring_kind_of m_another m_bk (m_same.mono (by decide)) m_half 96
  have Cs : Classes P w K mg base CA CI 115 96 := ⟨A, m_whole, ⟨_, _, a.MI, inI_ok A T a.FI a.MA (agI_ok A.ag T a.FA) a.gA a.bA, a.gI, a.bI⟩, m_kof, m_same⟩
  have c_fits : Cal P w K mg base 116 "fits" ["book", "kind", "deed"] (spFits K 96) := fits_ok T 115 96 (by decide) (by decide) Cs a.D_fits c_can
  have c_infer : Cal P w K mg base 116 "infer" ["book", "deed"] (spInfer K 96) := infer_ok T 115 96 (by decide) (by decide) Cs a.D_infer c_can c_holes (numbers_in_ok T a.D_numbers_in 14) (lettered_ok T a.D_lettered 14)
  have c_pf : Cal P w K mg base 168 "plain_form" ["book", "kind", "deed", "most"] (spPf K) := pf_ok T 167 (by decide) a.D_plain_form CW c_holes (c_fits.mono (by decide)) c_still c_opened
  have c_right : Cal P w K mg base 169 "_law_kinds_right" ["_law_book_here", "_law_deed", "_law_grown_here", "_law_kinds"] (spRight K) := right_ok T 168 a.D__law_kinds_right (c_fits.mono (by decide)) c_pf (c_infer.mono (by decide))
  have l_moved : ∀ n, Cal P w K mg base n "_law_moved" ["_law_deed", "_law_given", "_law_by"] (spI K (rMoved n)) := lmoved_ok T a.D__law_moved
  have l_step : Cal P w K mg base 163 "_law_step" ["_law_deed", "_law_given"] (spI K (rStep 81)) := lstep_ok T a.D__law_step (fun n => lput_ok T n a.D__law_put (l_moved n) n) 81
  have l_still := lstill_ok T 81 a.D__law_still l_step
  have l_size : Cal P w K mg base 96 "_law_size" ["_law_deed"] (spI K (rSize 96)) := lsize_ok T a.D__law_size 96
  have l_grown : Cal P w K mg base (96 + 80) "_law_grown" ["_law_deed", "_law_given", "_law_xs", "_law_at"] (spGrown K 80 96) := lgrown_ok T 96 (by decide) a.D__law_grown (l_moved 96) (lspare_ok T a.D__law_spare) 80
  have l_more : Cal P w K mg base 177 "_law_more" ["_law_deed", "_law_xs"] (spMore K 80 96 81) := lmore_ok T 80 96 81 176 (by decide) (by decide) a.D__law_more l_grown l_size (lturns_ok T a.D__law_turns 96) l_still
  have l_mix : Cal P w K mg base 1 "_law_mix" ["_law_x", "_law_way"] (spI K rMix) := mix_ok T a.D__law_mix
  have l_kind : Cal P w K mg base 4 "_law_kind" ["_law_x", "_law_names_here", "_law_deep"] (spKind K 3) := kind_ok T a.D__law_kind l_mix 3
  have l_fit : Cal P w K mg base 13 "_law_fit" ["_law_book_here", "_law_given", "_law_kind_here", "_law_x", "_law_deep"] (spP K (rFit 9)) := fit_ok T a.D__law_fit (options_ok T a.D__law_options (heads_ok T a.D__law_heads) (outs_ok T a.D__law_outs 3)) (gone_ok T a.D__law_gone) l_mix 9
  have l_drawn : Cal P w K mg base 97 "_law_drawn" ["_law_script", "_law_k"] (spDrawn K) := drawn_ok T 96 (by decide) a.D__law_drawn (cell_ok T a.D__law_cell) (numbers_ok T a.D__law_numbers) (names_ok T a.D__law_names) (book_ok T 2 a.D__law_book l_kind) l_kind l_fit l_size
  exact law_ok T a.FL 177 (l_drawn.mono (by decide)) l_more ((bent_ok T a.D__law_bent 5).mono (by decide)) ((many_ok T a.D__law_many_names 5).mono (by decide)) (c_pf.mono (by decide)) (c_right.mono (by decide))
/-! ### what the head has told -/
section
variable {h : Heap} (X : K.In h) (G : h.Ns mainGlobals mg) (c : He.SaysD faL fnL K) (e : exB K = true)
include X G c in
theorem dfn_of {x : Str} {st : Stmt} {ps : List Str} (i j : Nat) (hi : fnL[i]? = some (dF x st)) (hj : faL[j]? = some (.glo x))
    (hb : ∀ (kV doc pm : Value) (an : Option Addr) (cdv ct : Value) (us : List Value), us.length = ps.length → bindArgs (PySem.W.fnOf x x (defArgs st) (defBody st) (defScope st) .none kV doc pm an cdv ct) ⟨us, []⟩ = pure (ps.zip us)) : Dfn K mg x st ps := by
  obtain ⟨fd, F⟩ := c.def_ i hi
  have F' : Fun K x x st (He.fAd K (x, none)) fd := fun_of F
  exact ⟨_, fd, F', He.glo_ok X G (c.fact j hj), F'.binds hb⟩
include c in
theorem dfm_of {C m q : Str} {st : Stmt} {ps : List Str} (i j : Nat) (hi : fnL[i]? = some (dM C m q st)) (hj : faL[j]? = some (.meth C m))
    (hb : ∀ (kV doc pm : Value) (an : Option Addr) (cdv ct : Value) (us : List Value), us.length = ps.length → bindArgs (PySem.W.fnOf m q (defArgs st) (defBody st) (defScope st) .none kV doc pm an cdv ct) ⟨us, []⟩ = pure (ps.zip us)) : DfnM K (He.ga K C) m q st ps := by
  obtain ⟨fd, F⟩ := c.def_ i hi
  have F' : Fun K m q st (He.fAd K (C, some m)) fd := fun_of F
  exact ⟨_, fd, F', He.meth_ok (c.fact j hj), F'.binds hb⟩
include X G c e in
theorem all_of {fL : Addr} (hL : mg ("law" : Str) = some (.ref fL)) : ∃ (CA CI fA fI fW : Addr) (fdA fdI fdW fdL : FuncData), All K mg CA CI fA fI fW fL fdA fdI fdW fdL ∧ ∀ (s : Shared) (v : Value), BindsTo s fdL ⟨[v], []⟩ [("_law_script", v)] := by
  have T : Tx K mg := {
    isinstance_ := He.free_ok X G (c.fact 0 rfl)
    len_ := He.free_ok X G (c.fact 1 rfl)
    all_ := He.free_ok X G (c.fact 2 rfl)
    str_ := He.free_ok X G (c.fact 3 rfl)
    int_ := He.free_ok X G (c.fact 4 rfl)
    bool_ := He.free_ok X G (c.fact 5 rfl)
    tuple_ := He.free_ok X G (c.fact 6 rfl)
    set_ := He.free_ok X G (c.fact 7 rfl)
    dict_ := He.free_ok X G (c.fact 8 rfl)
    range_ := He.free_ok X G (c.fact 9 rfl)
    sum_ := He.free_ok X G (c.fact 10 rfl)
    max_ := He.free_ok X G (c.fact 11 rfl)
    min_ := He.free_ok X G (c.fact 12 rfl)
    abs_ := He.free_ok X G (c.fact 13 rfl)
    SMALL := He.str_ok X G (c.fact 14 rfl)
    GREAT := He.str_ok X G (c.fact 15 rfl)
    LETTERS := He.str_ok X G (c.fact 16 rfl)
    MOST_LETTERS := He.int_ok X G (c.fact 17 rfl)
    ONE_PART := ⟨_, He.glo_ok X G (c.fact 18 rfl), fun H => He.tupB_ok (He.ba e).1 H⟩
    TWO_PARTS := ⟨_, He.glo_ok X G (c.fact 19 rfl), fun H => He.tupB_ok (He.ba (He.ba e).2).1 H⟩
    ENDS := ⟨_, He.glo_ok X G (c.fact 20 rfl), fun H => He.tupB_ok (He.ba (He.ba e).2).2 H⟩ }
  have A : InC K (He.ga K "Agreeing") (He.ga K "Inferring") := ⟨⟨He.cls_ok (c.fact 72 rfl), He.noat_ok (c.fact 74 rfl)⟩, He.cls_ok (c.fact 76 rfl), He.noat_ok (c.fact 78 rfl), He.noat_ok (c.fact 79 rfl), He.noat_ok (c.fact 80 rfl), He.noat_ok (c.fact 81 rfl)⟩
  obtain ⟨fdA, FA0⟩ := c.def_ 50 (d := dM "Agreeing" "__init__" "Agreeing.__init__" s_Agreeing___init__) rfl
  have FA : Fun K "__init__" "Agreeing.__init__" s_Agreeing___init__ (He.fAd K ("Agreeing", some "__init__")) fdA := fun_of FA0
  obtain ⟨fdI, FI0⟩ := c.def_ 56 (d := dM "Inferring" "__init__" "Inferring.__init__" s_Inferring___init__) rfl
  have FI : Fun K "__init__" "Inferring.__init__" s_Inferring___init__ (He.fAd K ("Inferring", some "__init__")) fdI := fun_of FI0
  obtain ⟨fdW, FW⟩ := c.def_ 7 (d := dWhole) rfl
  obtain ⟨fdL, FL0⟩ := c.def_ 49 (d := dF "law" s_law) rfl
  have eL := hL.symm.trans (He.glo_ok X G (c.fact 70 rfl))
  cases eL
  have FL : Fun K "law" "law" s_law (He.fAd K ("law", none)) fdL := fun_of FL0
  have bL := FunD.bindsA (ps := ["_law_script"]) FL0 fun _ _ _ _ _ _ us hl => match us, hl with | [_], _ => rfl
  have bW : ∃ t, Binds K fdW ["thing", "given"] [.int 0 t] := by
    obtain ⟨ds, hv, hb⟩ := FunD.binds1 (ps := ["thing", "given"]) FW 1 0 (List.cons_ne_nil (V.int 0) []) rfl fun T kV doc pm an cdv ct us its hu hi => by
      match us, hu, its, hi with
      | [_], _, [_], _ => exact ⟨_, rfl, rfl⟩
    cases hv with
    | cons h1 h2 =>
      cases h2
      obtain ⟨t, rfl⟩ := h1
      exact ⟨t, hb⟩
  refine ⟨_, _, _, _, _, fdA, fdI, fdW, fdL, {
    T := T
    A := A
    MA := He.mkr_ok (c.fact 73 rfl)
    FA := FA
    bA := FA.binds fun _ _ _ _ _ _ us hl => match us, hl with | [_], _ => rfl
    gA := He.glo_ok X G (c.fact 71 rfl)
    MI := He.mkr_ok (c.fact 77 rfl)
    FI := FI
    bI := FI.binds fun _ _ _ _ _ _ us hl => match us, hl with | [_, _], _ => rfl
    gI := He.glo_ok X G (c.fact 75 rfl)
    FW := FW
    gW := He.glo_ok X G (c.fact 28 rfl)
    bW := bW
    FL := FL
    D_is_plain_name := dfn_of X G c 0 21 rfl rfl (fun _ _ _ _ _ _ us hl => match us, hl with | [_], _ => rfl)
    D_is_any_name := dfn_of X G c 1 22 rfl rfl (fun _ _ _ _ _ _ us hl => match us, hl with | [_], _ => rfl)
    D_is_number := dfn_of X G c 2 23 rfl rfl (fun _ _ _ _ _ _ us hl => match us, hl with | [_], _ => rfl)
    D_is_begun := dfn_of X G c 3 24 rfl rfl (fun _ _ _ _ _ _ us hl => match us, hl with | [_, _, _], _ => rfl)
    D_is_deed := dfn_of X G c 4 25 rfl rfl (fun _ _ _ _ _ _ us hl => match us, hl with | [_], _ => rfl)
    D_holes_in := dfn_of X G c 5 26 rfl rfl (fun _ _ _ _ _ _ us hl => match us, hl with | [_], _ => rfl)
    D_spots_held := dfn_of X G c 6 27 rfl rfl (fun _ _ _ _ _ _ us hl => match us, hl with | [_, _], _ => rfl)
    D_moved := dfn_of X G c 8 29 rfl rfl (fun _ _ _ _ _ _ us hl => match us, hl with | [_, _, _], _ => rfl)
    D_loosened := dfn_of X G c 9 30 rfl rfl (fun _ _ _ _ _ _ us hl => match us, hl with | [_, _], _ => rfl)
    D_lettered := dfn_of X G c 10 31 rfl rfl (fun _ _ _ _ _ _ us hl => match us, hl with | [_, _], _ => rfl)
    D_names_used := dfn_of X G c 11 32 rfl rfl (fun _ _ _ _ _ _ us hl => match us, hl with | [_], _ => rfl)
    D_numbers_in := dfn_of X G c 12 33 rfl rfl (fun _ _ _ _ _ _ us hl => match us, hl with | [_], _ => rfl)
    D_can_be_asked := dfn_of X G c 13 34 rfl rfl (fun _ _ _ _ _ _ us hl => match us, hl with | [_, _], _ => rfl)
    D_infer := dfn_of X G c 14 35 rfl rfl (fun _ _ _ _ _ _ us hl => match us, hl with | [_, _], _ => rfl)
    D_fits := dfn_of X G c 15 36 rfl rfl (fun _ _ _ _ _ _ us hl => match us, hl with | [_, _, _], _ => rfl)
    D_put_for := dfn_of X G c 16 37 rfl rfl (fun _ _ _ _ _ _ us hl => match us, hl with | [_, _, _], _ => rfl)
    D_put_at := dfn_of X G c 17 38 rfl rfl (fun _ _ _ _ _ _ us hl => match us, hl with | [_, _, _, _], _ => rfl)
    D_done_here := dfn_of X G c 18 39 rfl rfl (fun _ _ _ _ _ _ us hl => match us, hl with | [_, _], _ => rfl)
    D_step_at := dfn_of X G c 19 40 rfl rfl (fun _ _ _ _ _ _ us hl => match us, hl with | [_, _], _ => rfl)
    D_step := dfn_of X G c 20 41 rfl rfl (fun _ _ _ _ _ _ us hl => match us, hl with | [_], _ => rfl)
    D_still := dfn_of X G c 21 42 rfl rfl (fun _ _ _ _ _ _ us hl => match us, hl with | [_, _], _ => rfl)
    D_road_opened := dfn_of X G c 22 43 rfl rfl (fun _ _ _ _ _ _ us hl => match us, hl with | [_, _, _], _ => rfl)
    D_opened := dfn_of X G c 23 44 rfl rfl (fun _ _ _ _ _ _ us hl => match us, hl with | [_, _, _, _], _ => rfl)
    D_plain_form := dfn_of X G c 24 45 rfl rfl (fun _ _ _ _ _ _ us hl => match us, hl with | [_, _, _, _], _ => rfl)
    D__law_cell := dfn_of X G c 25 46 rfl rfl (fun _ _ _ _ _ _ us hl => match us, hl with | [_, _], _ => rfl)
    D__law_numbers := dfn_of X G c 26 47 rfl rfl (fun _ _ _ _ _ _ us hl => match us, hl with | [_, _], _ => rfl)
    D__law_names := dfn_of X G c 27 48 rfl rfl (fun _ _ _ _ _ _ us hl => match us, hl with | [_], _ => rfl)
    D__law_mix := dfn_of X G c 28 49 rfl rfl (fun _ _ _ _ _ _ us hl => match us, hl with | [_, _], _ => rfl)
    D__law_kind := dfn_of X G c 29 50 rfl rfl (fun _ _ _ _ _ _ us hl => match us, hl with | [_, _, _], _ => rfl)
    D__law_book := dfn_of X G c 30 51 rfl rfl (fun _ _ _ _ _ _ us hl => match us, hl with | [_, _, _, _], _ => rfl)
    D__law_outs := dfn_of X G c 31 52 rfl rfl (fun _ _ _ _ _ _ us hl => match us, hl with | [_], _ => rfl)
    D__law_heads := dfn_of X G c 32 53 rfl rfl (fun _ _ _ _ _ _ us hl => match us, hl with | [_, _], _ => rfl)
    D__law_gone := dfn_of X G c 33 54 rfl rfl (fun _ _ _ _ _ _ us hl => match us, hl with | [_, _, _], _ => rfl)
    D__law_options := dfn_of X G c 34 55 rfl rfl (fun _ _ _ _ _ _ us hl => match us, hl with | [_, _, _], _ => rfl)
    D__law_fit := dfn_of X G c 35 56 rfl rfl (fun _ _ _ _ _ _ us hl => match us, hl with | [_, _, _, _, _], _ => rfl)
    D__law_moved := dfn_of X G c 36 57 rfl rfl (fun _ _ _ _ _ _ us hl => match us, hl with | [_, _, _], _ => rfl)
    D__law_put := dfn_of X G c 37 58 rfl rfl (fun _ _ _ _ _ _ us hl => match us, hl with | [_, _, _, _], _ => rfl)
    D__law_step := dfn_of X G c 38 59 rfl rfl (fun _ _ _ _ _ _ us hl => match us, hl with | [_, _], _ => rfl)
    D__law_still := dfn_of X G c 39 60 rfl rfl (fun _ _ _ _ _ _ us hl => match us, hl with | [_, _], _ => rfl)
    D__law_spare := dfn_of X G c 40 61 rfl rfl (fun _ _ _ _ _ _ us hl => match us, hl with | [_, _], _ => rfl)
    D__law_grown := dfn_of X G c 41 62 rfl rfl (fun _ _ _ _ _ _ us hl => match us, hl with | [_, _, _, _], _ => rfl)
    D__law_size := dfn_of X G c 42 63 rfl rfl (fun _ _ _ _ _ _ us hl => match us, hl with | [_], _ => rfl)
    D__law_turns := dfn_of X G c 43 64 rfl rfl (fun _ _ _ _ _ _ us hl => match us, hl with | [_], _ => rfl)
    D__law_drawn := dfn_of X G c 44 65 rfl rfl (fun _ _ _ _ _ _ us hl => match us, hl with | [_, _], _ => rfl)
    D__law_more := dfn_of X G c 45 66 rfl rfl (fun _ _ _ _ _ _ us hl => match us, hl with | [_, _], _ => rfl)
    D__law_bent := dfn_of X G c 46 67 rfl rfl (fun _ _ _ _ _ _ us hl => match us, hl with | [_, _], _ => rfl)
    D__law_many_names := dfn_of X G c 47 68 rfl rfl (fun _ _ _ _ _ _ us hl => match us, hl with | [_], _ => rfl)
    D__law_kinds_right := dfn_of X G c 48 69 rfl rfl (fun _ _ _ _ _ _ us hl => match us, hl with | [_, _, _, _], _ => rfl)
    D_Agreeing_seen := dfm_of c 51 82 rfl rfl (fun _ _ _ _ _ _ us hl => match us, hl with | [_, _], _ => rfl)
    D_Agreeing_whole := dfm_of c 52 83 rfl rfl (fun _ _ _ _ _ _ us hl => match us, hl with | [_, _], _ => rfl)
    D_Agreeing_stands_in := dfm_of c 53 84 rfl rfl (fun _ _ _ _ _ _ us hl => match us, hl with | [_, _, _], _ => rfl)
    D_Agreeing_made_alike := dfm_of c 54 85 rfl rfl (fun _ _ _ _ _ _ us hl => match us, hl with | [_, _, _], _ => rfl)
    D_Agreeing_number_met := dfm_of c 55 86 rfl rfl (fun _ _ _ _ _ _ us hl => match us, hl with | [_, _, _], _ => rfl)
    D_Inferring_another := dfm_of c 57 87 rfl rfl (fun _ _ _ _ _ _ us hl => match us, hl with | [_], _ => rfl)
    D_Inferring_book_kind := dfm_of c 58 88 rfl rfl (fun _ _ _ _ _ _ us hl => match us, hl with | [_, _], _ => rfl)
    D_Inferring_same := dfm_of c 59 89 rfl rfl (fun _ _ _ _ _ _ us hl => match us, hl with | [_, _, _, _], _ => rfl)
    D_Inferring_kind_of := dfm_of c 60 90 rfl rfl (fun _ _ _ _ _ _ us hl => match us, hl with | [_, _, _, _], _ => rfl)
    D_Inferring_half_of := dfm_of c 61 91 rfl rfl (fun _ _ _ _ _ _ us hl => match us, hl with | [_, _, _, _], _ => rfl)
  }, fun s v => bL s [v] rfl⟩
end
end
end Fw
set_option Elab.async false
set_option linter.all false
set_option maxRecDepth 100000
set_option maxHeartbeats 0
namespace Fw
open PySem PySem.Spec PyProof.Rows L2 Fd
/-! ### the head: the top run once -/
abbrev hdR : PySem.W.OpenRow := PySem.W.OpenLaw.row PySem.Challenge.rw_fitdeeds_k83_whole_grown_deeds
abbrev hdK : PySem.W.Hook := He.hookX 5 faL fnL [] [] exB
def hdO (s : PySem.W.SharedT) : He.AlX := He.obsX 5 faL fnL [] [] exB (HandSHeadRun.getT s)
theorem hdO_eq (s : PySem.W.SharedT) : hdO s = hdK.obs s.abs := He.obsX_eq (HandSHeadRun.getT_eq s)
def loose0 : List Str := ["SMALL", "GREAT", "MOST_LETTERS", "is_plain_name", "is_any_name", "ONE_PART", "TWO_PARTS", "is_number", "is_begun", "is_deed", "holes_in", "spots_held", "is_whole", "moved", "FitError", "NoDeed", "NoFit", "loosened", "Agreeing", "lettered", "LETTERS", "names_used", "Inferring", "numbers_in", "can_be_asked", "infer", "fits", "ENDS", "put_for", "put_at"]
def loose1 : List Str := ["done_here", "step_at", "step", "still", "road_opened", "opened", "plain_form", "_law_cell", "_law_numbers", "_law_names", "_law_mix", "_law_kind", "_law_book", "_law_outs", "_law_heads", "_law_gone", "_law_options", "_law_fit", "_law_moved", "_law_put", "_law_step", "_law_still", "_law_spare", "_law_grown", "_law_size", "_law_turns", "_law_drawn", "_law_more", "_law_bent", "_law_many_names", "_law_kinds_right"]
def looseA : List Str := loose0 ++ loose1
theorem hd_run (w : World) : HandSHeadRun.RunEq hdR (PySem.W.view hdR.prog [69]) hdK hdO 6000 looseA w := by
  intro os
  kernel_rfl
end Fw
set_option Elab.async false
set_option linter.all false
set_option maxRecDepth 100000
set_option maxHeartbeats 0
open PySem PySem.W PySem.Calls PyProof.Rows
theorem PySem.Challenge.cw_fitdeeds_k83_whole_grown_deeds_holds : PySem.Challenge.rw_fitdeeds_k83_whole_grown_deeds.Holds := by
  w_on; o_law
  refine HandSHeadRun.head_any (r := OpenLaw.row PySem.Challenge.rw_fitdeeds_k83_whole_grown_deeds) (q := view (OpenLaw.row PySem.Challenge.rw_fitdeeds_k83_whole_grown_deeds).prog [69]) (H := Fw.hdK) (ob := Fw.hdO) (M := 6000) (loose := Fw.looseA) (d := HandSHeadRun.topDef (OpenLaw.row PySem.Challenge.rw_fitdeeds_k83_whole_grown_deeds).prog 69) (kwd := []) Fw.hdO_eq
    (by kernel_rfl) (fun s => by kernel_rfl) Fw.hd_run (by kernel_rfl) (by kernel_rfl) (by kernel_rfl) (by rfl) (by first | assumption | decide +kernel) (by decide +kernel) ⟨rfl, rfl, rfl, rfl, rfl, by decide +kernel⟩ ?hw ?hc
  case hw => w_witness2
  case hc =>
    refine L2.walk_ofE (l := PySem.Challenge.rw_fitdeeds_k83_whole_grown_deeds) (n := 63) (k := 178) (x := "_law_script") (CX := L2.CX0) rfl (by decide) (by kernel_rfl) ⟨rfl, by decide, by decide⟩ ?F (fun _ _ _ _ z => z)
    intro w mg fa h Y G hmg0
    obtain ⟨K, KX, c⟩ := Y
    have hmg : mg ("law" : PySem.Str) = some (.ref fa) := by
      have e : (HandSHeadRun.topDef (OpenLaw.row PySem.Challenge.rw_fitdeeds_k83_whole_grown_deeds).prog 69).name = ("law" : PySem.Str) := by kernel_rfl
      rw [← e]
      exact hmg0
    obtain ⟨CA, CI, fA, fI, fW, fdA, fdI, fdW, fdL, a, hb⟩ := Fw.all_of KX G c.t.d c.more hmg
    exact ⟨K, fdL, Fw.spLaw K, KX, hb, fun H p ns hl _ hS => ⟨p, ns, rfl, hS, hl, fun _ => rfl⟩, fun base _ _ => Fw.all_ok a⟩
#print axioms PySem.Challenge.cw_fitdeeds_k83_whole_grown_deeds_holds
