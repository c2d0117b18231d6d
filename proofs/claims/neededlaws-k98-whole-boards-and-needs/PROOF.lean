import PyProof.Rows.All
import Wide.All
import OpenK.AllK
import Wide.FinOn
import HandS.ForMost
import KE.KStateDown
import Lean
import HandS.Exc
import HandS.Codes
import HandS.Defaults
import HandS.ClsMeth
import HandS.Head0
import HandS.Head1
import HandS.Head2
import HandS.HeadEnd
import HandS.HeadHook1
import HandS.HeadHook2
import HandS.HeadHook4
import HandS.HeadNt
import KE.KCallOwn
import HandS.Star
import HandS.OwnEq
import HandS.Lambda
import HandS.Walk
import KE.SortUse
import HandS.SortKw
import KE.SortData
import HandS.SetTxt0
import HandS.SetFor
import HandS.Strs
import HandS.Small
import HandS.WordsDict
import HandS.RevRange
import HandS.Style
import HandS.FStr
import HandS.RaiseMore
import HandS.Deep
import HandS.IsInst
import HandS.NoneIn
import HandS.HeadWalk
import PySem.Challenge.RW_neededlaws_k98_whole_boards_and_needs
/-! The words: the free band on four letters. Plain Lean. -/
set_option autoImplicit false
set_option linter.all false
namespace NL
/-- the four leaves that the law draws -/
inductive L where
  | a | b | e | z
  deriving DecidableEq, Repr

/-! ### words that are equal by x x = x -/
/-- the least congruence of words with w w = w -/
inductive BE : List L → List L → Prop where
  | refl (u : List L) : BE u u
  | symm {u v : List L} : BE u v → BE v u
  | trans {u v w : List L} : BE u v → BE v w → BE u w
  | step (x w y : List L) : BE (x ++ (w ++ (w ++ y))) (x ++ (w ++ y))

theorem BE.ctx {u v : List L} (x y : List L) (h : BE u v) : BE (x ++ (u ++ y)) (x ++ (v ++ y)) := by
  induction h with
  | refl u => exact .refl _
  | symm _ ih => exact .symm ih
  | trans _ _ i1 i2 => exact .trans i1 i2
  | step x' w y' =>
    have := BE.step (x ++ x') w (y' ++ y)
    simpa [List.append_assoc] using this
theorem BE.left {u v : List L} (x : List L) (h : BE u v) : BE (x ++ u) (x ++ v) := by
  have := h.ctx x []
  simpa using this
theorem BE.right {u v : List L} (y : List L) (h : BE u v) : BE (u ++ y) (v ++ y) := by
  have := h.ctx [] y
  simpa using this
theorem BE.both {u v u' v' : List L} (h : BE u v) (h' : BE u' v') : BE (u ++ u') (v ++ v') := (h.right u').trans (h'.left v)
theorem BE.of_eq {u v : List L} (h : u = v) : BE u v := h ▸ .refl _
theorem BE.twice (w : List L) : BE (w ++ w) w := by
  have := BE.step [] w []
  simpa using this

theorem BE.letter {p : List L} {c : L} (h : c ∈ p) : BE (p ++ (c :: p)) p := by
  obtain ⟨u, v, rfl⟩ := List.append_of_mem h
  -- x = u c v; x is u c x
  have e1 : BE (u ++ (c :: (u ++ c :: v))) (u ++ c :: v) := by
    have := BE.step [] (u ++ [c]) v
    simpa [List.append_assoc] using this
  have e2 : BE ((u ++ c :: v) ++ (c :: (u ++ c :: v))) ((u ++ (c :: (u ++ c :: v))) ++ (c :: (u ++ c :: v))) := e1.symm.right _
  have e3 : BE ((u ++ (c :: (u ++ c :: v))) ++ (c :: (u ++ c :: v))) (u ++ (c :: (u ++ c :: v))) := by
    have := BE.step u (c :: (u ++ c :: v)) []
    simpa [List.append_assoc] using this
  exact e2.trans (e3.trans e1)

theorem BE.within (p : List L) : ∀ (r : List L), (∀ x ∈ r, x ∈ p) → BE (p ++ (r ++ p)) p := by
  suffices h : ∀ (n : Nat) (r : List L), r.length = n → (∀ x ∈ r, x ∈ p) → BE (p ++ (r ++ p)) p from fun r hr => h _ r rfl hr
  intro n
  induction n with
  | zero =>
    intro r hn hr
    obtain rfl := List.length_eq_zero_iff.mp hn
    exact BE.twice p
  | succ n ih =>
    intro r hn hr
    have hne : r ≠ [] := by intro e; subst e; simp at hn
    obtain ⟨r', c, rfl⟩ : ∃ r' c, r = r' ++ [c] := ⟨r.dropLast, r.getLast hne, (List.dropLast_concat_getLast hne).symm⟩
    have ih' := ih r' (by simpa using hn) (fun x hx => hr x (List.mem_append_left _ hx))
    have hc : c ∈ p := hr c (by simp)
    have hq : BE ((p ++ r') ++ (c :: (p ++ r'))) (p ++ r') := BE.letter (List.mem_append_left _ hc)
    -- q p = p
    have qp : BE ((p ++ r') ++ p) p := by simpa [List.append_assoc] using ih'
    have s1 : BE ((p ++ r') ++ (c :: p)) ((p ++ r') ++ (c :: ((p ++ r') ++ p))) := by
      have := qp.symm.left ((p ++ r') ++ [c])
      simpa [List.append_assoc] using this
    have s2 : BE ((p ++ r') ++ (c :: ((p ++ r') ++ p))) ((p ++ r') ++ p) := by
      have := hq.right p
      simpa [List.append_assoc] using this
    have := s1.trans (s2.trans qp)
    simpa [List.append_assoc] using this

theorem BE.middle {x y z : List L} (h1 : ∀ c ∈ y, c ∈ x) (h2 : ∀ c ∈ z, c ∈ x) (h3 : ∀ c ∈ x, c ∈ z) : BE (x ++ (y ++ z)) (x ++ z) := by
  have e1 : BE (x ++ (y ++ z) ++ (x ++ z)) (x ++ z) := by
    have := (BE.within x (y ++ z) (fun c hc => (List.mem_append.mp hc).elim (h1 c) (h2 c))).right z
    simpa [List.append_assoc] using this
  have e2 : BE (x ++ (y ++ z) ++ (x ++ z)) (x ++ (y ++ z)) := by
    have := (BE.within z x h3).left (x ++ y)
    simpa [List.append_assoc] using this
  exact e2.symm.trans e1

/-! ### the beginning and the end of a word -/
/-- p and a are what point 3.2 says of w -/
def IsPre (w p : List L) (a : L) : Prop := ∃ r, w = p ++ a :: r ∧ a ∉ p ∧ ∀ x ∈ r, x ∈ p ++ [a]
def IsSuf (w : List L) (b : L) (s : List L) : Prop := ∃ r, w = r ++ b :: s ∧ b ∉ s ∧ ∀ x ∈ r, x ∈ b :: s
theorem IsPre.rev {w p : List L} {a : L} (h : IsPre w p a) : IsSuf w.reverse a p.reverse := by
  obtain ⟨r, rfl, h1, h2⟩ := h
  refine ⟨r.reverse, by simp, by simpa using h1, fun x hx => ?_⟩
  have := h2 x (by simpa using hx)
  simp at this ⊢
  exact this.elim .inr .inl
theorem IsSuf.rev {w s : List L} {b : L} (h : IsSuf w b s) : IsPre w.reverse s.reverse b := by
  obtain ⟨r, rfl, h1, h2⟩ := h
  refine ⟨r.reverse, by simp, by simpa using h1, fun x hx => ?_⟩
  have := h2 x (by simpa using hx)
  simp at this ⊢
  exact this.elim .inr .inl
theorem IsPre.uniq {w p q : List L} {a b : L} (h : IsPre w p a) (h' : IsPre w q b) : p = q ∧ a = b := by
  obtain ⟨r, e, h1, h2⟩ := h
  obtain ⟨r', e', h1', h2'⟩ := h'
  rw [e] at e'
  rcases Nat.lt_trichotomy p.length q.length with hl | hl | hl
  · -- b lies in r
    exfalso
    rcases List.append_eq_append_iff.mp e' with ⟨c, hc, hc'⟩ | ⟨c, hc, hc'⟩
    · -- q = p ++ c, a :: r = c ++ b :: r'
      cases c with
      | nil => simp at hc; subst hc; omega
      | cons d c =>
        simp at hc'
        obtain ⟨rfl, hr⟩ := hc'
        have hb : b ∈ r := by rw [hr]; simp
        have := h2 b hb
        rw [hc] at h1'
        simp at this h1'
        rcases this with q | q
        · exact h1'.1 q
        · exact h1'.2.1 q
    · rw [hc] at hl; simp at hl; omega
  · have hh := List.append_inj e' hl
    refine ⟨hh.1, ?_⟩
    have := hh.2
    simp at this
    exact this.1
  · exfalso
    rcases List.append_eq_append_iff.mp e' with ⟨c, hc, hc'⟩ | ⟨c, hc, hc'⟩
    · rw [hc] at hl; simp at hl; omega
    · cases c with
      | nil => simp at hc; subst hc; omega
      | cons d c =>
        simp at hc'
        obtain ⟨rfl, hr⟩ := hc'
        have hb : a ∈ r' := by rw [hr]; simp
        have := h2' a hb
        rw [hc] at h1
        simp at this h1
        rcases this with q | q
        · exact h1.1 q
        · exact h1.2.1 q
theorem IsSuf.uniq {w s t : List L} {a b : L} (h : IsSuf w a s) (h' : IsSuf w b t) : a = b ∧ s = t := by
  obtain ⟨e1, e2⟩ := h.rev.uniq h'.rev
  exact ⟨e2, by simpa using e1⟩

/-- the letters of a word, each at its first place -/
def nub : List L → List L → List L
  | acc, [] => acc
  | acc, x :: r => if x ∈ acc then nub acc r else nub (acc ++ [x]) r
/-- the word ahead of the last new letter, and this letter -/
def cutAt (acc : List L) : List L → Option (List L × L)
  | [] => none
  | x :: r => match cutAt (acc ++ [x]) r with
    | some (p, c) => some (x :: p, c)
    | none => if x ∈ acc then none else some ([], x)
theorem cutAt_none : ∀ (w acc : List L), cutAt acc w = none → ∀ x ∈ w, x ∈ acc
  | [], _, _, x, hx => by simp at hx
  | y :: r, acc, h, x, hx => by
    unfold cutAt at h
    split at h
    · cases h
    · rename_i hn
      split at h
      · rename_i hy
        have ih := cutAt_none r _ hn
        rcases List.mem_cons.mp hx with rfl | hx
        · exact hy
        · have := ih x hx
          simp at this
          rcases this with q | rfl
          · exact q
          · exact hy
      · cases h
theorem cutAt_some : ∀ (w acc p : List L) (c : L), cutAt acc w = some (p, c) → ∃ r, w = p ++ c :: r ∧ c ∉ acc ++ p ∧ ∀ x ∈ r, x ∈ acc ++ p ++ [c]
  | [], _, _, _, h => by unfold cutAt at h; cases h
  | y :: r, acc, p, c, h => by
    unfold cutAt at h
    split at h
    · rename_i p' c' hs
      simp at h
      obtain ⟨rfl, rfl⟩ := h
      obtain ⟨r', e1, e2, e3⟩ := cutAt_some r _ _ _ hs
      refine ⟨r', by rw [e1]; rfl, by simpa [List.append_assoc] using e2, fun x hx => by simpa [List.append_assoc] using e3 x hx⟩
    · rename_i hn
      split at h
      · cases h
      · rename_i hy
        simp at h
        obtain ⟨rfl, rfl⟩ := h
        refine ⟨r, rfl, by simpa using hy, fun x hx => ?_⟩
        have := cutAt_none r _ hn x hx
        simpa using this
def pre (w : List L) : Option (List L × L) := cutAt [] w
theorem pre_some {w p : List L} {a : L} (h : pre w = some (p, a)) : IsPre w p a := by
  obtain ⟨r, e1, e2, e3⟩ := cutAt_some w [] p a h
  exact ⟨r, e1, by simpa using e2, fun x hx => by simpa using e3 x hx⟩
theorem pre_none {w : List L} (h : pre w = none) : w = [] := by
  cases w with
  | nil => rfl
  | cons x r =>
    have := cutAt_none _ _ h x (by simp)
    simp at this
theorem pre_of {w p : List L} {a : L} (h : IsPre w p a) : pre w = some (p, a) := by
  cases e : pre w with
  | none =>
    obtain ⟨r, e1, _⟩ := h
    rw [pre_none e] at e1
    simp at e1
  | some q =>
    obtain ⟨q, b⟩ := q
    obtain ⟨rfl, rfl⟩ := (pre_some e).uniq h
    rfl
theorem exists_pre {w : List L} (h : w ≠ []) : ∃ p a, IsPre w p a := by
  cases e : pre w with
  | none => exact absurd (pre_none e) h
  | some q => exact ⟨q.1, q.2, pre_some e⟩
def suf (w : List L) : Option (L × List L) := (pre w.reverse).map fun q => (q.2, q.1.reverse)
theorem suf_some {w s : List L} {b : L} (h : suf w = some (b, s)) : IsSuf w b s := by
  unfold suf at h
  cases e : pre w.reverse with
  | none => rw [e] at h; cases h
  | some q =>
    obtain ⟨q, c⟩ := q
    rw [e] at h
    simp at h
    obtain ⟨rfl, rfl⟩ := h
    have := (pre_some e).rev
    simpa using this
theorem suf_of {w s : List L} {b : L} (h : IsSuf w b s) : suf w = some (b, s) := by
  unfold suf
  rw [pre_of h.rev]
  simp
theorem exists_suf {w : List L} (h : w ≠ []) : ∃ b s, IsSuf w b s := by
  obtain ⟨p, a, hp⟩ := exists_pre (w := w.reverse) (by simpa using h)
  have := hp.rev
  exact ⟨a, p.reverse, by simpa using this⟩
theorem IsPre.len {w p : List L} {a : L} (h : IsPre w p a) : p.length < w.length := by
  obtain ⟨r, rfl, _⟩ := h
  simp
theorem IsSuf.len {w s : List L} {b : L} (h : IsSuf w b s) : s.length < w.length := by
  obtain ⟨r, rfl, _⟩ := h
  simp
  omega

/-! ### the greatest overlap -/
def mergeK (l r : List L) : Nat → List L
  | 0 => l ++ r
  | k + 1 => if l.drop (l.length - (k + 1)) = r.take (k + 1) then l ++ r.drop (k + 1) else mergeK l r k
def merged (l r : List L) : List L := mergeK l r (min l.length r.length)
theorem mergeK_be (l r : List L) : ∀ k, BE (mergeK l r k) (l ++ r)
  | 0 => .refl _
  | k + 1 => by
    unfold mergeK
    split
    · rename_i h
      have hl : l = l.take (l.length - (k + 1)) ++ l.drop (l.length - (k + 1)) := (List.take_append_drop _ _).symm
      have hr : r = r.take (k + 1) ++ r.drop (k + 1) := (List.take_append_drop _ _).symm
      have st := BE.step (l.take (l.length - (k + 1))) (r.take (k + 1)) (r.drop (k + 1))
      have e1 : l ++ r.drop (k + 1) = l.take (l.length - (k + 1)) ++ (r.take (k + 1) ++ r.drop (k + 1)) := by
        rw [← List.append_assoc, ← h, ← hl]
      have e2 : l ++ r = l.take (l.length - (k + 1)) ++ (r.take (k + 1) ++ (r.take (k + 1) ++ r.drop (k + 1))) := by
        rw [← hr, ← h, ← List.append_assoc, ← hl]
      rw [e1, e2]
      exact st.symm
    · exact mergeK_be l r k
theorem merged_be (l r : List L) : BE (merged l r) (l ++ r) := mergeK_be l r _

/-! ### the band form -/
def bandF : Nat → List L → List L
  | 0, _ => []
  | n + 1, w => match pre w, suf w with
    | some (p, a), some (b, s) => merged (bandF n p ++ [a]) (b :: bandF n s)
    | _, _ => []
def band (w : List L) : List L := bandF w.length w
theorem bandF_more : ∀ (n m : Nat) (w : List L), w.length ≤ n → w.length ≤ m → bandF n w = bandF m w
  | 0, m, w, h, _ => by
    have : w = [] := List.length_eq_zero_iff.mp (by omega)
    subst this
    cases m with
    | zero => rfl
    | succ m => rfl
  | n + 1, 0, w, _, h => by
    have : w = [] := List.length_eq_zero_iff.mp (by omega)
    subst this
    rfl
  | n + 1, m + 1, w, h, h' => by
    unfold bandF
    cases e : pre w with
    | none => rfl
    | some q =>
      obtain ⟨p, a⟩ := q
      cases e' : suf w with
      | none => rfl
      | some q' =>
        obtain ⟨b, s⟩ := q'
        have l1 := (pre_some e).len
        have l2 := (suf_some e').len
        show merged (bandF n p ++ [a]) (b :: bandF n s) = merged (bandF m p ++ [a]) (b :: bandF m s)
        rw [bandF_more n m p (by omega) (by omega), bandF_more n m s (by omega) (by omega)]
theorem band_nil : band [] = [] := rfl
theorem band_eq {w p s : List L} {a b : L} (h : IsPre w p a) (h' : IsSuf w b s) : band w = merged (band p ++ [a]) (b :: band s) := by
  have l1 := h.len
  have l2 := h'.len
  unfold band
  cases hn : w.length with
  | zero => omega
  | succ n =>
    rw [bandF, pre_of h, suf_of h']
    show merged (bandF n p ++ [a]) (b :: bandF n s) = _
    rw [bandF_more n p.length p (by omega) (by omega), bandF_more n s.length s (by omega) (by omega)]

theorem mem_pre {w p : List L} {a : L} (h : IsPre w p a) (x : L) : x ∈ w ↔ x ∈ p ++ [a] := by
  obtain ⟨r, rfl, h1, h2⟩ := h
  constructor
  · intro hx
    simp at hx
    rcases hx with q | q | q
    · simp [q]
    · simp [q]
    · exact h2 x q
  · intro hx
    simp at hx ⊢
    rcases hx with q | q
    · exact .inl q
    · exact .inr (.inl q)
theorem mem_suf {w s : List L} {b : L} (h : IsSuf w b s) (x : L) : x ∈ w ↔ x ∈ b :: s := by
  obtain ⟨r, rfl, h1, h2⟩ := h
  constructor
  · intro hx
    rcases List.mem_append.mp hx with q | q
    · exact h2 x q
    · exact q
  · intro hx
    exact List.mem_append_right _ hx

/-- a word is band-alike to its form -/
theorem band_sound : ∀ (n : Nat) (w : List L), w.length ≤ n → BE w (band w) := by
  intro n
  induction n with
  | zero =>
    intro w h
    have : w = [] := List.length_eq_zero_iff.mp (by omega)
    subst this
    exact .refl _
  | succ n ih =>
    intro w h
    by_cases hw : w = []
    · subst hw; exact .refl _
    obtain ⟨p, a, hp⟩ := exists_pre hw
    obtain ⟨b, s, hs⟩ := exists_suf hw
    have l1 := hp.len
    have l2 := hs.len
    rw [band_eq hp hs]
    have e1 : BE w ((p ++ [a]) ++ (b :: s)) := by
      obtain ⟨r1, q1, _, _⟩ := id hp
      obtain ⟨r2, q2, _, _⟩ := id hs
      have m : BE ((p ++ [a]) ++ ((r1 ++ r2) ++ (b :: s))) ((p ++ [a]) ++ (b :: s)) := by
        refine BE.middle (fun c hc => ?_) (fun c hc => ?_) (fun c hc => ?_)
        · refine (mem_pre hp c).mp ?_
          rcases List.mem_append.mp hc with q | q
          · rw [q1]; simp [q]
          · rw [q2]; simp [q]
        · exact (mem_pre hp c).mp ((mem_suf hs c).mpr hc)
        · exact (mem_suf hs c).mp ((mem_pre hp c).mpr hc)
      have t : BE w (w ++ w) := (BE.twice w).symm
      have eq : w ++ w = (p ++ [a]) ++ ((r1 ++ r2) ++ (b :: s)) := by
        conv => lhs; arg 1; rw [q1]
        conv => lhs; arg 2; rw [q2]
        simp [List.append_assoc]
      rw [eq] at t
      exact t.trans m
    have e2 : BE ((p ++ [a]) ++ (b :: s)) ((band p ++ [a]) ++ (b :: band s)) := by
      have h1 := (ih p (by omega)).right [a]
      have h2 := (ih s (by omega)).left [b]
      exact h1.both (by simpa using h2)
    exact e1.trans (e2.trans (merged_be _ _).symm)
theorem BE.band (w : List L) : BE w (band w) := band_sound _ w (Nat.le_refl _)

/-- the beginnings of x w w y and x w y -/
theorem step_pre {x w y p : List L} {a : L} (h : IsPre (x ++ (w ++ y)) p a) : IsPre (x ++ (w ++ (w ++ y))) p a ∨ ∃ y', p = x ++ (w ++ y') ∧ IsPre (x ++ (w ++ (w ++ y))) (x ++ (w ++ (w ++ y'))) a := by
  obtain ⟨r, e, h1, h2⟩ := h
  rw [← List.append_assoc] at e
  rcases List.append_eq_append_iff.mp e with ⟨c, hc, hc'⟩ | ⟨c, hc, hc'⟩
  · -- p = (x ++ w) ++ c, y = c ++ a :: r
    right
    refine ⟨c, by rw [hc, List.append_assoc], r, by rw [hc']; simp [List.append_assoc], ?_, fun q hq => ?_⟩
    · intro hm
      apply h1
      rw [hc]
      grind
    · have := h2 q hq
      rw [hc] at this
      grind
  · -- x ++ w = p ++ c, a :: r = c ++ y
    cases c with
    | nil =>
      -- p = x ++ w, y = a :: r
      right
      simp at hc hc'
      refine ⟨[], by rw [← hc]; simp, r, by rw [← hc']; simp [List.append_assoc], ?_, fun q hq => ?_⟩
      · intro hm
        apply h1
        rw [← hc]
        grind
      · have := h2 q hq
        rw [← hc] at this
        grind
    | cons d c =>
      left
      simp at hc'
      obtain ⟨rfl, hr⟩ := hc'
      refine ⟨c ++ (w ++ y), ?_, h1, fun q hq => ?_⟩
      · rw [← List.append_assoc, hc]
        simp [List.append_assoc]
      · rcases List.mem_append.mp hq with k | k
        · exact h2 q (by rw [hr]; simp [k])
        · rcases List.mem_append.mp k with k | k
          · have hm : q ∈ x ++ w := List.mem_append_right _ k
            rw [hc] at hm
            have h3 := h2 q
            rw [hr] at h3
            grind
          · exact h2 q (by rw [hr]; simp [k])
theorem step_suf {x w y s : List L} {b : L} (h : IsSuf (x ++ (w ++ y)) b s) : IsSuf (x ++ (w ++ (w ++ y))) b s ∨ ∃ x', s = x' ++ (w ++ y) ∧ IsSuf (x ++ (w ++ (w ++ y))) b (x' ++ (w ++ (w ++ y))) := by
  have h' : IsPre (y.reverse ++ (w.reverse ++ x.reverse)) s.reverse b := by
    have := h.rev
    simpa [List.append_assoc] using this
  rcases step_pre h' with k | ⟨y', e, k⟩
  · left
    have := k.rev
    simpa [List.append_assoc] using this
  · right
    refine ⟨y'.reverse, ?_, ?_⟩
    · have := congrArg List.reverse e
      simpa [List.append_assoc] using this
    · have := k.rev
      simpa [List.append_assoc] using this
theorem band_step : ∀ (n : Nat) (x w y : List L), (x ++ (w ++ y)).length ≤ n → band (x ++ (w ++ (w ++ y))) = band (x ++ (w ++ y)) := by
  intro n
  induction n with
  | zero =>
    intro x w y h
    simp at h
    obtain ⟨rfl, rfl, rfl⟩ := h
    rfl
  | succ n ih =>
    intro x w y h
    by_cases hw : x ++ (w ++ y) = []
    · simp at hw
      obtain ⟨rfl, rfl, rfl⟩ := hw
      rfl
    obtain ⟨p, a, hp⟩ := exists_pre hw
    obtain ⟨b, s, hs⟩ := exists_suf hw
    have l1 := hp.len
    have l2 := hs.len
    obtain ⟨p', hp', ep⟩ : ∃ p', IsPre (x ++ (w ++ (w ++ y))) p' a ∧ band p' = band p := by
      rcases step_pre hp with k | ⟨y', e, k⟩
      · exact ⟨p, k, rfl⟩
      · refine ⟨_, k, ?_⟩
        rw [e]
        exact ih x w y' (by rw [← e]; omega)
    obtain ⟨s', hs', es⟩ : ∃ s', IsSuf (x ++ (w ++ (w ++ y))) b s' ∧ band s' = band s := by
      rcases step_suf hs with k | ⟨x', e, k⟩
      · exact ⟨s, k, rfl⟩
      · refine ⟨_, k, ?_⟩
        rw [e]
        exact ih x' w y (by rw [← e]; omega)
    rw [band_eq hp hs, band_eq hp' hs', ep, es]
/-- words that are equal by x x = x have the same form -/
theorem BE.band_eq {u v : List L} (h : BE u v) : NL.band u = NL.band v := by
  induction h with
  | refl u => rfl
  | symm _ ih => exact ih.symm
  | trans _ _ i1 i2 => exact i1.trans i2
  | step x w y => exact band_step _ x w y (Nat.le_refl _)
theorem band_iff {u v : List L} : band u = band v ↔ BE u v :=
  ⟨fun h => (BE.band u).trans ((BE.of_eq h).trans (BE.band v).symm), BE.band_eq⟩
theorem band_app {u v u' v' : List L} (h : band u = band v) (h' : band u' = band v') : band (u ++ u') = band (v ++ v') :=
  ((band_iff.mp h).both (band_iff.mp h')).band_eq
theorem band_twice (u : List L) : band (u ++ u) = band u := (BE.twice u).band_eq
theorem BE.mem {u v : List L} (h : BE u v) (x : L) : x ∈ u ↔ x ∈ v := by
  induction h with
  | refl u => exact Iff.rfl
  | symm _ ih => exact ih.symm
  | trans _ _ i1 i2 => exact i1.trans i2
  | step p w y => simp
theorem mem_band (w : List L) (x : L) : x ∈ band w ↔ x ∈ w := ((BE.band w).mem x).symm
end NL
set_option autoImplicit false
set_option linter.all false
namespace NL
/-! Ways, sets of rules, plain forms; a larger set of rules makes more ways alike. Plain Lean. -/
def L.code : L → Nat
  | .a => 97 | .b => 98 | .e => 101 | .z => 122
theorem L.code_inj {x y : L} (h : x.code = y.code) : x = y := by
  cases x <;> cases y <;> first | rfl | (exact absurd h (by decide))

inductive Tree where
  | lf (x : L)
  | nd (l r : Tree)
  deriving DecidableEq
namespace Tree
/-- the codes of a way's text -/
def txt : Tree → List Nat
  | lf x => [x.code]
  | nd l r => 40 :: (l.txt ++ 32 :: (r.txt ++ [41]))
def leaves : Tree → List L
  | lf x => [x]
  | nd l r => l.leaves ++ r.leaves
def size : Tree → Nat
  | lf _ => 1
  | nd l r => l.size + r.size
def depth : Tree → Nat
  | lf _ => 0
  | nd l r => max l.depth r.depth + 1
theorem leaves_ne : ∀ t : Tree, t.leaves ≠ []
  | lf x => by simp [leaves]
  | nd l r => by simp [leaves, leaves_ne l]
theorem leaves_len : ∀ t : Tree, t.leaves.length = t.size
  | lf x => rfl
  | nd l r => by simp [leaves, size, leaves_len l, leaves_len r]
theorem size_pos : ∀ t : Tree, 1 ≤ t.size
  | lf x => Nat.le_refl 1
  | nd l r => Nat.le_trans (size_pos l) (Nat.le_add_right _ _)
theorem depth_lt : ∀ t : Tree, t.depth < t.size
  | lf x => Nat.lt_succ_self 0
  | nd l r => by
    have h1 := depth_lt l
    have h2 := depth_lt r
    have h3 := size_pos l
    have h4 := size_pos r
    simp only [depth, size]
    omega
theorem txt_len : ∀ t : Tree, t.txt.length + 3 = 4 * t.size
  | lf x => rfl
  | nd l r => by
    have h1 := txt_len l
    have h2 := txt_len r
    simp only [txt, size, List.length_cons, List.length_append, List.length_nil]
    omega
theorem txt_pos (t : Tree) : 0 < t.txt.length := by
  have := txt_len t
  have := size_pos t
  omega
theorem code_ne (x : L) : x.code ≠ 40 := by cases x <;> decide
/-- a text is followed by nothing, a blank or a closing sign: then its way can be read off -/
theorem txt_app : ∀ (s t : Tree) (u v : List Nat), s.txt ++ u = t.txt ++ v → s = t ∧ u = v
  | lf x, lf y, u, v, h => by
    simp [txt] at h
    exact ⟨by rw [L.code_inj h.1], h.2⟩
  | lf x, nd l r, u, v, h => by
    simp [txt] at h
    exact absurd h.1 (code_ne x)
  | nd l r, lf x, u, v, h => by
    simp [txt] at h
    exact absurd h.1.symm (code_ne x)
  | nd l r, nd l' r', u, v, h => by
    simp [txt] at h
    obtain ⟨h1, h2⟩ := txt_app l l' _ _ h
    simp at h2
    obtain ⟨h3, h4⟩ := txt_app r r' _ _ h2
    simp at h4
    exact ⟨by rw [h1, h3], h4⟩
theorem txt_inj {s t : Tree} (h : s.txt = t.txt) : s = t := (txt_app s t [] [] (by rw [h])).1
theorem txt_iff {s t : Tree} : s.txt = t.txt ↔ s = t := ⟨txt_inj, fun h => by rw [h]⟩
end Tree
open Tree

/-! ### sets of rules -/
structure RS where
  a : Bool
  c : Bool
  i : Bool
  u : Bool
  z : Bool
  deriving DecidableEq, Repr
/-- every rule of the first set is in the second -/
def RS.le (R S : RS) : Bool := (!R.a || S.a) && (!R.c || S.c) && (!R.i || S.i) && (!R.u || S.u) && (!R.z || S.z)
theorem RS.le_iff {R S : RS} : R.le S = true ↔ ((R.a = true → S.a = true) ∧ (R.c = true → S.c = true) ∧ (R.i = true → S.i = true) ∧ (R.u = true → S.u = true) ∧ (R.z = true → S.z = true)) := by
  cases R; cases S
  simp only [RS.le, Bool.or_eq_true, Bool.and_eq_true]
  grind

/-! ### the form of a way without A -/
/-- the texts' order -/
def ltx (f g : Tree) : Bool := decide (f.txt < g.txt)
theorem ltx_total {f g : Tree} (h1 : ltx f g = false) (h2 : ltx g f = false) : f = g := by
  have a1 : ¬ f.txt < g.txt := of_decide_eq_false h1
  have a2 : ¬ g.txt < f.txt := of_decide_eq_false h2
  exact txt_inj (List.le_antisymm a2 a1)
theorem ltx_asymm {f g : Tree} (h1 : ltx f g = true) : ltx g f = false := by
  have a1 : f.txt < g.txt := of_decide_eq_true h1
  exact decide_eq_false (List.lt_asymm a1)
def joinF (R : RS) (f g : Tree) : Tree :=
  if R.z = true ∧ (f = lf .z ∨ g = lf .z) then lf .z
  else if R.u = true ∧ f = lf .e then g
  else if R.u = true ∧ g = lf .e then f
  else if R.i = true ∧ f = g then f
  else if R.c = true ∧ ltx g f = true then nd g f
  else nd f g
def tform (R : RS) : Tree → Tree
  | lf x => lf x
  | nd l r => joinF R (tform R l) (tform R r)
theorem joinF_comm {R : RS} (h : R.c = true) (f g : Tree) : joinF R f g = joinF R g f := by
  unfold joinF
  by_cases h1 : R.z = true ∧ (f = lf .z ∨ g = lf .z)
  · rw [if_pos h1, if_pos (by exact ⟨h1.1, h1.2.symm⟩)]
  · have h1' : ¬ (R.z = true ∧ (g = lf .z ∨ f = lf .z)) := fun q => h1 ⟨q.1, q.2.symm⟩
    rw [if_neg h1, if_neg h1']
    by_cases h2 : R.u = true ∧ f = lf .e
    · by_cases h3 : R.u = true ∧ g = lf .e
      · rw [if_pos h2, if_pos h3, h2.2, h3.2]
      · rw [if_pos h2, if_neg h3, if_pos h2]
    · by_cases h3 : R.u = true ∧ g = lf .e
      · rw [if_neg h2, if_pos h3, if_pos h3]
      · rw [if_neg h2, if_neg h3, if_neg h3, if_neg h2]
        by_cases h4 : R.i = true ∧ f = g
        · rw [if_pos h4, if_pos ⟨h4.1, h4.2.symm⟩, h4.2]
        · have h4' : ¬ (R.i = true ∧ g = f) := fun q => h4 ⟨q.1, q.2.symm⟩
          rw [if_neg h4, if_neg h4']
          cases e1 : ltx g f with
          | true =>
            rw [if_pos ⟨h, rfl⟩, if_neg (fun q => by rw [ltx_asymm e1] at q; exact absurd q.2 (by decide))]
          | false =>
            rw [if_neg (fun q => absurd q.2 (by decide))]
            cases e2 : ltx f g with
            | true => rw [if_pos ⟨h, rfl⟩]
            | false =>
              rw [if_neg (fun q => absurd q.2 (by decide)), ltx_total e1 e2]
theorem joinF_same {R : RS} (h : R.i = true) (f : Tree) : joinF R f f = f := by
  unfold joinF
  by_cases h1 : R.z = true ∧ (f = lf .z ∨ f = lf .z)
  · rw [if_pos h1, h1.2.elim id id]
  · rw [if_neg h1]
    by_cases h2 : R.u = true ∧ f = lf .e
    · rw [if_pos h2]
    · rw [if_neg h2, if_neg h2, if_pos ⟨h, rfl⟩]
theorem joinF_e {R : RS} (h : R.u = true) (f : Tree) : joinF R f (lf .e) = f := by
  unfold joinF
  by_cases h1 : R.z = true ∧ (f = lf .z ∨ (lf .e : Tree) = lf .z)
  · rw [if_pos h1]
    rcases h1.2 with q | q
    · exact q.symm
    · exact absurd q (by decide)
  · rw [if_neg h1]
    by_cases h2 : R.u = true ∧ f = lf .e
    · rw [if_pos h2, h2.2]
    · rw [if_neg h2, if_pos ⟨h, rfl⟩]
theorem joinF_e' {R : RS} (h : R.u = true) (f : Tree) : joinF R (lf .e) f = f := by
  unfold joinF
  by_cases h1 : R.z = true ∧ ((lf .e : Tree) = lf .z ∨ f = lf .z)
  · rw [if_pos h1]
    rcases h1.2 with q | q
    · exact absurd q (by decide)
    · exact q.symm
  · rw [if_neg h1, if_pos ⟨h, rfl⟩]
theorem joinF_z {R : RS} (h : R.z = true) (f : Tree) : joinF R f (lf .z) = lf .z := by
  unfold joinF
  rw [if_pos ⟨h, .inr rfl⟩]
theorem joinF_z' {R : RS} (h : R.z = true) (f : Tree) : joinF R (lf .z) f = lf .z := by
  unfold joinF
  rw [if_pos ⟨h, .inl rfl⟩]

/-! ### the form of a word with A -/
/-- the words in order: how often each letter stands -/
def sortL (w : List L) : List L := List.replicate (w.count .a) .a ++ (List.replicate (w.count .b) .b ++ (List.replicate (w.count .e) .e ++ List.replicate (w.count .z) .z))
/-- each letter once, in order -/
def setL (w : List L) : List L := [L.a, L.b, L.e, L.z].filter fun x => decide (x ∈ w)
def core (R : RS) (w : List L) : List L := if R.c = true ∧ R.i = true then setL w else if R.c = true then sortL w else if R.i = true then band w else w
def noE (w : List L) : List L := w.filter fun x => decide (x ≠ .e)
def wform (R : RS) (w : List L) : List L :=
  if R.z = true ∧ L.z ∈ w then [.z]
  else if R.u = true then (if noE w = [] then [.e] else core R (noE w))
  else core R w
theorem mem_setL (w : List L) (x : L) : x ∈ setL w ↔ x ∈ w := by
  unfold setL
  rw [List.mem_filter]
  constructor
  · intro h
    exact of_decide_eq_true h.2
  · intro h
    exact ⟨by cases x <;> simp, decide_eq_true h⟩
theorem mem_sortL (w : List L) (x : L) : x ∈ sortL w ↔ x ∈ w := by
  unfold sortL
  simp only [List.mem_append, List.mem_replicate]
  constructor
  · intro h
    rcases h with ⟨h, rfl⟩ | ⟨h, rfl⟩ | ⟨h, rfl⟩ | ⟨h, rfl⟩ <;> exact List.count_pos_iff.mp (Nat.pos_of_ne_zero h)
  · intro h
    have := List.count_pos_iff.mpr h
    cases x
    · exact .inl ⟨by omega, rfl⟩
    · exact .inr (.inl ⟨by omega, rfl⟩)
    · exact .inr (.inr (.inl ⟨by omega, rfl⟩))
    · exact .inr (.inr (.inr ⟨by omega, rfl⟩))
theorem mem_core (R : RS) (w : List L) (x : L) : x ∈ core R w ↔ x ∈ w := by
  unfold core
  split
  · exact mem_setL w x
  · split
    · exact mem_sortL w x
    · split
      · exact mem_band w x
      · exact Iff.rfl
theorem nil_iff {u v : List L} (h : ∀ x, x ∈ u ↔ x ∈ v) : u = [] ↔ v = [] := by
  constructor
  · intro e
    subst e
    exact List.eq_nil_iff_forall_not_mem.mpr fun x hx => by simpa using (h x).mpr hx
  · intro e
    subst e
    exact List.eq_nil_iff_forall_not_mem.mpr fun x hx => by simpa using (h x).mp hx
theorem core_nil (R : RS) (w : List L) : core R w = [] ↔ w = [] := nil_iff (mem_core R w)
theorem setL_congr {u v : List L} (h : ∀ x, x ∈ u ↔ x ∈ v) : setL u = setL v := by
  unfold setL
  congr 1
  funext x
  exact decide_eq_decide.mpr (h x)
theorem setL_iff {u v : List L} : setL u = setL v ↔ ∀ x, x ∈ u ↔ x ∈ v := by
  refine ⟨fun h x => ?_, setL_congr⟩
  rw [← mem_setL u x, h, mem_setL]
theorem sortL_count (w : List L) (x : L) : (sortL w).count x = w.count x := by
  unfold sortL
  simp only [List.count_append, List.count_replicate]
  cases x <;> simp
theorem sortL_iff {u v : List L} : sortL u = sortL v ↔ ∀ x, u.count x = v.count x := by
  refine ⟨fun h x => ?_, fun h => ?_⟩
  · rw [← sortL_count u x, h, sortL_count]
  · unfold sortL
    rw [h, h, h, h]
theorem core_app (R : RS) {u v u' v' : List L} (h : core R u = core R v) (h' : core R u' = core R v') : core R (u ++ u') = core R (v ++ v') := by
  unfold core at *
  by_cases h1 : R.c = true ∧ R.i = true
  · simp only [if_pos h1] at *
    rw [setL_iff] at *
    intro x
    simp [h x, h' x]
  · simp only [if_neg h1] at *
    by_cases h2 : R.c = true
    · simp only [if_pos h2] at *
      rw [sortL_iff] at *
      intro x
      rw [List.count_append, List.count_append, h x, h' x]
    · simp only [if_neg h2] at *
      by_cases h3 : R.i = true
      · simp only [if_pos h3] at *
        exact band_app h h'
      · simp only [if_neg h3] at *
        rw [h, h']
theorem core_comm {R : RS} (hc : R.c = true) (u v : List L) : core R (u ++ v) = core R (v ++ u) := by
  unfold core
  split
  · rw [setL_iff]
    intro x
    simp [or_comm]
  · rw [sortL_iff]
    intro x
    rw [List.count_append, List.count_append, Nat.add_comm]
theorem core_twice {R : RS} (hi : R.i = true) (u : List L) : core R (u ++ u) = core R u := by
  unfold core
  split
  · rw [setL_iff]
    intro x
    simp
  · rename_i h
    have hc : ¬ R.c = true := fun q => h ⟨q, hi⟩
    simp only [if_neg hc, if_pos hi]
    exact band_twice u

/-! ### ways that are alike -/
def AlikeW (R : RS) (u v : List L) : Prop := wform R u = wform R v
def Alike (R : RS) (s t : Tree) : Prop := if R.a = true then AlikeW R s.leaves t.leaves else tform R s = tform R t
instance (R : RS) (s t : Tree) : Decidable (Alike R s t) := by
  unfold Alike AlikeW
  infer_instance
theorem mem_noE (w : List L) (x : L) : x ∈ noE w ↔ x ∈ w ∧ x ≠ .e := by
  unfold noE
  rw [List.mem_filter]
  constructor
  · intro h
    exact ⟨h.1, of_decide_eq_true h.2⟩
  · intro h
    exact ⟨h.1, decide_eq_true h.2⟩
theorem noE_app (u v : List L) : noE (u ++ v) = noE u ++ noE v := List.filter_append ..
/-- what the form tells of a word -/
theorem wform_iff {R : RS} {u v : List L} (hu : u ≠ []) (hv : v ≠ []) : AlikeW R u v ↔
    (if R.z = true then ((L.z ∈ u ↔ L.z ∈ v) ∧ (L.z ∉ u → L.z ∉ v → core R (if R.u = true then noE u else u) = core R (if R.u = true then noE v else v)))
     else core R (if R.u = true then noE u else u) = core R (if R.u = true then noE v else v)) := by
  -- the middle part, without Z
  have mid : ∀ {u v : List L}, (if R.u = true then (if noE u = [] then [L.e] else core R (noE u)) else core R u) = (if R.u = true then (if noE v = [] then [L.e] else core R (noE v)) else core R v) ↔
      core R (if R.u = true then noE u else u) = core R (if R.u = true then noE v else v) := by
    intro u v
    by_cases h : R.u = true
    · rw [if_pos h, if_pos h, if_pos h, if_pos h]
      have ne : ∀ w : List L, L.e ∉ core R (noE w) := fun w q => by
        have := (mem_core R _ _).mp q
        exact ((mem_noE w _).mp this).2 rfl
      by_cases h1 : noE u = []
      · by_cases h2 : noE v = []
        · rw [if_pos h1, if_pos h2, h1, h2]
          exact ⟨fun _ => rfl, fun _ => rfl⟩
        · rw [if_pos h1, if_neg h2, h1, (core_nil R []).mpr rfl]
          constructor
          · intro q
            exact absurd (by rw [← q]; simp) (ne v)
          · intro q
            exact absurd ((core_nil R _).mp q.symm) h2
      · by_cases h2 : noE v = []
        · rw [if_neg h1, if_pos h2, h2, (core_nil R []).mpr rfl]
          constructor
          · intro q
            exact absurd (by rw [q]; simp) (ne u)
          · intro q
            exact absurd ((core_nil R _).mp q) h1
        · rw [if_neg h1, if_neg h2]
    · rw [if_neg h, if_neg h, if_neg h, if_neg h]
  unfold AlikeW wform
  by_cases hz : R.z = true
  · rw [if_pos hz]
    have noz : ∀ w : List L, L.z ∉ w → (if R.u = true then (if noE w = [] then [L.e] else core R (noE w)) else core R w) ≠ [L.z] := by
      intro w hw q
      have hm : L.z ∈ (if R.u = true then (if noE w = [] then [L.e] else core R (noE w)) else core R w) := by rw [q]; simp
      split at hm
      · split at hm
        · simp at hm
        · exact hw ((mem_noE w _).mp ((mem_core R _ _).mp hm)).1
      · exact hw ((mem_core R _ _).mp hm)
    by_cases h1 : L.z ∈ u
    · by_cases h2 : L.z ∈ v
      · rw [if_pos ⟨hz, h1⟩, if_pos ⟨hz, h2⟩]
        exact ⟨fun _ => ⟨⟨fun _ => h2, fun _ => h1⟩, fun q _ => absurd h1 q⟩, fun _ => rfl⟩
      · have n2 : ¬ (R.z = true ∧ L.z ∈ v) := fun q => h2 q.2
        have y1 : R.z = true ∧ L.z ∈ u := ⟨hz, h1⟩
        rw [if_pos y1, if_neg n2]
        constructor
        · intro q
          exact absurd q.symm (noz v h2)
        · intro q
          exact absurd (q.1.mp h1) h2
    · by_cases h2 : L.z ∈ v
      · have n1 : ¬ (R.z = true ∧ L.z ∈ u) := fun q => h1 q.2
        have y2 : R.z = true ∧ L.z ∈ v := ⟨hz, h2⟩
        rw [if_neg n1, if_pos y2]
        constructor
        · intro q
          exact absurd q (noz u h1)
        · intro q
          exact absurd (q.1.mpr h2) h1
      · have n1 : ¬ (R.z = true ∧ L.z ∈ u) := fun q => h1 q.2
        have n2 : ¬ (R.z = true ∧ L.z ∈ v) := fun q => h2 q.2
        rw [if_neg n1, if_neg n2, mid]
        exact ⟨fun q => ⟨⟨fun k => absurd k h1, fun k => absurd k h2⟩, fun _ _ => q⟩, fun q => q.2 h1 h2⟩
  · have n1 : ¬ (R.z = true ∧ L.z ∈ u) := fun q => hz q.1
    have n2 : ¬ (R.z = true ∧ L.z ∈ v) := fun q => hz q.1
    rw [if_neg hz, if_neg n1, if_neg n2, mid]
theorem AlikeW.app {R : RS} {u v u' v' : List L} (hu : u ≠ []) (hv : v ≠ []) (hu' : u' ≠ []) (hv' : v' ≠ []) (h : AlikeW R u v) (h' : AlikeW R u' v') : AlikeW R (u ++ u') (v ++ v') := by
  rw [wform_iff hu hv] at h
  rw [wform_iff hu' hv'] at h'
  rw [wform_iff (by simp [hu]) (by simp [hv])]
  have ap : ∀ x y : List L, (if R.u = true then noE (x ++ y) else x ++ y) = (if R.u = true then noE x else x) ++ (if R.u = true then noE y else y) := fun x y => by
    split
    · exact noE_app x y
    · rfl
  rw [ap, ap]
  by_cases hz : R.z = true
  · rw [if_pos hz] at *
    refine ⟨?_, fun h1 h2 => ?_⟩
    · rw [List.mem_append, List.mem_append, h.1, h'.1]
    · rw [List.mem_append] at h1 h2
      exact core_app R (h.2 (fun q => h1 (.inl q)) fun q => h2 (.inl q)) (h'.2 (fun q => h1 (.inr q)) fun q => h2 (.inr q))
  · rw [if_neg hz] at *
    exact core_app R h h'

/-- what point 0.4 asks of an equivalence of ways -/
structure Cong (R : RS) (E : Tree → Tree → Prop) : Prop where
  refl : ∀ t, E t t
  symm : ∀ {s t}, E s t → E t s
  trans : ∀ {s t u}, E s t → E t u → E s u
  nd : ∀ {s t s' t'}, E s t → E s' t' → E (nd s s') (nd t t')
  A : R.a = true → ∀ x y t, E (Tree.nd (Tree.nd x y) t) (Tree.nd x (Tree.nd y t))
  C : R.c = true → ∀ x y, E (Tree.nd x y) (Tree.nd y x)
  I : R.i = true → ∀ x, E (Tree.nd x x) x
  U : R.u = true → ∀ x, E (Tree.nd x (lf .e)) x ∧ E (Tree.nd (lf .e) x) x
  Z : R.z = true → ∀ x, E (Tree.nd x (lf .z)) (lf .z) ∧ E (Tree.nd (lf .z) x) (lf .z)
theorem Cong.less {R S : RS} {E : Tree → Tree → Prop} (h : R.le S = true) (c : Cong S E) : Cong R E := by
  obtain ⟨h1, h2, h3, h4, h5⟩ := RS.le_iff.mp h
  exact ⟨c.refl, c.symm, c.trans, c.nd, fun q => c.A (h1 q), fun q => c.C (h2 q), fun q => c.I (h3 q), fun q => c.U (h4 q), fun q => c.Z (h5 q)⟩
theorem alikeW_e {R : RS} (h : R.u = true) (w : List L) (hw : w ≠ []) : AlikeW R (w ++ [.e]) w ∧ AlikeW R (.e :: w) w := by
  constructor
  · rw [wform_iff (by simp) hw]
    have e : noE (w ++ [.e]) = noE w := by rw [noE_app]; simp [noE]
    by_cases hz : R.z = true
    · rw [if_pos hz, if_pos h, if_pos h, e]
      exact ⟨by simp, fun _ _ => rfl⟩
    · rw [if_neg hz, if_pos h, if_pos h, e]
  · rw [wform_iff (by simp) hw]
    have e : noE (.e :: w) = noE w := by simp [noE]
    by_cases hz : R.z = true
    · rw [if_pos hz, if_pos h, if_pos h, e]
      exact ⟨by simp, fun _ _ => rfl⟩
    · rw [if_neg hz, if_pos h, if_pos h, e]
theorem cong_alike (S : RS) : Cong S (Alike S) := by
  by_cases ha : S.a = true
  · have ev : ∀ s t, Alike S s t = AlikeW S s.leaves t.leaves := fun s t => by unfold Alike; rw [if_pos ha]
    refine ⟨fun t => ?_, fun {s t} h => ?_, fun {s t u} h h' => ?_, fun {s t s' t'} h h' => ?_, fun _ x y t => ?_, fun hc x y => ?_, fun hi x => ?_, fun hu x => ?_, fun hz x => ?_⟩
    · rw [ev]; exact rfl
    · rw [ev] at *; exact Eq.symm h
    · rw [ev] at *; exact Eq.trans h h'
    · rw [ev] at *
      exact AlikeW.app (leaves_ne _) (leaves_ne _) (leaves_ne _) (leaves_ne _) h h'
    · rw [ev]
      show AlikeW S ((x.leaves ++ y.leaves) ++ t.leaves) (x.leaves ++ (y.leaves ++ t.leaves))
      rw [List.append_assoc]
      exact rfl
    · rw [ev]
      show AlikeW S (x.leaves ++ y.leaves) (y.leaves ++ x.leaves)
      rw [wform_iff (by simp [leaves_ne]) (by simp [leaves_ne])]
      have ap : ∀ x y : List L, (if S.u = true then noE (x ++ y) else x ++ y) = (if S.u = true then noE x else x) ++ (if S.u = true then noE y else y) := fun x y => by
        split
        · exact noE_app x y
        · rfl
      rw [ap, ap]
      by_cases hz : S.z = true
      · rw [if_pos hz]
        exact ⟨by simp [or_comm], fun _ _ => core_comm hc _ _⟩
      · rw [if_neg hz]
        exact core_comm hc _ _
    · rw [ev]
      show AlikeW S (x.leaves ++ x.leaves) x.leaves
      rw [wform_iff (by simp [leaves_ne]) (leaves_ne x)]
      have ap : ∀ x y : List L, (if S.u = true then noE (x ++ y) else x ++ y) = (if S.u = true then noE x else x) ++ (if S.u = true then noE y else y) := fun x y => by
        split
        · exact noE_app x y
        · rfl
      rw [ap]
      by_cases hz : S.z = true
      · rw [if_pos hz]
        exact ⟨by simp, fun _ _ => core_twice hi _⟩
      · rw [if_neg hz]
        exact core_twice hi _
    · rw [ev, ev]
      exact alikeW_e hu x.leaves (leaves_ne x)
    · rw [ev, ev]
      have k : ∀ w : List L, L.z ∈ w → AlikeW S w [.z] := fun w hw => by
        show wform S w = wform S [.z]
        unfold wform
        rw [if_pos ⟨hz, hw⟩, if_pos ⟨hz, by simp⟩]
      exact ⟨k _ (by simp [leaves]), k _ (by simp [leaves])⟩
  · have ev : ∀ s t, Alike S s t = (tform S s = tform S t) := fun s t => by unfold Alike; rw [if_neg ha]
    refine ⟨fun t => ?_, fun {s t} h => ?_, fun {s t u} h h' => ?_, fun {s t s' t'} h h' => ?_, fun q => absurd q ha, fun hc x y => ?_, fun hi x => ?_, fun hu x => ?_, fun hz x => ?_⟩
    · rw [ev]
    · rw [ev] at *; exact h.symm
    · rw [ev] at *; exact h.trans h'
    · rw [ev] at *
      show joinF S _ _ = joinF S _ _
      rw [h, h']
    · rw [ev]; exact joinF_comm hc _ _
    · rw [ev]; exact joinF_same hi _
    · rw [ev, ev]; exact ⟨joinF_e hu _, joinF_e' hu _⟩
    · rw [ev, ev]; exact ⟨joinF_z hz _, joinF_z' hz _⟩

/-! ### a form is alike, by every such equivalence -/
section
variable {R : RS} {E : Tree → Tree → Prop}
theorem Cong.joinF (c : Cong R E) (f g : Tree) : E (Tree.nd f g) (NL.joinF R f g) := by
  unfold NL.joinF
  split
  · rename_i h
    rcases h.2 with rfl | rfl
    · exact (c.Z h.1 _).2
    · exact (c.Z h.1 _).1
  · split
    · rename_i h
      rw [h.2]; exact (c.U h.1 _).2
    · split
      · rename_i h
        rw [h.2]; exact (c.U h.1 _).1
      · split
        · rename_i h
          rw [h.2]; exact c.I h.1 _
        · split
          · rename_i h
            exact c.C h.1 _ _
          · exact c.refl _
theorem Cong.tform (c : Cong R E) : ∀ t : Tree, E t (NL.tform R t)
  | .lf x => c.refl _
  | .nd l r => c.trans (c.nd (c.tform l) (c.tform r)) (c.joinF _ _)
/-- a word as a way, from the right -/
def comb : List L → Tree
  | [] => lf .e
  | [x] => lf x
  | x :: y :: r => nd (lf x) (comb (y :: r))
theorem comb_cons (x : L) {w : List L} (h : w ≠ []) : comb (x :: w) = nd (lf x) (comb w) := by
  cases w with
  | nil => exact absurd rfl h
  | cons y r => rfl
theorem Cong.comb_app (c : Cong R E) (ha : R.a = true) : ∀ (u v : List L), u ≠ [] → v ≠ [] → E (comb (u ++ v)) (Tree.nd (comb u) (comb v))
  | [], _, h, _ => absurd rfl h
  | [x], v, _, hv => by
    show E (comb (x :: v)) _
    rw [comb_cons x hv]
    exact c.refl _
  | x :: y :: r, v, _, hv => by
    have ih := c.comb_app ha (y :: r) v (by simp) hv
    show E (Tree.nd (lf x) (comb ((y :: r) ++ v))) (Tree.nd (Tree.nd (lf x) (comb (y :: r))) (comb v))
    exact c.trans (c.nd (c.refl _) ih) (c.symm (c.A ha _ _ _))
theorem Cong.comb_leaves (c : Cong R E) (ha : R.a = true) : ∀ t : Tree, E t (comb t.leaves)
  | .lf x => c.refl _
  | .nd l r => c.trans (c.nd (c.comb_leaves ha l) (c.comb_leaves ha r)) (c.symm (c.comb_app ha _ _ (leaves_ne l) (leaves_ne r)))
/-- words that E holds for alike -/
def EW (E : Tree → Tree → Prop) (u v : List L) : Prop := E (comb u) (comb v)
theorem Cong.ew_app (c : Cong R E) (ha : R.a = true) {u v u' v' : List L} (hu : u ≠ []) (hv : v ≠ []) (hu' : u' ≠ []) (hv' : v' ≠ []) (h : EW E u v) (h' : EW E u' v') : EW E (u ++ u') (v ++ v') :=
  c.trans (c.comb_app ha u u' hu hu') (c.trans (c.nd h h') (c.symm (c.comb_app ha v v' hv hv')))
theorem Cong.ew_swap (c : Cong R E) (ha : R.a = true) (hc : R.c = true) (x y : L) (r : List L) : EW E (x :: y :: r) (y :: x :: r) := by
  have base : EW E [x, y] [y, x] := c.C hc _ _
  by_cases hr : r = []
  · subst hr; exact base
  · exact c.ew_app ha (u := [x, y]) (v := [y, x]) (by simp) (by simp) hr hr base (c.refl _)
theorem Cong.ew_cons (c : Cong R E) (ha : R.a = true) (x : L) {u v : List L} (hl : u = [] ↔ v = []) (h : EW E u v) : EW E (x :: u) (x :: v) := by
  by_cases hu : u = []
  · have hv := hl.mp hu
    subst hu hv
    exact c.refl _
  · exact c.ew_app ha (u := [x]) (v := [x]) (by simp) (by simp) hu (fun q => hu (hl.mpr q)) (c.refl _) h
theorem Cong.ew_perm (c : Cong R E) (ha : R.a = true) (hc : R.c = true) {u v : List L} (p : u.Perm v) : EW E u v := by
  induction p with
  | nil => exact c.refl _
  | cons x p ih => exact c.ew_cons ha x ⟨fun q => by subst q; exact List.nil_perm.mp p, fun q => by subst q; exact List.perm_nil.mp p⟩ ih
  | swap x y l => exact c.ew_swap ha hc y x l
  | trans _ _ i1 i2 => exact c.trans i1 i2
theorem Cong.ew_be (c : Cong R E) (ha : R.a = true) (hi : R.i = true) {u v : List L} (h : BE u v) : EW E u v := by
  induction h with
  | refl u => exact c.refl _
  | symm _ ih => exact c.symm ih
  | trans _ _ i1 i2 => exact c.trans i1 i2
  | step x w y =>
    by_cases hw : w = []
    · subst hw; exact c.refl _
    have dbl : EW E (w ++ w) w := c.trans (c.comb_app ha w w hw hw) (c.I hi _)
    have r1 : EW E (w ++ (w ++ y)) (w ++ y) := by
      by_cases hy : y = []
      · subst hy; simpa using dbl
      · have := c.ew_app ha (u := w ++ w) (v := w) (by simp [hw]) hw hy hy dbl (c.refl _)
        simpa [List.append_assoc] using this
    by_cases hx : x = []
    · subst hx; exact r1
    · exact c.ew_app ha hx hx (by simp [hw]) (by simp [hw]) (c.refl _) r1
theorem perm_sortL (w : List L) : w.Perm (sortL w) := List.perm_iff_count.mpr fun x => (sortL_count w x).symm
theorem Cong.ew_dup (c : Cong R E) (ha : R.a = true) (hi : R.i = true) (hc : R.c = true) (x : L) {u : List L} (h : x ∈ u) : EW E (x :: u) u := by
  obtain ⟨p, q, rfl⟩ := List.append_of_mem h
  have p1 : (x :: (p ++ x :: q)).Perm ([x, x] ++ (p ++ q)) := by
    simpa using List.perm_middle.cons x
  have p2 : (x :: (p ++ q)).Perm (p ++ x :: q) := List.perm_middle.symm
  have m : EW E ([x, x] ++ (p ++ q)) ([x] ++ (p ++ q)) := by
    by_cases hn : p ++ q = []
    · rw [hn]; exact c.I hi _
    · exact c.ew_app ha (by simp) (by simp) hn hn (c.I hi (lf x)) (c.refl _)
  exact c.trans (c.ew_perm ha hc p1) (c.trans m (c.ew_perm ha hc p2))
theorem Cong.ew_setL (c : Cong R E) (ha : R.a = true) (hi : R.i = true) (hc : R.c = true) : ∀ w : List L, EW E w (setL w)
  | [] => c.refl _
  | x :: r => by
    have ih := c.ew_setL ha hi hc r
    have h1 : EW E (x :: r) (x :: setL r) := c.ew_cons ha x (nil_iff fun y => (mem_setL r y).symm) ih
    by_cases hx : x ∈ r
    · have e : setL (x :: r) = setL r := setL_congr fun y => by
        constructor
        · intro h
          rcases List.mem_cons.mp h with rfl | h
          · exact hx
          · exact h
        · intro h
          exact List.mem_cons_of_mem _ h
      rw [e]
      exact c.trans h1 (c.ew_dup ha hi hc x ((mem_setL r x).mpr hx))
    · refine c.trans h1 (c.ew_perm ha hc ?_)
      refine List.perm_iff_count.mpr fun y => ?_
      have nd : ∀ w : List L, (setL w).count y = if y ∈ w then 1 else 0 := fun w => by
        unfold setL
        by_cases h1 : L.a ∈ w <;> by_cases h2 : L.b ∈ w <;> by_cases h3 : L.e ∈ w <;> by_cases h4 : L.z ∈ w <;> cases y <;> simp [List.filter, h1, h2, h3, h4]
      rw [nd, List.count_cons, nd]
      by_cases hy : y = x
      · subst hy; simp [hx]
      · have : ¬ x = y := fun q => hy q.symm
        simp [hy, this]
theorem Cong.ew_core (c : Cong R E) (ha : R.a = true) (w : List L) : EW E w (core R w) := by
  unfold core
  split
  · rename_i h
    exact c.ew_setL ha h.2 h.1 w
  · split
    · rename_i h
      exact c.ew_perm ha h (perm_sortL w)
    · split
      · rename_i h
        exact c.ew_be ha h (BE.band w)
      · exact c.refl _
theorem Cong.ew_z (c : Cong R E) (ha : R.a = true) (hz : R.z = true) {w : List L} (h : L.z ∈ w) : EW E w [.z] := by
  obtain ⟨p, q, rfl⟩ := List.append_of_mem h
  have r : EW E (L.z :: q) [.z] := by
    by_cases hq : q = []
    · subst hq; exact c.refl _
    · exact c.trans (by
        have := c.comb_app ha [L.z] q (by simp) hq
        exact this) (c.Z hz _).2
  by_cases hp : p = []
  · subst hp; exact r
  · exact c.trans (c.ew_app ha (u := p) (v := p) (v' := [L.z]) hp hp (by simp) (by simp) (c.refl _) r) (c.trans (c.comb_app ha p [L.z] hp (by simp)) (c.Z hz _).1)
theorem Cong.ew_noE (c : Cong R E) (ha : R.a = true) (hu : R.u = true) : ∀ w : List L, w ≠ [] → EW E w (if noE w = [] then [.e] else noE w)
  | [], h => absurd rfl h
  | [x], _ => by
    by_cases hx : x = .e
    · subst hx
      exact c.refl _
    · have : noE [x] = [x] := by simp [noE, hx]
      rw [this]
      exact c.refl _
  | x :: y :: r, _ => by
    have ih := c.ew_noE ha hu (y :: r) (by simp)
    by_cases hx : x = .e
    · subst hx
      have e : noE (L.e :: y :: r) = noE (y :: r) := by simp [noE]
      rw [e]
      exact c.trans (c.U hu (comb (y :: r))).2 ih
    · have e : noE (x :: y :: r) = x :: noE (y :: r) := by
        show List.filter _ _ = _
        rw [List.filter_cons, if_pos (decide_eq_true hx)]
        rfl
      rw [e, if_neg (by simp)]
      by_cases hn : noE (y :: r) = []
      · rw [if_pos hn] at ih
        rw [hn]
        exact c.trans (c.nd (c.refl (lf x)) ih) (c.U hu (lf x)).1
      · rw [if_neg hn] at ih
        exact c.ew_cons ha x ⟨fun q => by simp at q, fun q => absurd q hn⟩ ih
theorem Cong.ew_wform (c : Cong R E) (ha : R.a = true) {w : List L} (hw : w ≠ []) : EW E w (wform R w) := by
  unfold wform
  split
  · rename_i h
    exact c.ew_z ha h.1 h.2
  · split
    · rename_i h
      have h1 := c.ew_noE ha h w hw
      split
      · rename_i hn
        rw [if_pos hn] at h1
        exact h1
      · rename_i hn
        rw [if_neg hn] at h1
        exact c.trans h1 (c.ew_core ha _)
    · exact c.ew_core ha w
/-- ways with one form are equivalent -/
theorem Cong.of_alike (c : Cong R E) {s t : Tree} (h : Alike R s t) : E s t := by
  unfold Alike at h
  split at h
  · rename_i ha
    have h1 := c.trans (c.comb_leaves ha s) (c.ew_wform ha (leaves_ne s))
    have h2 := c.trans (c.comb_leaves ha t) (c.ew_wform ha (leaves_ne t))
    have h' : wform R s.leaves = wform R t.leaves := h
    rw [h'] at h1
    exact c.trans h1 (c.symm h2)
  · have h1 := c.tform s
    rw [h] at h1
    exact c.trans h1 (c.symm (c.tform t))
end
/-- MORE RULES, MORE ALIKE -/
theorem Alike.mono {R S : RS} (h : R.le S = true) {s t : Tree} (q : Alike R s t) : Alike S s t := ((cong_alike S).less h).of_alike q
end NL
/-! How many letters a word has; its beginning, found letter by letter; the letters in the order of their first place. -/
set_option linter.all false
namespace NL
def dif (w : List L) : Nat := (setL w).length
def ind (p : Prop) [Decidable p] : Nat := if p then 1 else 0
theorem dif_eq (w : List L) : dif w = ind (L.a ∈ w) + (ind (L.b ∈ w) + (ind (L.e ∈ w) + ind (L.z ∈ w))) := by
  unfold dif setL ind
  by_cases h1 : L.a ∈ w <;> by_cases h2 : L.b ∈ w <;> by_cases h3 : L.e ∈ w <;> by_cases h4 : L.z ∈ w <;> simp [List.filter, h1, h2, h3, h4]
theorem ind_le {p q : Prop} [Decidable p] [Decidable q] (h : p → q) : ind p ≤ ind q := by
  unfold ind
  by_cases hp : p
  · simp [hp, h hp]
  · simp [hp]
theorem ind_eq {p q : Prop} [Decidable p] [Decidable q] (h : p ↔ q) : ind p = ind q := Nat.le_antisymm (ind_le h.mp) (ind_le h.mpr)
theorem ind_lt {p q : Prop} [Decidable p] [Decidable q] (h : ¬ p) (k : q) : ind p < ind q := by
  unfold ind
  simp [h, k]
theorem dif_congr {u v : List L} (h : ∀ x, x ∈ u ↔ x ∈ v) : dif u = dif v := by
  unfold dif
  rw [setL_congr h]
theorem dif_mono {u v : List L} (h : ∀ x ∈ u, x ∈ v) : dif u ≤ dif v := by
  rw [dif_eq, dif_eq]
  exact Nat.add_le_add (ind_le (h _)) (Nat.add_le_add (ind_le (h _)) (Nat.add_le_add (ind_le (h _)) (ind_le (h _))))
theorem dif_lt {u v : List L} (h : ∀ x ∈ u, x ∈ v) {y : L} (n : y ∉ u) (m : y ∈ v) : dif u < dif v := by
  rw [dif_eq, dif_eq]
  have a := ind_le (h .a)
  have b := ind_le (h .b)
  have e := ind_le (h .e)
  have z := ind_le (h .z)
  have q := ind_lt n m
  cases y <;> omega
theorem dif_full {u v : List L} (h : ∀ x ∈ u, x ∈ v) (e : dif u = dif v) : ∀ x ∈ v, x ∈ u := fun x hx => Classical.byContradiction fun n => by
  have := dif_lt h n hx
  omega
theorem dif_snoc (u : List L) (x : L) : dif (u ++ [x]) = if x ∈ u then dif u else dif u + 1 := by
  split
  · rename_i h
    refine dif_congr fun y => ?_
    rw [List.mem_append, List.mem_singleton]
    exact ⟨fun q => q.elim id fun q => q ▸ h, .inl⟩
  · rename_i h
    rw [dif_eq, dif_eq]
    unfold ind
    simp only [List.mem_append, List.mem_singleton]
    cases x <;> simp [h] <;> omega
theorem dif_pos {w : List L} (h : w ≠ []) : 0 < dif w := by
  cases w with
  | nil => exact absurd rfl h
  | cons x r => exact Nat.lt_of_le_of_lt (Nat.zero_le (dif [])) (dif_lt (fun y q => absurd q (by simp)) (y := x) (by simp) (by simp))
theorem pre_at {w : List L} {i : Nat} {x : L} (hi : w[i]? = some x) (h1 : dif (w.take i) ≠ dif w) (h2 : dif (w.take (i + 1)) = dif w) : IsPre w (w.take i) x := by
  have e1 : w.take (i + 1) = w.take i ++ [x] := by
    rw [List.take_add_one, hi]
    rfl
  have e2 : w = w.take i ++ x :: w.drop (i + 1) := by
    have := List.take_append_drop (i + 1) w
    rw [e1, List.append_assoc] at this
    exact this.symm
  refine ⟨w.drop (i + 1), e2, fun hx => ?_, fun y hy => ?_⟩
  · rw [e1, dif_snoc, if_pos hx] at h2
    exact h1 h2
  · rw [← e1]
    exact dif_full (fun z hz => List.mem_of_mem_take hz) h2 y (List.mem_of_mem_drop hy)
theorem pre_ne {w p : List L} {a : L} (h : IsPre w p a) (h1 : dif w ≠ 1) : p ≠ [] := by
  obtain ⟨r, rfl, _, h3⟩ := h
  intro e
  subst e
  refine h1 ?_
  have : dif ([] ++ a :: r) = dif [a] := dif_congr fun y => ⟨fun q => by
    simp at q ⊢
    exact q.elim id fun q => by simpa using h3 y q, fun q => by
    simp at q ⊢
    exact .inl q⟩
  rw [this]
  cases a <;> rfl
theorem suf_ne {w s : List L} {b : L} (h : IsSuf w b s) (h1 : dif w ≠ 1) : s ≠ [] := by
  have q := pre_ne h.rev (by rw [dif_congr (v := w) (by simp)]; exact h1)
  intro e
  exact q (by rw [e]; rfl)
theorem band_one {w : List L} {x : L} (h : dif w = 1) (h0 : w[0]? = some x) : band w = [x] := by
  cases w with
  | nil => simp at h0
  | cons y r =>
    simp at h0
    subst h0
    have all : ∀ z ∈ y :: r, z ∈ [y] := dif_full (u := [y]) (v := y :: r) (fun z hz => by simp at hz; simp [hz]) (by rw [h]; cases y <;> rfl)
    have p1 : IsPre (y :: r) [] y := ⟨r, rfl, by simp, fun z hz => all z (by simp [hz])⟩
    have s1 : IsSuf (y :: r) y [] := by
      have q : IsPre (y :: r).reverse [] y := by
        cases hr : (y :: r).reverse with
        | nil => simp at hr
        | cons v t =>
          have m : ∀ k ∈ v :: t, k ∈ [y] := fun k hk => all k (List.mem_reverse.mp (hr ▸ hk))
          have hv : v = y := by simpa using m v (by simp)
          subst hv
          exact ⟨t, rfl, by simp, fun k hk => m k (by simp [hk])⟩
      simpa using q.rev
    rw [band_eq p1 s1]
    show mergeK [y] [y] 1 = [y]
    unfold mergeK
    simp
theorem dif_pre {w p : List L} {a : L} (h : IsPre w p a) : dif p < dif w := by
  obtain ⟨r, rfl, h1, _⟩ := h
  exact dif_lt (fun y hy => by simp [hy]) h1 (by simp)
theorem dif_suf {w s : List L} {b : L} (h : IsSuf w b s) : dif s < dif w := by
  obtain ⟨r, rfl, h1, _⟩ := h
  exact dif_lt (fun y hy => by simp [hy]) h1 (by simp)
theorem mergeK_len (l r : List L) : ∀ k, (mergeK l r k).length ≤ l.length + r.length
  | 0 => by simp [mergeK]
  | k + 1 => by
    unfold mergeK
    split
    · rw [List.length_append, List.length_drop]; omega
    · exact mergeK_len l r k
def bl : Nat → Nat
  | 0 => 0
  | d + 1 => 2 * bl d + 2
theorem bl_mono {a b : Nat} (h : a ≤ b) : bl a ≤ bl b := by
  induction h with
  | refl => exact Nat.le_refl _
  | step _ ih => exact Nat.le_trans ih (by simp only [bl]; omega)
theorem band_len : ∀ (d : Nat) (w : List L), dif w ≤ d → (band w).length ≤ bl d
  | 0, w, h => by
    have e : w = [] := Classical.byContradiction fun n => by
      have := dif_pos n
      omega
    rw [e]
    exact Nat.zero_le _
  | d + 1, w, h => by
    by_cases hw : w = []
    · rw [hw]
      exact Nat.zero_le _
    obtain ⟨p, a, hp⟩ := exists_pre hw
    obtain ⟨b, s, hs⟩ := exists_suf hw
    have h1 := dif_pre hp
    have h2 := dif_suf hs
    have i1 := band_len d p (by omega)
    have i2 := band_len d s (by omega)
    rw [band_eq hp hs]
    refine Nat.le_trans (mergeK_len _ _ _) ?_
    simp only [List.length_append, List.length_cons, List.length_nil, bl]
    omega
theorem band_len30 (w : List L) : (band w).length ≤ 30 := band_len 4 w (by
  unfold dif setL
  exact List.length_filter_le _ _)
/-! ### the letters in the order of their first place -/
def dfl (w : List L) : List L := w.foldl (fun acc x => if x ∈ acc then acc else acc ++ [x]) []
theorem dfl_snoc (w : List L) (x : L) : dfl (w ++ [x]) = if x ∈ dfl w then dfl w else dfl w ++ [x] := by
  unfold dfl
  rw [List.foldl_append]
  rfl
theorem mem_dfl (w : List L) : ∀ x, x ∈ dfl w ↔ x ∈ w := by
  suffices h : ∀ (w acc : List L) (x : L), x ∈ w.foldl (fun acc x => if x ∈ acc then acc else acc ++ [x]) acc ↔ x ∈ acc ∨ x ∈ w from fun x => (h w [] x).trans (by simp)
  intro w
  induction w with
  | nil => simp
  | cons y r ih =>
    intro acc x
    rw [List.foldl_cons, ih]
    split
    · rename_i h
      constructor
      · rintro (q | q)
        · exact .inl q
        · exact .inr (List.mem_cons_of_mem _ q)
      · rintro (q | q)
        · exact .inl q
        · rcases List.mem_cons.mp q with q | q
          · exact .inl (q ▸ h)
          · exact .inr q
    · simp only [List.mem_append, List.mem_cons, List.not_mem_nil, or_false]
      exact or_assoc
theorem dfl_ext {u r : List L} (h : ∀ x ∈ r, x ∈ u) : dfl (u ++ r) = dfl u := by
  induction r generalizing u with
  | nil => rw [List.append_nil]
  | cons y r ih =>
    have e : u ++ y :: r = (u ++ [y]) ++ r := by simp
    rw [e, ih fun x hx => by simp [h x (by simp [hx])], dfl_snoc, if_pos ((mem_dfl u y).mpr (h y (by simp)))]
theorem dfl_last {w p : List L} {a : L} (h : IsPre w p a) : (dfl w).getLast? = some a := by
  obtain ⟨r, rfl, h1, h2⟩ := h
  have e : p ++ a :: r = (p ++ [a]) ++ r := by simp
  rw [e, dfl_ext h2, dfl_snoc, if_neg (fun q => h1 ((mem_dfl p a).mp q))]
  simp
theorem dfl_nodup (w : List L) : (dfl w).Nodup := by
  suffices h : ∀ (w acc : List L), acc.Nodup → (w.foldl (fun acc x => if x ∈ acc then acc else acc ++ [x]) acc).Nodup from h w [] List.nodup_nil
  intro w
  induction w with
  | nil => exact fun acc h => h
  | cons y r ih =>
    intro acc h
    rw [List.foldl_cons]
    refine ih _ ?_
    split
    · exact h
    · rename_i q
      exact List.nodup_append.mpr ⟨h, by simp, fun x hx z hz => by
        simp at hz
        subst hz
        intro e
        exact q (e ▸ hx)⟩
theorem dfl_len (w : List L) : (dfl w).length ≤ w.length := by
  suffices h : ∀ (w acc : List L), (w.foldl (fun acc x => if x ∈ acc then acc else acc ++ [x]) acc).length ≤ acc.length + w.length from Nat.le_trans (h w []) (by simp)
  intro w
  induction w with
  | nil => simp
  | cons y r ih =>
    intro acc
    rw [List.foldl_cons]
    refine Nat.le_trans (ih _) ?_
    split <;> simp <;> omega
/-- the letters of a sorted word once, in order -/
theorem dfl_sorted (w : List L) : dfl (sortL w) = setL w := by
  have rep : ∀ (x : L) (n : Nat) (acc : List L), (List.replicate n x).foldl (fun acc x => if x ∈ acc then acc else acc ++ [x]) acc = if n = 0 ∨ x ∈ acc then acc else acc ++ [x] := by
    intro x n
    induction n with
    | zero => simp
    | succ n ih =>
      intro acc
      rw [List.replicate_succ, List.foldl_cons, ih]
      by_cases h : x ∈ acc
      · simp [h]
      · simp [h]
  unfold dfl sortL setL
  simp only [List.foldl_append, rep]
  have c : ∀ x : L, (w.count x = 0) ↔ ¬ x ∈ w := fun x => by rw [List.count_eq_zero]
  simp only [c]
  by_cases h1 : L.a ∈ w <;> by_cases h2 : L.b ∈ w <;> by_cases h3 : L.e ∈ w <;> by_cases h4 : L.z ∈ w <;> simp [List.filter, h1, h2, h3, h4]
end NL
set_option Elab.async false
set_option linter.all false
set_option maxRecDepth 100000
set_option maxHeartbeats 4000000
/-! The defs of the text by their places, their names by slots (printed by gen_text.py). -/
namespace NL
open PySem L2
def top (i : Nat) : Stmt := PySem.Challenge.pw_neededlaws_k98_whole_boards_and_needs.main.body.getD i (.Pass ⟨0, 0, 0, 0⟩)
abbrev sRules_init : Stmt := inClass (top 10) 0
abbrev nRules_init : List Str := ["self", "letters", "letter"]
abbrev pRules_init : List Str := ["self", "letters"]
theorem cRules_init : FnScope nRules_init pRules_init (defScope sRules_init) := ⟨rfl, rfl, rfl, by decide +kernel, rfl, by decide +kernel, by decide +kernel⟩
abbrev sRules_contains : Stmt := inClass (top 10) 5
abbrev nRules_contains : List Str := ["self", "letter"]
abbrev pRules_contains : List Str := ["self", "letter"]
theorem cRules_contains : FnScope nRules_contains pRules_contains (defScope sRules_contains) := ⟨rfl, rfl, rfl, by decide +kernel, rfl, by decide +kernel, by decide +kernel⟩
abbrev sRules_eq : Stmt := inClass (top 10) 6
abbrev nRules_eq : List Str := ["self", "other"]
abbrev pRules_eq : List Str := ["self", "other"]
theorem cRules_eq : FnScope nRules_eq pRules_eq (defScope sRules_eq) := ⟨rfl, rfl, rfl, by decide +kernel, rfl, by decide +kernel, by decide +kernel⟩
abbrev sRules_within : Stmt := inClass (top 10) 10
abbrev nRules_within : List Str := ["self", "other", "letter"]
abbrev pRules_within : List Str := ["self", "other"]
theorem cRules_within : FnScope nRules_within pRules_within (defScope sRules_within) := ⟨rfl, rfl, rfl, by decide +kernel, rfl, by decide +kernel, by decide +kernel⟩
abbrev sRules_every : Stmt := inClass (top 10) 11
abbrev nRules_every : List Str := ["cls", "rows", "letter", "row"]
abbrev pRules_every : List Str := ["cls"]
theorem cRules_every : FnScope nRules_every pRules_every (defScope sRules_every) := ⟨rfl, rfl, rfl, by decide +kernel, rfl, by decide +kernel, by decide +kernel⟩
abbrev sFamily_init : Stmt := inClass (top 12) 0
abbrev nFamily_init : List Str := ["self", "sets", "rules", "part"]
abbrev pFamily_init : List Str := ["self", "sets"]
theorem cFamily_init : FnScope nFamily_init pFamily_init (defScope sFamily_init) := ⟨rfl, rfl, rfl, by decide +kernel, rfl, by decide +kernel, by decide +kernel⟩
abbrev sFamily_contains : Stmt := inClass (top 12) 1
abbrev nFamily_contains : List Str := ["self", "rules", "member"]
abbrev pFamily_contains : List Str := ["self", "rules"]
theorem cFamily_contains : FnScope nFamily_contains pFamily_contains (defScope sFamily_contains) := ⟨rfl, rfl, rfl, by decide +kernel, rfl, by decide +kernel, by decide +kernel⟩
abbrev sFamily_eq : Stmt := inClass (top 12) 4
abbrev nFamily_eq : List Str := ["self", "other"]
abbrev pFamily_eq : List Str := ["self", "other"]
theorem cFamily_eq : FnScope nFamily_eq pFamily_eq (defScope sFamily_eq) := ⟨rfl, rfl, rfl, by decide +kernel, rfl, by decide +kernel, by decide +kernel⟩
abbrev sFamily_sets : Stmt := inClass (top 12) 6
abbrev nFamily_sets : List Str := ["self"]
abbrev pFamily_sets : List Str := ["self"]
theorem cFamily_sets : FnScope nFamily_sets pFamily_sets (defScope sFamily_sets) := ⟨rfl, rfl, rfl, by decide +kernel, rfl, by decide +kernel, by decide +kernel⟩
abbrev sFamily_least : Stmt := inClass (top 12) 7
abbrev nFamily_least : List Str := ["self", "rules"]
abbrev pFamily_least : List Str := ["self"]
theorem cFamily_least : FnScope nFamily_least pFamily_least (defScope sFamily_least) := ⟨rfl, rfl, rfl, by decide +kernel, rfl, by decide +kernel, by decide +kernel⟩
abbrev sFamily_above_another : Stmt := inClass (top 12) 8
abbrev nFamily_above_another : List Str := ["self", "rules", "member"]
abbrev pFamily_above_another : List Str := ["self", "rules"]
theorem cFamily_above_another : FnScope nFamily_above_another pFamily_above_another (defScope sFamily_above_another) := ⟨rfl, rfl, rfl, by decide +kernel, rfl, by decide +kernel, by decide +kernel⟩
abbrev sdifferent : Stmt := top 14
abbrev ndifferent : List Str := ["word"]
abbrev pdifferent : List Str := ["word"]
theorem cdifferent : FnScope ndifferent pdifferent (defScope sdifferent) := ⟨rfl, rfl, rfl, by decide +kernel, rfl, by decide +kernel, by decide +kernel⟩
abbrev sbeginning : Stmt := top 15
abbrev nbeginning : List Str := ["word", "many", "met", "at", "letter"]
abbrev pbeginning : List Str := ["word"]
theorem cbeginning : FnScope nbeginning pbeginning (defScope sbeginning) := ⟨rfl, rfl, rfl, by decide +kernel, rfl, by decide +kernel, by decide +kernel⟩
abbrev sending : Stmt := top 16
abbrev nending : List Str := ["word", "p", "a"]
abbrev pending : List Str := ["word"]
theorem cending : FnScope nending pending (defScope sending) := ⟨rfl, rfl, rfl, by decide +kernel, rfl, by decide +kernel, by decide +kernel⟩
abbrev smerged : Stmt := top 17
abbrev nmerged : List Str := ["left", "right", "k"]
abbrev pmerged : List Str := ["left", "right"]
theorem cmerged : FnScope nmerged pmerged (defScope smerged) := ⟨rfl, rfl, rfl, by decide +kernel, rfl, by decide +kernel, by decide +kernel⟩
abbrev sband_form : Stmt := top 18
abbrev nband_form : List Str := ["word", "p", "a", "b", "s"]
abbrev pband_form : List Str := ["word"]
theorem cband_form : FnScope nband_form pband_form (defScope sband_form) := ⟨rfl, rfl, rfl, by decide +kernel, rfl, by decide +kernel, by decide +kernel⟩
abbrev stree_form : Stmt := top 20
abbrev ntree_form : List Str := ["way", "rules", "first", "second"]
abbrev ptree_form : List Str := ["way", "rules"]
theorem ctree_form : FnScope ntree_form ptree_form (defScope stree_form) := ⟨rfl, rfl, rfl, by decide +kernel, rfl, by decide +kernel, by decide +kernel⟩
abbrev sword_form : Stmt := top 21
abbrev nword_form : List Str := ["word", "rules", "leaf"]
abbrev pword_form : List Str := ["word", "rules"]
theorem cword_form : FnScope nword_form pword_form (defScope sword_form) := ⟨rfl, rfl, rfl, by decide +kernel, rfl, by decide +kernel, by decide +kernel⟩
abbrev splain : Stmt := top 22
abbrev nplain : List Str := ["way", "rules"]
abbrev pplain : List Str := ["way", "rules"]
theorem cplain : FnScope nplain pplain (defScope splain) := ⟨rfl, rfl, rfl, by decide +kernel, rfl, by decide +kernel, by decide +kernel⟩
abbrev salike : Stmt := top 24
abbrev nalike : List Str := ["first", "rules", "others", "form", "other"]
abbrev palike : List Str := ["first", "rules", "others"]
theorem calike : FnScope nalike palike (defScope salike) := ⟨rfl, rfl, rfl, by decide +kernel, rfl, by decide +kernel, by decide +kernel⟩
abbrev sneeded : Stmt := top 25
abbrev nneeded : List Str := ["first", "second", "sets", "rules"]
abbrev pneeded : List Str := ["first", "second"]
theorem cneeded : FnScope nneeded pneeded (defScope sneeded) := ⟨rfl, rfl, rfl, by decide +kernel, rfl, by decide +kernel, by decide +kernel⟩
abbrev sexpected : Stmt := top 30
abbrev nexpected : List Str := ["text", "at", "sign"]
abbrev pexpected : List Str := ["text", "at", "sign"]
theorem cexpected : FnScope nexpected pexpected (defScope sexpected) := ⟨rfl, rfl, rfl, by decide +kernel, rfl, by decide +kernel, by decide +kernel⟩
abbrev send_of : Stmt := top 31
abbrev nend_of : List Str := ["text", "at", "middle", "last", "many"]
abbrev pend_of : List Str := ["text", "at"]
theorem cend_of : FnScope nend_of pend_of (defScope send_of) := ⟨rfl, rfl, rfl, by decide +kernel, rfl, by decide +kernel, by decide +kernel⟩
abbrev sWay_init : Stmt := inClass (top 32) 0
abbrev nWay_init : List Str := ["self", "text", "end", "middle"]
abbrev pWay_init : List Str := ["self", "text"]
theorem cWay_init : FnScope nWay_init pWay_init (defScope sWay_init) := ⟨rfl, rfl, rfl, by decide +kernel, rfl, by decide +kernel, by decide +kernel⟩
abbrev sWay_str : Stmt := inClass (top 32) 1
abbrev nWay_str : List Str := ["self"]
abbrev pWay_str : List Str := ["self"]
theorem cWay_str : FnScope nWay_str pWay_str (defScope sWay_str) := ⟨rfl, rfl, rfl, by decide +kernel, rfl, by decide +kernel, by decide +kernel⟩
abbrev sWay_len : Stmt := inClass (top 32) 2
abbrev nWay_len : List Str := ["self"]
abbrev pWay_len : List Str := ["self"]
theorem cWay_len : FnScope nWay_len pWay_len (defScope sWay_len) := ⟨rfl, rfl, rfl, by decide +kernel, rfl, by decide +kernel, by decide +kernel⟩
abbrev sWay_eq : Stmt := inClass (top 32) 4
abbrev nWay_eq : List Str := ["self", "other"]
abbrev pWay_eq : List Str := ["self", "other"]
theorem cWay_eq : FnScope nWay_eq pWay_eq (defScope sWay_eq) := ⟨rfl, rfl, rfl, by decide +kernel, rfl, by decide +kernel, by decide +kernel⟩
abbrev sWay_mul : Stmt := inClass (top 32) 5
abbrev nWay_mul : List Str := ["self", "other"]
abbrev pWay_mul : List Str := ["self", "other"]
theorem cWay_mul : FnScope nWay_mul pWay_mul (defScope sWay_mul) := ⟨rfl, rfl, rfl, by decide +kernel, rfl, by decide +kernel, by decide +kernel⟩
abbrev sWay_places : Stmt := inClass (top 32) 7
abbrev nWay_places : List Str := ["self", "paths", "path"]
abbrev pWay_places : List Str := ["self"]
theorem cWay_places : FnScope nWay_places pWay_places (defScope sWay_places) := ⟨rfl, rfl, rfl, by decide +kernel, rfl, by decide +kernel, by decide +kernel⟩
abbrev sWay_part : Stmt := inClass (top 32) 8
abbrev nWay_part : List Str := ["self", "path", "way", "sign"]
abbrev pWay_part : List Str := ["self", "path"]
theorem cWay_part : FnScope nWay_part pWay_part (defScope sWay_part) := ⟨rfl, rfl, rfl, by decide +kernel, rfl, by decide +kernel, by decide +kernel⟩
abbrev sWay_put : Stmt := inClass (top 32) 9
abbrev nWay_put : List Str := ["self", "path", "other"]
abbrev pWay_put : List Str := ["self", "path", "other"]
theorem cWay_put : FnScope nWay_put pWay_put (defScope sWay_put) := ⟨rfl, rfl, rfl, by decide +kernel, rfl, by decide +kernel, by decide +kernel⟩
abbrev sBoard_init : Stmt := inClass (top 35) 0
abbrev nBoard_init : List Str := ["self", "way"]
abbrev pBoard_init : List Str := ["self", "way"]
theorem cBoard_init : FnScope nBoard_init pBoard_init (defScope sBoard_init) := ⟨rfl, rfl, rfl, by decide +kernel, rfl, by decide +kernel, by decide +kernel⟩
abbrev sBoard_begun : Stmt := inClass (top 35) 1
abbrev nBoard_begun : List Str := ["self"]
abbrev pBoard_begun : List Str := ["self"]
theorem cBoard_begun : FnScope nBoard_begun pBoard_begun (defScope sBoard_begun) := ⟨rfl, rfl, rfl, by decide +kernel, rfl, by decide +kernel, by decide +kernel⟩
abbrev sBoard_now : Stmt := inClass (top 35) 2
abbrev nBoard_now : List Str := ["self"]
abbrev pBoard_now : List Str := ["self"]
theorem cBoard_now : FnScope nBoard_now pBoard_now (defScope sBoard_now) := ⟨rfl, rfl, rfl, by decide +kernel, rfl, by decide +kernel, by decide +kernel⟩
abbrev sBoard_part_at : Stmt := inClass (top 35) 3
abbrev nBoard_part_at : List Str := ["self", "rule", "path"]
abbrev pBoard_part_at : List Str := ["self", "rule", "path"]
theorem cBoard_part_at : FnScope nBoard_part_at pBoard_part_at (defScope sBoard_part_at) := ⟨rfl, rfl, rfl, by decide +kernel, rfl, by decide +kernel, by decide +kernel⟩
abbrev sBoard_pair_at : Stmt := inClass (top 35) 4
abbrev nBoard_pair_at : List Str := ["self", "rule", "path", "part"]
abbrev pBoard_pair_at : List Str := ["self", "rule", "path"]
theorem cBoard_pair_at : FnScope nBoard_pair_at pBoard_pair_at (defScope sBoard_pair_at) := ⟨rfl, rfl, rfl, by decide +kernel, rfl, by decide +kernel, by decide +kernel⟩
abbrev sBoard_change : Stmt := inClass (top 35) 5
abbrev nBoard_change : List Str := ["self", "rule", "path", "part", "behind"]
abbrev pBoard_change : List Str := ["self", "rule", "path", "part"]
theorem cBoard_change : FnScope nBoard_change pBoard_change (defScope sBoard_change) := ⟨rfl, rfl, rfl, by decide +kernel, rfl, by decide +kernel, by decide +kernel⟩
abbrev sBoard_regroup : Stmt := inClass (top 35) 6
abbrev nBoard_regroup : List Str := ["self", "path", "left", "first", "second", "inner"]
abbrev pBoard_regroup : List Str := ["self", "path", "left"]
theorem cBoard_regroup : FnScope nBoard_regroup pBoard_regroup (defScope sBoard_regroup) := ⟨rfl, rfl, rfl, by decide +kernel, rfl, by decide +kernel, by decide +kernel⟩
abbrev sBoard_exchange : Stmt := inClass (top 35) 7
abbrev nBoard_exchange : List Str := ["self", "path", "first", "second"]
abbrev pBoard_exchange : List Str := ["self", "path"]
theorem cBoard_exchange : FnScope nBoard_exchange pBoard_exchange (defScope sBoard_exchange) := ⟨rfl, rfl, rfl, by decide +kernel, rfl, by decide +kernel, by decide +kernel⟩
abbrev sBoard_double : Stmt := inClass (top 35) 8
abbrev nBoard_double : List Str := ["self", "path", "part"]
abbrev pBoard_double : List Str := ["self", "path"]
theorem cBoard_double : FnScope nBoard_double pBoard_double (defScope sBoard_double) := ⟨rfl, rfl, rfl, by decide +kernel, rfl, by decide +kernel, by decide +kernel⟩
abbrev sBoard_single : Stmt := inClass (top 35) 9
abbrev nBoard_single : List Str := ["self", "path", "first", "second"]
abbrev pBoard_single : List Str := ["self", "path"]
theorem cBoard_single : FnScope nBoard_single pBoard_single (defScope sBoard_single) := ⟨rfl, rfl, rfl, by decide +kernel, rfl, by decide +kernel, by decide +kernel⟩
abbrev sBoard_pad : Stmt := inClass (top 35) 10
abbrev nBoard_pad : List Str := ["self", "path", "left", "part"]
abbrev pBoard_pad : List Str := ["self", "path", "left"]
theorem cBoard_pad : FnScope nBoard_pad pBoard_pad (defScope sBoard_pad) := ⟨rfl, rfl, rfl, by decide +kernel, rfl, by decide +kernel, by decide +kernel⟩
abbrev sBoard_bare : Stmt := inClass (top 35) 11
abbrev nBoard_bare : List Str := ["self", "path", "first", "second"]
abbrev pBoard_bare : List Str := ["self", "path"]
theorem cBoard_bare : FnScope nBoard_bare pBoard_bare (defScope sBoard_bare) := ⟨rfl, rfl, rfl, by decide +kernel, rfl, by decide +kernel, by decide +kernel⟩
abbrev sBoard_swallow : Stmt := inClass (top 35) 12
abbrev nBoard_swallow : List Str := ["self", "path", "first", "second"]
abbrev pBoard_swallow : List Str := ["self", "path"]
theorem cBoard_swallow : FnScope nBoard_swallow pBoard_swallow (defScope sBoard_swallow) := ⟨rfl, rfl, rfl, by decide +kernel, rfl, by decide +kernel, by decide +kernel⟩
abbrev sBoard_spread : Stmt := inClass (top 35) 13
abbrev nBoard_spread : List Str := ["self", "path", "way", "left", "part"]
abbrev pBoard_spread : List Str := ["self", "path", "way", "left"]
theorem cBoard_spread : FnScope nBoard_spread pBoard_spread (defScope sBoard_spread) := ⟨rfl, rfl, rfl, by decide +kernel, rfl, by decide +kernel, by decide +kernel⟩
abbrev sBoard_used : Stmt := inClass (top 35) 14
abbrev nBoard_used : List Str := ["self", "rule", "path", "text"]
abbrev pBoard_used : List Str := ["self"]
theorem cBoard_used : FnScope nBoard_used pBoard_used (defScope sBoard_used) := ⟨rfl, rfl, rfl, by decide +kernel, rfl, by decide +kernel, by decide +kernel⟩
abbrev sBoard_steps : Stmt := inClass (top 35) 15
abbrev nBoard_steps : List Str := ["self"]
abbrev pBoard_steps : List Str := ["self"]
theorem cBoard_steps : FnScope nBoard_steps pBoard_steps (defScope sBoard_steps) := ⟨rfl, rfl, rfl, by decide +kernel, rfl, by decide +kernel, by decide +kernel⟩
abbrev sBoard_needed : Stmt := inClass (top 35) 16
abbrev nBoard_needed : List Str := ["self"]
abbrev pBoard_needed : List Str := ["self"]
theorem cBoard_needed : FnScope nBoard_needed pBoard_needed (defScope sBoard_needed) := ⟨rfl, rfl, rfl, by decide +kernel, rfl, by decide +kernel, by decide +kernel⟩
abbrev sBoard_spared : Stmt := inClass (top 35) 17
abbrev nBoard_spared : List Str := ["self", "family", "enough", "rules", "other"]
abbrev pBoard_spared : List Str := ["self"]
theorem cBoard_spared : FnScope nBoard_spared pBoard_spared (defScope sBoard_spared) := ⟨rfl, rfl, rfl, by decide +kernel, rfl, by decide +kernel, by decide +kernel⟩
abbrev sBoard_undo : Stmt := inClass (top 35) 18
abbrev nBoard_undo : List Str := ["self"]
abbrev pBoard_undo : List Str := ["self"]
theorem cBoard_undo : FnScope nBoard_undo pBoard_undo (defScope sBoard_undo) := ⟨rfl, rfl, rfl, by decide +kernel, rfl, by decide +kernel, by decide +kernel⟩
abbrev sshorter_by : Stmt := top 37
abbrev nshorter_by : List Str := ["rule", "part", "first", "second", "found"]
abbrev pshorter_by : List Str := ["rule", "part"]
theorem cshorter_by : FnScope nshorter_by pshorter_by (defScope sshorter_by) := ⟨rfl, rfl, rfl, by decide +kernel, rfl, by decide +kernel, by decide +kernel⟩
abbrev sone_step : Stmt := top 38
abbrev none_step : List Str := ["rule", "before", "behind"]
abbrev pone_step : List Str := ["rule", "before", "behind"]
theorem cone_step : FnScope none_step pone_step (defScope sone_step) := ⟨rfl, rfl, rfl, by decide +kernel, rfl, by decide +kernel, by decide +kernel⟩
abbrev stree_link_right : Stmt := top 39
abbrev ntree_link_right : List Str := ["way", "link", "rules", "rule", "path", "text", "behind"]
abbrev ptree_link_right : List Str := ["way", "link", "rules"]
theorem ctree_link_right : FnScope ntree_link_right ptree_link_right (defScope stree_link_right) := ⟨rfl, rfl, rfl, by decide +kernel, rfl, by decide +kernel, by decide +kernel⟩
abbrev swalked : Stmt := top 45
abbrev nwalked : List Str := ["first", "second", "links", "rules", "word", "link", "way"]
abbrev pwalked : List Str := ["first", "second", "links", "rules"]
theorem cwalked : FnScope nwalked pwalked (defScope swalked) := ⟨rfl, rfl, rfl, by decide +kernel, rfl, by decide +kernel, by decide +kernel⟩
abbrev s_law_pool : Stmt := top 47
abbrev n_law_pool : List Str := ["_law_cell_here"]
abbrev p_law_pool : List Str := ["_law_cell_here"]
theorem c_law_pool : FnScope n_law_pool p_law_pool (defScope s_law_pool) := ⟨rfl, rfl, rfl, by decide +kernel, rfl, by decide +kernel, by decide +kernel⟩
abbrev s_law_take : Stmt := top 48
abbrev n_law_take : List Str := ["_law_pool_here", "_law_limit", "_law_drawn_here", "_law_mixed"]
abbrev p_law_take : List Str := ["_law_pool_here", "_law_limit"]
theorem c_law_take : FnScope n_law_take p_law_take (defScope s_law_take) := ⟨rfl, rfl, rfl, by decide +kernel, rfl, by decide +kernel, by decide +kernel⟩
abbrev s_law_cell : Stmt := top 49
abbrev n_law_cell : List Str := ["_law_script", "_law_k"]
abbrev p_law_cell : List Str := ["_law_script", "_law_k"]
theorem c_law_cell : FnScope n_law_cell p_law_cell (defScope s_law_cell) := ⟨rfl, rfl, rfl, by decide +kernel, rfl, by decide +kernel, by decide +kernel⟩
abbrev s_law_tree : Stmt := top 50
abbrev n_law_tree : List Str := ["_law_pool_here", "_law_many", "_law_names", "_law_first", "_law_leftward"]
abbrev p_law_tree : List Str := ["_law_pool_here", "_law_many", "_law_names"]
theorem c_law_tree : FnScope n_law_tree p_law_tree (defScope s_law_tree) := ⟨rfl, rfl, rfl, by decide +kernel, rfl, by decide +kernel, by decide +kernel⟩
abbrev s_law_text : Stmt := top 51
abbrev n_law_text : List Str := ["_law_tree_here"]
abbrev p_law_text : List Str := ["_law_tree_here"]
theorem c_law_text : FnScope n_law_text p_law_text (defScope s_law_text) := ⟨rfl, rfl, rfl, by decide +kernel, rfl, by decide +kernel, by decide +kernel⟩
abbrev s_law_leaves : Stmt := top 52
abbrev n_law_leaves : List Str := ["_law_tree_here"]
abbrev p_law_leaves : List Str := ["_law_tree_here"]
theorem c_law_leaves : FnScope n_law_leaves p_law_leaves (defScope s_law_leaves) := ⟨rfl, rfl, rfl, by decide +kernel, rfl, by decide +kernel, by decide +kernel⟩
abbrev s_law_paths : Stmt := top 53
abbrev n_law_paths : List Str := ["_law_tree_here", "_law_leftward", "_law_path"]
abbrev p_law_paths : List Str := ["_law_tree_here"]
theorem c_law_paths : FnScope n_law_paths p_law_paths (defScope s_law_paths) := ⟨rfl, rfl, rfl, by decide +kernel, rfl, by decide +kernel, by decide +kernel⟩
abbrev s_law_part : Stmt := top 54
abbrev n_law_part : List Str := ["_law_tree_here", "_law_path", "_law_place"]
abbrev p_law_part : List Str := ["_law_tree_here", "_law_path"]
theorem c_law_part : FnScope n_law_part p_law_part (defScope s_law_part) := ⟨rfl, rfl, rfl, by decide +kernel, rfl, by decide +kernel, by decide +kernel⟩
abbrev s_law_put : Stmt := top 55
abbrev n_law_put : List Str := ["_law_tree_here", "_law_path", "_law_other"]
abbrev p_law_put : List Str := ["_law_tree_here", "_law_path", "_law_other"]
theorem c_law_put : FnScope n_law_put p_law_put (defScope s_law_put) := ⟨rfl, rfl, rfl, by decide +kernel, rfl, by decide +kernel, by decide +kernel⟩
abbrev s_law_deed : Stmt := top 56
abbrev n_law_deed : List Str := ["_law_tree_here", "_law_path", "_law_which", "_law_leftward", "_law_extra", "_law_part_here", "_law_pair"]
abbrev p_law_deed : List Str := ["_law_tree_here", "_law_path", "_law_which", "_law_leftward", "_law_extra"]
theorem c_law_deed : FnScope n_law_deed p_law_deed (defScope s_law_deed) := ⟨rfl, rfl, rfl, by decide +kernel, rfl, by decide +kernel, by decide +kernel⟩
abbrev s_law_done : Stmt := top 57
abbrev n_law_done : List Str := ["_law_board", "_law_path", "_law_which", "_law_leftward", "_law_extra", "_law_told", "e"]
abbrev p_law_done : List Str := ["_law_board", "_law_path", "_law_which", "_law_leftward", "_law_extra"]
theorem c_law_done : FnScope n_law_done p_law_done (defScope s_law_done) := ⟨rfl, rfl, rfl, by decide +kernel, rfl, by decide +kernel, by decide +kernel⟩
abbrev s_law_drawn : Stmt := top 58
abbrev n_law_drawn : List Str := ["_law_pool_here", "_law_tree_here", "_law_paths_here", "_law_path", "_law_which", "_law_leftward", "_law_extra", "_law_place"]
abbrev p_law_drawn : List Str := ["_law_pool_here", "_law_tree_here"]
theorem c_law_drawn : FnScope n_law_drawn p_law_drawn (defScope s_law_drawn) := ⟨rfl, rfl, rfl, by decide +kernel, rfl, by decide +kernel, by decide +kernel⟩
abbrev s_law_different : Stmt := top 59
abbrev n_law_different : List Str := ["_law_word", "_law_found", "_law_leaf"]
abbrev p_law_different : List Str := ["_law_word"]
theorem c_law_different : FnScope n_law_different p_law_different (defScope s_law_different) := ⟨rfl, rfl, rfl, by decide +kernel, rfl, by decide +kernel, by decide +kernel⟩
abbrev s_law_band : Stmt := top 60
abbrev n_law_band : List Str := ["_law_word", "_law_newest", "_law_oldest", "_law_head", "_law_rear", "_law_many"]
abbrev p_law_band : List Str := ["_law_word"]
theorem c_law_band : FnScope n_law_band p_law_band (defScope s_law_band) := ⟨rfl, rfl, rfl, by decide +kernel, rfl, by decide +kernel, by decide +kernel⟩
abbrev s_law_word_form : Stmt := top 61
abbrev n_law_word_form : List Str := ["_law_word", "_law_letters", "_law_leaf"]
abbrev p_law_word_form : List Str := ["_law_word", "_law_letters"]
theorem c_law_word_form : FnScope n_law_word_form p_law_word_form (defScope s_law_word_form) := ⟨rfl, rfl, rfl, by decide +kernel, rfl, by decide +kernel, by decide +kernel⟩
abbrev s_law_tree_form : Stmt := top 62
abbrev n_law_tree_form : List Str := ["_law_tree_here", "_law_letters", "_law_pair"]
abbrev p_law_tree_form : List Str := ["_law_tree_here", "_law_letters"]
theorem c_law_tree_form : FnScope n_law_tree_form p_law_tree_form (defScope s_law_tree_form) := ⟨rfl, rfl, rfl, by decide +kernel, rfl, by decide +kernel, by decide +kernel⟩
abbrev s_law_plain : Stmt := top 63
abbrev n_law_plain : List Str := ["_law_tree_here", "_law_letters"]
abbrev p_law_plain : List Str := ["_law_tree_here", "_law_letters"]
theorem c_law_plain : FnScope n_law_plain p_law_plain (defScope s_law_plain) := ⟨rfl, rfl, rfl, by decide +kernel, rfl, by decide +kernel, by decide +kernel⟩
abbrev s_law_due : Stmt := top 64
abbrev n_law_due : List Str := ["_law_first", "_law_tree_here", "_law_found", "_law_chosen"]
abbrev p_law_due : List Str := ["_law_first", "_law_tree_here"]
theorem c_law_due : FnScope n_law_due p_law_due (defScope s_law_due) := ⟨rfl, rfl, rfl, by decide +kernel, rfl, by decide +kernel, by decide +kernel⟩
abbrev s_law_spared : Stmt := top 65
abbrev n_law_spared : List Str := ["_law_family", "_law_used", "_law_one", "_law_rows", "_law_found", "_law_other"]
abbrev p_law_spared : List Str := ["_law_family", "_law_used"]
theorem c_law_spared : FnScope n_law_spared p_law_spared (defScope s_law_spared) := ⟨rfl, rfl, rfl, by decide +kernel, rfl, by decide +kernel, by decide +kernel⟩
abbrev s_law_looks : Stmt := top 66
abbrev n_law_looks : List Str := ["_law_board", "_law_first", "_law_tree_here", "_law_ahead", "_law_told", "_law_family", "_law_due_here", "_law_chosen", "_law_one"]
abbrev p_law_looks : List Str := ["_law_board", "_law_first", "_law_tree_here", "_law_ahead"]
theorem c_law_looks : FnScope n_law_looks p_law_looks (defScope s_law_looks) := ⟨rfl, rfl, rfl, by decide +kernel, rfl, by decide +kernel, by decide +kernel⟩
abbrev s_law_kept : Stmt := top 67
abbrev n_law_kept : List Str := ["_law_board", "_law_family", "_law_used", "_law_one"]
abbrev p_law_kept : List Str := ["_law_board"]
theorem c_law_kept : FnScope n_law_kept p_law_kept (defScope s_law_kept) := ⟨rfl, rfl, rfl, by decide +kernel, rfl, by decide +kernel, by decide +kernel⟩
abbrev s_law_stays : Stmt := top 68
abbrev n_law_stays : List Str := ["_law_rows", "_law_family", "_law_least", "_law_used", "_law_letters", "_law_one"]
abbrev p_law_stays : List Str := ["_law_rows"]
theorem c_law_stays : FnScope n_law_stays p_law_stays (defScope s_law_stays) := ⟨rfl, rfl, rfl, by decide +kernel, rfl, by decide +kernel, by decide +kernel⟩
abbrev s_law_ends : Stmt := top 69
abbrev n_law_ends : List Str := ["_law_board", "_law_first", "_law_trees", "_law_used", "_law_ways", "_law_chosen", "_law_tree_here"]
abbrev p_law_ends : List Str := ["_law_board", "_law_first", "_law_trees"]
theorem c_law_ends : FnScope n_law_ends p_law_ends (defScope s_law_ends) := ⟨rfl, rfl, rfl, by decide +kernel, rfl, by decide +kernel, by decide +kernel⟩
abbrev slaw : Stmt := top 70
abbrev nlaw : List Str := ["_law_script", "_law_pool_here", "_law_limit", "_law_first", "_law_board", "_law_trees", "_law_kept_here", "_law_cell_here", "_law_drawn_here", "_law_part_here"]
abbrev plaw : List Str := ["_law_script"]
theorem claw : FnScope nlaw plaw (defScope slaw) := ⟨rfl, rfl, rfl, by decide +kernel, rfl, by decide +kernel, by decide +kernel⟩
end NL
set_option Elab.async false
set_option linter.all false
set_option maxRecDepth 100000
set_option maxHeartbeats 0
/-! The head: what the top leaves, as facts that one run in the kernel shows (printed by gen_text.py). -/
namespace NL
open PySem L2
def dRules_init : He5.DefA := ⟨fun K => He.fAd K ("Rules", some "__init__"), "__init__", "Rules.__init__", defArgs sRules_init, defBody sRules_init, defScope sRules_init, [.str ""], []⟩
def dRules_contains : He5.DefA := ⟨fun K => He.fAd K ("Rules", some "__contains__"), "__contains__", "Rules.__contains__", defArgs sRules_contains, defBody sRules_contains, defScope sRules_contains, [], []⟩
def dRules_eq : He5.DefA := ⟨fun K => He.fAd K ("Rules", some "__eq__"), "__eq__", "Rules.__eq__", defArgs sRules_eq, defBody sRules_eq, defScope sRules_eq, [], []⟩
def dRules_within : He5.DefA := ⟨fun K => He.fAd K ("Rules", some "within"), "within", "Rules.within", defArgs sRules_within, defBody sRules_within, defScope sRules_within, [], []⟩
def dRules_every : He5.DefA := ⟨fun K => He5.wf K (He.ga K "Rules") "classmethod" "every", "every", "Rules.every", defArgs sRules_every, defBody sRules_every, defScope sRules_every, [], []⟩
def dFamily_init : He5.DefA := ⟨fun K => He.fAd K ("Family", some "__init__"), "__init__", "Family.__init__", defArgs sFamily_init, defBody sFamily_init, defScope sFamily_init, [], []⟩
def dFamily_contains : He5.DefA := ⟨fun K => He.fAd K ("Family", some "__contains__"), "__contains__", "Family.__contains__", defArgs sFamily_contains, defBody sFamily_contains, defScope sFamily_contains, [], []⟩
def dFamily_eq : He5.DefA := ⟨fun K => He.fAd K ("Family", some "__eq__"), "__eq__", "Family.__eq__", defArgs sFamily_eq, defBody sFamily_eq, defScope sFamily_eq, [], []⟩
def dFamily_sets : He5.DefA := ⟨fun K => He.fAd K ("Family", some "sets"), "sets", "Family.sets", defArgs sFamily_sets, defBody sFamily_sets, defScope sFamily_sets, [], []⟩
def dFamily_least : He5.DefA := ⟨fun K => He.fAd K ("Family", some "least"), "least", "Family.least", defArgs sFamily_least, defBody sFamily_least, defScope sFamily_least, [], []⟩
def dFamily_above_another : He5.DefA := ⟨fun K => He.fAd K ("Family", some "above_another"), "above_another", "Family.above_another", defArgs sFamily_above_another, defBody sFamily_above_another, defScope sFamily_above_another, [], []⟩
def ddifferent : He5.DefA := ⟨fun K => He.fAd K ("different", none), "different", "different", defArgs sdifferent, defBody sdifferent, defScope sdifferent, [], []⟩
def dbeginning : He5.DefA := ⟨fun K => He.fAd K ("beginning", none), "beginning", "beginning", defArgs sbeginning, defBody sbeginning, defScope sbeginning, [], []⟩
def dending : He5.DefA := ⟨fun K => He.fAd K ("ending", none), "ending", "ending", defArgs sending, defBody sending, defScope sending, [], []⟩
def dmerged : He5.DefA := ⟨fun K => He.fAd K ("merged", none), "merged", "merged", defArgs smerged, defBody smerged, defScope smerged, [], []⟩
def dband_form : He5.DefA := ⟨fun K => He.fAd K ("band_form", none), "band_form", "band_form", defArgs sband_form, defBody sband_form, defScope sband_form, [], []⟩
def dtree_form : He5.DefA := ⟨fun K => He.fAd K ("tree_form", none), "tree_form", "tree_form", defArgs stree_form, defBody stree_form, defScope stree_form, [], []⟩
def dword_form : He5.DefA := ⟨fun K => He.fAd K ("word_form", none), "word_form", "word_form", defArgs sword_form, defBody sword_form, defScope sword_form, [], []⟩
def dplain : He5.DefA := ⟨fun K => He.fAd K ("plain", none), "plain", "plain", defArgs splain, defBody splain, defScope splain, [], []⟩
def dalike : He5.DefA := ⟨fun K => He.fAd K ("alike", none), "alike", "alike", defArgs salike, defBody salike, defScope salike, [], []⟩
def dneeded : He5.DefA := ⟨fun K => He.fAd K ("needed", none), "needed", "needed", defArgs sneeded, defBody sneeded, defScope sneeded, [], []⟩
def dexpected : He5.DefA := ⟨fun K => He.fAd K ("expected", none), "expected", "expected", defArgs sexpected, defBody sexpected, defScope sexpected, [], []⟩
def dend_of : He5.DefA := ⟨fun K => He.fAd K ("end_of", none), "end_of", "end_of", defArgs send_of, defBody send_of, defScope send_of, [], []⟩
def dWay_init : He5.DefA := ⟨fun K => He.fAd K ("Way", some "__init__"), "__init__", "Way.__init__", defArgs sWay_init, defBody sWay_init, defScope sWay_init, [], []⟩
def dWay_str : He5.DefA := ⟨fun K => He.fAd K ("Way", some "__str__"), "__str__", "Way.__str__", defArgs sWay_str, defBody sWay_str, defScope sWay_str, [], []⟩
def dWay_len : He5.DefA := ⟨fun K => He.fAd K ("Way", some "__len__"), "__len__", "Way.__len__", defArgs sWay_len, defBody sWay_len, defScope sWay_len, [], []⟩
def dWay_eq : He5.DefA := ⟨fun K => He.fAd K ("Way", some "__eq__"), "__eq__", "Way.__eq__", defArgs sWay_eq, defBody sWay_eq, defScope sWay_eq, [], []⟩
def dWay_mul : He5.DefA := ⟨fun K => He.fAd K ("Way", some "__mul__"), "__mul__", "Way.__mul__", defArgs sWay_mul, defBody sWay_mul, defScope sWay_mul, [], []⟩
def dWay_places : He5.DefA := ⟨fun K => He.fAd K ("Way", some "places"), "places", "Way.places", defArgs sWay_places, defBody sWay_places, defScope sWay_places, [], []⟩
def dWay_part : He5.DefA := ⟨fun K => He.fAd K ("Way", some "part"), "part", "Way.part", defArgs sWay_part, defBody sWay_part, defScope sWay_part, [], []⟩
def dWay_put : He5.DefA := ⟨fun K => He.fAd K ("Way", some "put"), "put", "Way.put", defArgs sWay_put, defBody sWay_put, defScope sWay_put, [], []⟩
def dBoard_init : He5.DefA := ⟨fun K => He.fAd K ("Board", some "__init__"), "__init__", "Board.__init__", defArgs sBoard_init, defBody sBoard_init, defScope sBoard_init, [], []⟩
def dBoard_begun : He5.DefA := ⟨fun K => He.fAd K ("Board", some "begun"), "begun", "Board.begun", defArgs sBoard_begun, defBody sBoard_begun, defScope sBoard_begun, [], []⟩
def dBoard_now : He5.DefA := ⟨fun K => He.fAd K ("Board", some "now"), "now", "Board.now", defArgs sBoard_now, defBody sBoard_now, defScope sBoard_now, [], []⟩
def dBoard_part_at : He5.DefA := ⟨fun K => He.fAd K ("Board", some "part_at"), "part_at", "Board.part_at", defArgs sBoard_part_at, defBody sBoard_part_at, defScope sBoard_part_at, [], []⟩
def dBoard_pair_at : He5.DefA := ⟨fun K => He.fAd K ("Board", some "pair_at"), "pair_at", "Board.pair_at", defArgs sBoard_pair_at, defBody sBoard_pair_at, defScope sBoard_pair_at, [], []⟩
def dBoard_change : He5.DefA := ⟨fun K => He.fAd K ("Board", some "change"), "change", "Board.change", defArgs sBoard_change, defBody sBoard_change, defScope sBoard_change, [], []⟩
def dBoard_regroup : He5.DefA := ⟨fun K => He.fAd K ("Board", some "regroup"), "regroup", "Board.regroup", defArgs sBoard_regroup, defBody sBoard_regroup, defScope sBoard_regroup, [], [("left", .bl false)]⟩
def dBoard_exchange : He5.DefA := ⟨fun K => He.fAd K ("Board", some "exchange"), "exchange", "Board.exchange", defArgs sBoard_exchange, defBody sBoard_exchange, defScope sBoard_exchange, [], []⟩
def dBoard_double : He5.DefA := ⟨fun K => He.fAd K ("Board", some "double"), "double", "Board.double", defArgs sBoard_double, defBody sBoard_double, defScope sBoard_double, [], []⟩
def dBoard_single : He5.DefA := ⟨fun K => He.fAd K ("Board", some "single"), "single", "Board.single", defArgs sBoard_single, defBody sBoard_single, defScope sBoard_single, [], []⟩
def dBoard_pad : He5.DefA := ⟨fun K => He.fAd K ("Board", some "pad"), "pad", "Board.pad", defArgs sBoard_pad, defBody sBoard_pad, defScope sBoard_pad, [], [("left", .bl false)]⟩
def dBoard_bare : He5.DefA := ⟨fun K => He.fAd K ("Board", some "bare"), "bare", "Board.bare", defArgs sBoard_bare, defBody sBoard_bare, defScope sBoard_bare, [], []⟩
def dBoard_swallow : He5.DefA := ⟨fun K => He.fAd K ("Board", some "swallow"), "swallow", "Board.swallow", defArgs sBoard_swallow, defBody sBoard_swallow, defScope sBoard_swallow, [], []⟩
def dBoard_spread : He5.DefA := ⟨fun K => He.fAd K ("Board", some "spread"), "spread", "Board.spread", defArgs sBoard_spread, defBody sBoard_spread, defScope sBoard_spread, [], [("left", .bl false)]⟩
def dBoard_used : He5.DefA := ⟨fun K => He.fAd K ("Board", some "used"), "used", "Board.used", defArgs sBoard_used, defBody sBoard_used, defScope sBoard_used, [], []⟩
def dBoard_steps : He5.DefA := ⟨fun K => He.fAd K ("Board", some "steps"), "steps", "Board.steps", defArgs sBoard_steps, defBody sBoard_steps, defScope sBoard_steps, [], []⟩
def dBoard_needed : He5.DefA := ⟨fun K => He.fAd K ("Board", some "needed"), "needed", "Board.needed", defArgs sBoard_needed, defBody sBoard_needed, defScope sBoard_needed, [], []⟩
def dBoard_spared : He5.DefA := ⟨fun K => He.fAd K ("Board", some "spared"), "spared", "Board.spared", defArgs sBoard_spared, defBody sBoard_spared, defScope sBoard_spared, [], []⟩
def dBoard_undo : He5.DefA := ⟨fun K => He.fAd K ("Board", some "undo"), "undo", "Board.undo", defArgs sBoard_undo, defBody sBoard_undo, defScope sBoard_undo, [], []⟩
def dshorter_by : He5.DefA := ⟨fun K => He.fAd K ("shorter_by", none), "shorter_by", "shorter_by", defArgs sshorter_by, defBody sshorter_by, defScope sshorter_by, [], []⟩
def done_step : He5.DefA := ⟨fun K => He.fAd K ("one_step", none), "one_step", "one_step", defArgs sone_step, defBody sone_step, defScope sone_step, [], []⟩
def dtree_link_right : He5.DefA := ⟨fun K => He.fAd K ("tree_link_right", none), "tree_link_right", "tree_link_right", defArgs stree_link_right, defBody stree_link_right, defScope stree_link_right, [], []⟩
def dwalked : He5.DefA := ⟨fun K => He.fAd K ("walked", none), "walked", "walked", defArgs swalked, defBody swalked, defScope swalked, [], []⟩
def d_law_pool : He5.DefA := ⟨fun K => He.fAd K ("_law_pool", none), "_law_pool", "_law_pool", defArgs s_law_pool, defBody s_law_pool, defScope s_law_pool, [], []⟩
def d_law_take : He5.DefA := ⟨fun K => He.fAd K ("_law_take", none), "_law_take", "_law_take", defArgs s_law_take, defBody s_law_take, defScope s_law_take, [], []⟩
def d_law_cell : He5.DefA := ⟨fun K => He.fAd K ("_law_cell", none), "_law_cell", "_law_cell", defArgs s_law_cell, defBody s_law_cell, defScope s_law_cell, [], []⟩
def d_law_tree : He5.DefA := ⟨fun K => He.fAd K ("_law_tree", none), "_law_tree", "_law_tree", defArgs s_law_tree, defBody s_law_tree, defScope s_law_tree, [], []⟩
def d_law_text : He5.DefA := ⟨fun K => He.fAd K ("_law_text", none), "_law_text", "_law_text", defArgs s_law_text, defBody s_law_text, defScope s_law_text, [], []⟩
def d_law_leaves : He5.DefA := ⟨fun K => He.fAd K ("_law_leaves", none), "_law_leaves", "_law_leaves", defArgs s_law_leaves, defBody s_law_leaves, defScope s_law_leaves, [], []⟩
def d_law_paths : He5.DefA := ⟨fun K => He.fAd K ("_law_paths", none), "_law_paths", "_law_paths", defArgs s_law_paths, defBody s_law_paths, defScope s_law_paths, [], []⟩
def d_law_part : He5.DefA := ⟨fun K => He.fAd K ("_law_part", none), "_law_part", "_law_part", defArgs s_law_part, defBody s_law_part, defScope s_law_part, [], []⟩
def d_law_put : He5.DefA := ⟨fun K => He.fAd K ("_law_put", none), "_law_put", "_law_put", defArgs s_law_put, defBody s_law_put, defScope s_law_put, [], []⟩
def d_law_deed : He5.DefA := ⟨fun K => He.fAd K ("_law_deed", none), "_law_deed", "_law_deed", defArgs s_law_deed, defBody s_law_deed, defScope s_law_deed, [], []⟩
def d_law_done : He5.DefA := ⟨fun K => He.fAd K ("_law_done", none), "_law_done", "_law_done", defArgs s_law_done, defBody s_law_done, defScope s_law_done, [], []⟩
def d_law_drawn : He5.DefA := ⟨fun K => He.fAd K ("_law_drawn", none), "_law_drawn", "_law_drawn", defArgs s_law_drawn, defBody s_law_drawn, defScope s_law_drawn, [], []⟩
def d_law_different : He5.DefA := ⟨fun K => He.fAd K ("_law_different", none), "_law_different", "_law_different", defArgs s_law_different, defBody s_law_different, defScope s_law_different, [], []⟩
def d_law_band : He5.DefA := ⟨fun K => He.fAd K ("_law_band", none), "_law_band", "_law_band", defArgs s_law_band, defBody s_law_band, defScope s_law_band, [], []⟩
def d_law_word_form : He5.DefA := ⟨fun K => He.fAd K ("_law_word_form", none), "_law_word_form", "_law_word_form", defArgs s_law_word_form, defBody s_law_word_form, defScope s_law_word_form, [], []⟩
def d_law_tree_form : He5.DefA := ⟨fun K => He.fAd K ("_law_tree_form", none), "_law_tree_form", "_law_tree_form", defArgs s_law_tree_form, defBody s_law_tree_form, defScope s_law_tree_form, [], []⟩
def d_law_plain : He5.DefA := ⟨fun K => He.fAd K ("_law_plain", none), "_law_plain", "_law_plain", defArgs s_law_plain, defBody s_law_plain, defScope s_law_plain, [], []⟩
def d_law_due : He5.DefA := ⟨fun K => He.fAd K ("_law_due", none), "_law_due", "_law_due", defArgs s_law_due, defBody s_law_due, defScope s_law_due, [], []⟩
def d_law_spared : He5.DefA := ⟨fun K => He.fAd K ("_law_spared", none), "_law_spared", "_law_spared", defArgs s_law_spared, defBody s_law_spared, defScope s_law_spared, [], []⟩
def d_law_looks : He5.DefA := ⟨fun K => He.fAd K ("_law_looks", none), "_law_looks", "_law_looks", defArgs s_law_looks, defBody s_law_looks, defScope s_law_looks, [], []⟩
def d_law_kept : He5.DefA := ⟨fun K => He.fAd K ("_law_kept", none), "_law_kept", "_law_kept", defArgs s_law_kept, defBody s_law_kept, defScope s_law_kept, [], []⟩
def d_law_stays : He5.DefA := ⟨fun K => He.fAd K ("_law_stays", none), "_law_stays", "_law_stays", defArgs s_law_stays, defBody s_law_stays, defScope s_law_stays, [], []⟩
def d_law_ends : He5.DefA := ⟨fun K => He.fAd K ("_law_ends", none), "_law_ends", "_law_ends", defArgs s_law_ends, defBody s_law_ends, defScope s_law_ends, [], []⟩
def dlaw : He5.DefA := ⟨fun K => He.fAd K ("law", none), "law", "law", defArgs slaw, defBody slaw, defScope slaw, [], []⟩
def fn0 : List He5.DefA := [dRules_init, dRules_contains, dRules_eq, dRules_within, dRules_every, dFamily_init, dFamily_contains, dFamily_eq, dFamily_sets, dFamily_least, dFamily_above_another, ddifferent, dbeginning, dending, dmerged, dband_form, dtree_form, dword_form, dplain, dalike]
def fn1 : List He5.DefA := [dneeded, dexpected, dend_of, dWay_init, dWay_str, dWay_len, dWay_eq, dWay_mul, dWay_places, dWay_part, dWay_put, dBoard_init, dBoard_begun, dBoard_now, dBoard_part_at, dBoard_pair_at, dBoard_change, dBoard_regroup, dBoard_exchange, dBoard_double]
def fn2 : List He5.DefA := [dBoard_single, dBoard_pad, dBoard_bare, dBoard_swallow, dBoard_spread, dBoard_used, dBoard_steps, dBoard_needed, dBoard_spared, dBoard_undo, dshorter_by, done_step, dtree_link_right, dwalked, d_law_pool, d_law_take, d_law_cell, d_law_tree, d_law_text, d_law_leaves]
def fn3 : List He5.DefA := [d_law_paths, d_law_part, d_law_put, d_law_deed, d_law_done, d_law_drawn, d_law_different, d_law_band, d_law_word_form, d_law_tree_form, d_law_plain, d_law_due, d_law_spared, d_law_looks, d_law_kept, d_law_stays, d_law_ends, dlaw]
def fns : List He5.DefA := fn0 ++ fn1 ++ fn2 ++ fn3
def fa0 : List He.Fa := [.glo "different", .glo "beginning", .glo "ending", .glo "merged", .glo "band_form", .glo "tree_form", .glo "word_form", .glo "plain", .glo "alike", .glo "needed", .glo "expected", .glo "end_of", .glo "shorter_by", .glo "one_step", .glo "tree_link_right", .glo "walked", .glo "_law_pool", .glo "_law_take", .glo "_law_cell", .glo "_law_tree"]
def fa1 : List He.Fa := [.glo "_law_text", .glo "_law_leaves", .glo "_law_paths", .glo "_law_part", .glo "_law_put", .glo "_law_deed", .glo "_law_done", .glo "_law_drawn", .glo "_law_different", .glo "_law_band", .glo "_law_word_form", .glo "_law_tree_form", .glo "_law_plain", .glo "_law_due", .glo "_law_spared", .glo "_law_looks", .glo "_law_kept", .glo "_law_stays", .glo "_law_ends", .glo "law"]
def fa2 : List He.Fa := [.glo "needed_alike", .glo "Rules", .glo "Family", .glo "Way", .glo "Board", .glo "NoPlace", .glo "NoWay", .glo "NoStep", .free "len", .free "any", .free "all", .free "sorted", .free "list", .free "set", .free "min", .free "range", .free "reversed", .free "enumerate", .free "isinstance", .free "str"]
def fa3 : List He.Fa := [.free "int", .free "tuple", .free "bool", .str "LETTERS_rules" "ACIUZ", .str "LETTERS_ways" "abcdefghijklmnopqrstuvwxyz", .int "LONGEST_NAME" 6, .int "MOST_LEAVES" 20, .cls "Rules", .mkr "Rules", .noat "Rules" "letters", .cls "Family", .mkr "Family", .noat "Family" "members", .cls "Way", .mkr "Way", .noat "Way" "text", .noat "Way" "name", .noat "Way" "left", .noat "Way" "right", .noat "Way" "leaves"]
def fa4 : List He.Fa := [.cls "Board", .mkr "Board", .noat "Board" "first", .noat "Board" "deeds", .meth "Rules" "__contains__", .meth "Rules" "__eq__", .meth "Rules" "within", .meth "Family" "__contains__", .meth "Family" "__eq__", .meth "Family" "sets", .meth "Family" "least", .meth "Family" "above_another", .meth "Way" "__str__", .meth "Way" "__len__", .meth "Way" "__eq__", .meth "Way" "__mul__", .meth "Way" "places", .meth "Way" "part", .meth "Way" "put", .meth "Board" "begun"]
def fa5 : List He.Fa := [.meth "Board" "now", .meth "Board" "part_at", .meth "Board" "pair_at", .meth "Board" "change", .meth "Board" "regroup", .meth "Board" "exchange", .meth "Board" "double", .meth "Board" "single", .meth "Board" "pad", .meth "Board" "bare", .meth "Board" "swallow", .meth "Board" "spread", .meth "Board" "used", .meth "Board" "steps", .meth "Board" "needed", .meth "Board" "spared", .meth "Board" "undo"]
def fas : List He.Fa := fa0 ++ fa1 ++ fa2 ++ fa3 ++ fa4 ++ fa5
def gn0 : List PySem.Str := ["different", "beginning", "ending", "merged", "band_form", "tree_form", "word_form", "plain", "alike", "needed", "expected", "end_of", "shorter_by", "one_step", "tree_link_right", "walked", "_law_pool", "_law_take", "_law_cell", "_law_tree", "_law_text", "_law_leaves", "_law_paths", "_law_part", "_law_put", "_law_deed", "_law_done", "_law_drawn", "_law_different", "_law_band"]
def gn1 : List PySem.Str := ["_law_word_form", "_law_tree_form", "_law_plain", "_law_due", "_law_spared", "_law_looks", "_law_kept", "_law_stays", "_law_ends", "law", "NoPlace", "NoWay", "NoStep"]
def gns : List PySem.Str := gn0 ++ gn1
def me0 : List (PySem.Str × PySem.Str) := [("Rules", "__init__"), ("Rules", "__contains__"), ("Rules", "__eq__"), ("Rules", "within"), ("Rules", "every"), ("Family", "__init__"), ("Family", "__contains__"), ("Family", "__eq__"), ("Family", "sets"), ("Family", "least"), ("Family", "above_another"), ("Way", "__init__"), ("Way", "__str__"), ("Way", "__len__"), ("Way", "__eq__"), ("Way", "__mul__"), ("Way", "places"), ("Way", "part"), ("Way", "put"), ("Board", "__init__"), ("Board", "begun"), ("Board", "now"), ("Board", "part_at"), ("Board", "pair_at"), ("Board", "change"), ("Board", "regroup"), ("Board", "exchange"), ("Board", "double"), ("Board", "single"), ("Board", "pad")]
def me1 : List (PySem.Str × PySem.Str) := [("Board", "bare"), ("Board", "swallow"), ("Board", "spread"), ("Board", "used"), ("Board", "steps"), ("Board", "needed"), ("Board", "spared"), ("Board", "undo")]
def mes : List (PySem.Str × PySem.Str) := me0 ++ me1
def nm0 : List PySem.Str := ["_wall", "WayError", "NoWay", "NoPlace", "BadRule", "NoStep", "NothingToUndo", "LETTERS_rules", "Rules", "Family", "different", "beginning", "ending", "merged", "band_form", "tree_form", "word_form", "plain", "alike", "needed", "needed_alike", "LETTERS_ways", "LONGEST_NAME", "expected", "end_of", "Way", "MOST_LEAVES", "Board", "shorter_by", "one_step"]
def nm1 : List PySem.Str := ["tree_link_right", "without", "doubled_at", "left_out", "between_left_out", "word_link_right", "walked", "_law_pool", "_law_take", "_law_cell", "_law_tree", "_law_text", "_law_leaves", "_law_paths", "_law_part", "_law_put", "_law_deed", "_law_done", "_law_drawn", "_law_different", "_law_band", "_law_word_form", "_law_tree_form", "_law_plain", "_law_due", "_law_spared", "_law_looks", "_law_kept", "_law_stays", "_law_ends"]
def nms : List PySem.Str := nm0 ++ nm1
/-- an own class as isinstance sees it -/
def insB (K : PySem.W.Frag) (x : Str) : Bool :=
  He.eqO (PySem.W.findIn K (.ref (He.ga K x)) "__class__") (some (some (.builtin "object.__class__"))) && (He.eqO (PySem.W.specialIn K (.builtin "object.__class__") "__get__") (some (some (.builtin "getset_descriptor.__get__"))) &&
  (decide (PySem.W.takesIn K (.builtin "object.__class__") = some true) && (decide (PySem.W.mroIn K (He.ga K x) (.type "object") = some true) && decide (PySem.W.kitOne K (.ref (He.ga K x)) (.ref (He.ga K x)) = some true))))
/-- the code object of Rules.every, its table -/
def evC (K : PySem.W.Frag) : Addr := match K.lookup (He5.wf K (He.ga K "Rules") "classmethod" "every") with
  | some ⟨_, _, .func fd, _⟩ => (match fd.code with
    | .ref c => c
    | _ => 0)
  | _ => 0
def evT (K : PySem.W.Frag) : Addr := He.tabOf K (evC K)
def exs (K : PySem.W.Frag) : List Bool := [insB K "Rules", insB K "Family", insB K "Way", He.eqO (PySem.W.findIn K (.ref (He.ga K "Rules")) "__ne__") (some (some (.builtin "object.__ne__"))),
  PySem.W.selfFirst K (He.ga K "Way"), PySem.W.readsIn K (He.ga K "Rules") (.type "type"), He5.wrapB K (He.ga K "Rules") "classmethod" "classmethod.__get__" "every", PySem.W.fnIn K (He5.wf K (He.ga K "Rules") "classmethod" "every"),
  decide (He.ga K "needed_alike" = He.ga K "needed"), PySem.W.codeHdIn K (evC K) (evT K), (K.lookup (evT K)).isNone]
/-- an empty table at a -/
def emptyB (o : Option Obj) : Bool := match o with
  | some u => He.emptyTab u
  | none => false
/-- the objects that these facts look at -/
def nsOf (g : Addr → Option Obj) (a : Addr) : List Addr := match g a with
  | some ⟨_, _, .cls cd, _⟩ => [cd.ns]
  | _ => []
def codeR (g : Addr → Option Obj) (a : Addr) : List Addr := match g a with
  | some ⟨_, _, .func fd, _⟩ => He.refV fd.code ++ (He.refV fd.defaults ++ He.refV fd.kwdefaults)
  | _ => []
def clsN : List PySem.Str := ["Rules", "Family", "Way", "Board"]
def as3 (g : Addr → Option Obj) (gl A2 me : List Addr) : List Addr :=
  (fun ev => A2 ++ (me ++ (ev :: (gl ++ (gl ++ (me ++ [ev])).flatMap (codeR g))))) (He5.wf (He.frG g (A2 ++ me)) (He.ga (He.frG g (A2 ++ me)) "Rules") "classmethod" "every")
def as2 (g : Addr → Option Obj) (gl A2 : List Addr) : List Addr := as3 g gl A2 (mes.map fun p => He.ma (He.frG g A2) (He.ga (He.frG g A2) p.1) p.2)
def as1 (g : Addr → Option Obj) (cl : List Addr) : List Addr := as2 g (gns.map (He.ga (He.frG g [mainGlobals]))) (mainGlobals :: PySem.cStatics :: (cl ++ cl.flatMap (nsOf g)))
def asN (g : Addr → Option Obj) : List Addr := as1 g (clsN.map (He.ga (He.frG g [mainGlobals])))
abbrev AlN : Type := He.AlD × Bool
def obsN (g : Addr → Option Obj) : AlN := (fun K => (He5.obsA fas fns K, (exs K).all id && emptyB (g (evT K)))) (He.frG g (asN g))
structure Says (K : PySem.W.Frag) : Prop where
  a : He5.SaysA fas fns K
  x : (exs K).all id = true
def hookN : PySem.W.Hook where
  α := AlN
  obs := fun s => obsN s.heap.get?
  val := fun _ => (He5.valA fns, true)
  says := fun _ h => ∃ K : PySem.W.Frag, K.In h ∧ Says K ∧ h.get? (evT K) = some { cls := .none, data := .fields #[] }
  of := fun _ s e => by
    have e2 : ((exs (He.frG s.heap.get? (asN s.heap.get?))).all id && emptyB (s.heap.get? (evT (He.frG s.heap.get? (asN s.heap.get?))))) = true := congrArg Prod.snd e
    obtain ⟨e3, e4⟩ := He.ba e2
    refine ⟨_, He.frG_in, ⟨congrArg Prod.fst e, e3⟩, ?_⟩
    unfold emptyB at e4
    split at e4
    · rename_i u hu
      rw [hu, He.emptyTab_eq e4]
    · cases e4
  keeps := fun _ _ _ ⟨K, hK, c, t⟩ k => ⟨K, PySem.W.Frag.In.keeps hK k, c, k _ _ t⟩
theorem obsN_eq {g : Addr → Option Obj} {s : Shared} (h : ∀ a, g a = s.heap.get? a) : obsN g = hookN.obs s := by
  have e : g = s.heap.get? := funext h
  rw [e] <;> rfl
abbrev Row : PySem.W.OpenRow := PySem.W.OpenLaw.row PySem.Challenge.rw_neededlaws_k98_whole_boards_and_needs
def ob (s : PySem.W.SharedT) : AlN := obsN (HandSHeadRun.getT s)
theorem ob_eq (s : PySem.W.SharedT) : ob s = hookN.obs s.abs := obsN_eq (HandSHeadRun.getT_eq s)
theorem run (w : World) : HandSHeadRun.RunEq Row (PySem.W.view Row.prog [70]) hookN ob 6000 nms w := by
  intro os
  kernel_rfl
end NL
set_option Elab.async false
set_option linter.all false
set_option maxRecDepth 100000
set_option maxHeartbeats 2000000
set_option pp.maxSteps 300
/-! Rules of my own: a class's own operators, len, str, in; classmethods without arguments; calls by keywords; C(*xs). -/
namespace NL
open PySem PySem.Spec PyProof.Rows L2

/-- a def's promise: its arguments, the heap, what is wanted of its answer -/
abbrev Pm := List V → Hp → VK → Prop
/-- the def at f keeps the promise, with room for k calls -/
abbrev Ok (P : Program) (w : World) (K : PySem.W.Frag) (mg : Str → Option Value) (base : Heap) (k : Nat) (f : Addr) (pm : Pm) : Prop := FnR P w K mg base L2.CX0 k f (fun vs H Q _ => pm vs H Q)
theorem Ok.mono {P : Program} {w : World} {K : PySem.W.Frag} {mg : Str → Option Value} {base : Heap} {j k : Nat} {f : Addr} {pm : Pm} (F : Ok P w K mg base j f pm) (h : j ≤ k) : Ok P w K mg base k f pm := FnR.mono F h
theorem Ok.imp {P : Program} {w : World} {K : PySem.W.Frag} {mg : Str → Option Value} {base : Heap} {k : Nat} {f : Addr} {pm pm' : Pm} (F : Ok P w K mg base k f pm) (h : ∀ vs H Q, pm' vs H Q → pm vs H Q) : Ok P w K mg base k f pm' :=
  FnR.imp F fun vs H Q _ q => h vs H Q q

/-! how such calls are read -/
def tCal (pm : Pm) (t : TA) : TE := fun σ H Q => t σ H fun vs H1 => pm vs H1 Q
def tMet (C : Addr) (m : Str) (pm : Pm) (ta : TE) (t : TA) : TE := fun σ H Q => ta σ H fun x H1 => ∃ a dx fs, x = .ref a ∧ H1 a = some (.ins C dx fs) ∧ fs.lookup m = none ∧ t σ H1 fun vs H2 => pm (x :: vs) H2 Q
def tMet0 (C : Addr) (m : Str) (pm : Pm) (ta : TE) : TE := fun σ H Q => ta σ H fun x H1 => ∃ a dx fs, x = .ref a ∧ H1 a = some (.ins C dx fs) ∧ fs.lookup m = none ∧ pm [x] H1 Q
def tMak (C : Addr) (pm : Pm) (t : TA) : TE := fun σ H Q => t σ H fun vs H1 => ∀ z dz, H1 z = none → H1 dz = none → dz ≠ z → pm (.ref z :: vs) (upd (upd H1 dz (.own z)) z (.ins C dz [])) fun v H2 => v = .non ∧ Q (.ref z) H2
def tCm0 (C : Addr) (pm : Pm) (ta : TE) : TE := fun σ H Q => ta σ H fun x H1 => x = .ref C ∧ pm [.ref C] H1 Q
def tCalK (ks : List Str) (pm : List V → List V → Hp → VK → Prop) (t tk : TA) : TE := fun σ H Q => t σ H fun vs H1 => tk σ H1 fun zs H2 => zs.length = ks.length ∧ pm vs zs H2 Q
section
variable {X : Cx} {j k : Nat} {f C : Addr} {pm : Pm} {x m : Str} {p pos apos : Pos} {e o : Expr} {es : List Expr} {te ta : TE} {t : TA}
variable {pins : List (Addr × Obj)} {σ : L2.St} {H : Hp} {s : Shared}

/-- such a def run anywhere below the running body -/
theorem run_at {A : Around} {E : Value → Shared → Prop} {Q : VK} {us : List Value} {vs : List V} (F : Ok X.prog X.w X.K X.mg X.base k f pm) (hr : Room k A) (hf : A.frames = X.A.frames) (I : Inv X pins σ H s) (r : Vals vs us) (h : pm vs H Q) :
    wpAny (model X.prog X.w) A (call (.ref f) us) (EP X pins σ Q) E s := by
  have e0 : Env0 X.prog X.w X.K X.mg X.base A X.stack s H := by
    have z := I.env0
    exact ⟨hf.trans z.frames, z.mod, z.bs, z.bsz, z.funs, z.frf, z.hok, z.bare⟩
  refine wpAny_call (codeAny_mono (F A X.stack s H us vs Q E0 hr e0 r h) fun r' s' q => ?_)
  cases r' with
  | error b => exact False.elim q
  | ok fl =>
    cases fl with
    | ret u => exact I.after q
    | next => exact False.elim q
    | brk => exact False.elim q
    | cont => exact False.elim q
/-- f(e, ..) -/
theorem e_call (F : Ok X.prog X.w X.K X.mg X.base k f pm) (hr : Room j X.A) (hk : k ≤ j) (hm : X.mg x = some (.ref f)) (kp : PySem.W.keepIn X.K (.ref f) = true) (ha : PA X (e :: es) t) (hg : Gl X x := by rfl)
    (hdb : (x == ("__debug__" : Str)) = false := by decide) (he : starEach (e :: es) X.env = (false, eval e X.env) :: starEach es X.env := by rfl) (hpl : (backTo pos (starEach es X.env)).any (·.1) = false := by rfl) :
    PE X (.Call (.Name x p) (e :: es) [] pos) (tCal pm t) := by
  refine ⟨fun pins s σ H Q I h => ?_⟩
  refine wpAny_Call_Name_kw (ld_glob I hg hm ?_ hdb)
  refine PySem.W.callWith_K (h₀ := X.base) I.ok.mod.kin kp (thn (ha.run pos pins s σ H _ I h) fun us s1 ⟨vs, H1, I1, r, q⟩ => ⟨I1.kIn, ?_⟩) he hpl
  exact run_at F (hr.mono hk) rfl I1 r q
/-- o.m(e, ..) -/
theorem e_meth {pl : Sem Bool} (ho : PE X o ta) (c : Cls X.K C) (hm : Meth X.K C m f) (F : Ok X.prog X.w X.K X.mg X.base k f pm) (hr : Room j X.A) (hk : k ≤ j) (ha : PA X (e :: es) t)
    (hst : starEach (e :: es) X.env = (false, eval e X.env) :: starEach es X.env := by rfl) (hpl : (backTo pos (starEach es X.env)).any (·.1) = false := by rfl)
    (ht : eval (.Call (.Attribute o m apos) (e :: es) [] pos) X.env = (do
      let ov ← eval o X.env
      standAt apos.atName
      let (f, first) ← holding [ov] (getMethod ov m pl)
      callWith pos f first (backTo pos (starEach (e :: es) X.env)) (backToKw pos (keywordEach [] X.env))) := by rfl) :
    PE X (.Call (.Attribute o m apos) (e :: es) [] pos) (tMet C m pm ta t) := by
  refine ⟨fun pins s σ H Q I h => ?_⟩
  refine PySem.W.methodCall_KW (pl := pl) (thn (ho.run pins s σ H _ I h) fun u s1 ⟨x, H1, I1, rx, a, dx, fs, ex, ha1, hl, q⟩ => ?_) ht
  subst ex
  obtain rfl : u = Value.ref a := rx
  refine getmeth_ok I1 ha1 c hm hl ?_
  refine PySem.W.callWith_K (h₀ := X.base) I1.ok.mod.kin hm.kp (thn (ha.run pos pins s1 σ H1 _ I1 q) fun us s2 ⟨vs, H2, I2, r, q2⟩ => ⟨I2.kIn, ?_⟩) hst hpl
  exact run_at (us := .ref a :: us) (vs := .ref a :: vs) F (hr.mono hk) rfl I2 (.cons rfl r) q2
/-- o.m() -/
theorem e_meth0 {pl : Sem Bool} (ho : PE X o ta) (c : Cls X.K C) (hm : Meth X.K C m f) (F : Ok X.prog X.w X.K X.mg X.base k f pm) (hr : Room j X.A) (hk : k ≤ j)
    (ht : eval (.Call (.Attribute o m apos) [] [] pos) X.env = (do
      let ov ← eval o X.env
      standAt apos.atName
      let (f, first) ← holding [ov] (getMethod ov m pl)
      callWith pos f first (backTo pos (starEach [] X.env)) (backToKw pos (keywordEach [] X.env))) := by rfl) :
    PE X (.Call (.Attribute o m apos) [] [] pos) (tMet0 C m pm ta) := by
  refine ⟨fun pins s σ H Q I h => ?_⟩
  refine PySem.W.methodCall_KW (pl := pl) (thn (ho.run pins s σ H _ I h) fun u s1 ⟨x, H1, I1, rx, a, dx, fs, ex, ha1, hl, q⟩ => ?_) ht
  subst ex
  obtain rfl : u = Value.ref a := rx
  refine getmeth_ok I1 ha1 c hm hl ?_
  exact PySem.W.callWith_K0 (first := [.ref a]) I1.kIn hm.kp (run_at (us := [.ref a]) (vs := [.ref a]) F (hr.mono hk) rfl I1 (.cons rfl .nil) q)

/-! ### a class's own operators -/
/-- an instance of the class at C -/
def Is (C : Addr) (H : Hp) (a : Addr) : Prop := ∃ dx fs, H a = some (.ins C dx fs)
theorem is_at (I : Inv X pins σ H s) {a : Addr} (h : Is C H a) : ∃ ox od, PySem.W.InstAt s.heap a ox C (some od) := by
  obtain ⟨dx, fs, h⟩ := h
  obtain ⟨mA, O, _⟩ := ins_get I.hok h
  obtain ⟨od, J, _⟩ := O.look
  exact ⟨_, od, J⟩
theorem not_ni {z : V} {v : Value} (r : RelV z v) : v ≠ .notImplemented := by
  intro e
  subst e
  have := r.abs
  cases this
theorem cmp_back {z : V} {v : Value} {Q : Value → Shared → Prop} {s' : Shared} (r : RelV z v) (q : Q v s') : PySem.W.CmpBack Q v s' := by
  have n := not_ni r
  cases v <;> first | exact q | exact absurd rfl n
def rOwn2 (C : Addr) (pm : Pm) : R2 := fun x y H Q => ∃ a b, x = .ref a ∧ y = .ref b ∧ Is C H a ∧ Is C H b ∧ pm [.ref a, .ref b] H Q
/-- x == y by the class's own __eq__ -/
theorem o_eq (F : Ok X.prog X.w X.K X.mg X.base k f pm) (hm : Meth X.K C "__eq__" f) (hr : Room j X.A) (hk : k ≤ j) : OpR X (compareOp .Eq) (rOwn2 C pm) := by
  intro pins s σ H x y v u Q I rx ry ⟨a, b, ex, ey, ia, ib, q⟩
  subst ex ey
  obtain rfl : v = Value.ref a := rx
  obtain rfl : u = Value.ref b := ry
  obtain ⟨ox, od, J⟩ := is_at I ia
  obtain ⟨ox', od', J'⟩ := is_at I ib
  obtain ⟨m, hF⟩ := I.fr
  refine PySem.W.cmp_K (op := .Eq) (tb := .ref C) hr.units0 hF I.ok.mod.kin J J'.type (by simp [PySem.W.notFirst]) hm.at_ hm.fn ?_
  refine wpAny_mono (run_at (us := [.ref a, .ref b]) (vs := [.ref a, .ref b]) F (hr.mono hk) rfl I (.cons rfl (.cons rfl .nil)) q) (fun v s' z => ?_) fun _ _ z => z
  obtain ⟨y, H', I', ry, q'⟩ := z
  exact cmp_back ry ⟨y, H', I', ry, q'⟩
/-- x != y where the class has an __eq__ of its own and no __ne__ -/
theorem o_ne (F : Ok X.prog X.w X.K X.mg X.base k f pm) (hm : Meth X.K C "__eq__" f) (hn : PySem.W.findIn X.K (.ref C) "__ne__" = some (some (.builtin "object.__ne__"))) (ht : PySem.W.mroIn X.K C (.type "object") = some true)
    (hr : Room (j + 1) X.A) (hk : k ≤ j) : OpR X (compareOp .NotEq) (fun x y H Q => rOwn2 C pm x y H fun v H' => ∃ c, v = .bl c ∧ Q (.bl (!c)) H') := by
  intro pins s σ H x y v u Q I rx ry ⟨a, b, ex, ey, ia, ib, q⟩
  subst ex ey
  obtain rfl : v = Value.ref a := rx
  obtain rfl : u = Value.ref b := ry
  obtain ⟨ox, od, J⟩ := is_at I ia
  obtain ⟨ox', od', J'⟩ := is_at I ib
  have X0 := I.kIn
  show wpAny _ _ (richCompare .NotEq (.ref a) (.ref b)) _ _ _
  unfold richCompare
  simp only [oneThing_ref]
  refine wpAny_holding (wpAny_bind (wpAny_cRoomFor hr.units0 ?_))
  refine wpAny_bind (J.type.here (wpAny_bind (J'.type.here ?_)))
  rw [show (Value.ref C != Value.ref C) = false from by simp]
  simp only [Bool.false_eq_true, if_false]
  refine wpAny_bind (wpAny_pure ?_)
  simp only [Bool.false_eq_true, if_false]
  -- __ne__ of object asks the own __eq__
  have inner : ∀ Q' : Value → Shared → Prop, (∀ c H' s', Inv X pins σ H' s' → Q (.bl (!c)) H' → Q' (.bool (!c)) s') → wpAny (model X.prog X.w) X.A (call (.builtin "object.__ne__") [.ref a, .ref b]) Q' X.xe s := by
    intro Q' hQ
    refine wpAny_call (codeAny_call_builtin PySem.F.cmp_object.ne.plain PySem.F.cmpEntry_ne ?_)
    have hi : PySem.W.Looks (model X.prog X.w) s.heap (isInstance (.ref a) (.type "object")) true := J.type.andThen (PySem.W.looks_subIn X0 (t := .ref C) ht)
    refine PySem.W.check_slot PySem.F.cmpKind_ne PySem.F.cmpSplit_ne hi (PySem.F.cmpArgs_ne _ _) ?_
    unfold Builtin.«object.__ne__»
    refine wpAny_bind (m := slotArgs "__ne__" 1 _) (wpAny_pure ?_)
    refine wpAny_bind (wpAny_cRoomFor hr.in1.units0 ?_)
    refine wpAny_bind (m := callSpecialIfBound? (.ref a) (Str.ofString "__eq__") [.ref b]) ?_
    refine PySem.W.ifBound_K X0 J hm.at_ hm.fn ?_
    refine wpAny_mono (run_at (us := [.ref a, .ref b]) (vs := [.ref a, .ref b]) F (hr.in1.mono hk) rfl I (.cons rfl (.cons rfl .nil)) q) (fun v s' z => ?_) fun _ _ z => z
    obtain ⟨y, H', I', ry, c, ey, q'⟩ := z
    subst ey
    obtain rfl : v = Value.bool c := ry
    refine wpAny_bind (wpAny_truthy_bool ?_)
    exact wpAny_pure (hQ c H' s' I' q')
  refine wpAny_bind (m := tryCompare (.ref a) "__ne__" (.ref b)) ?_
  unfold tryCompare
  refine wpAny_bind (m := callSpecialIfBound? (.ref a) "__ne__" [.ref b]) ?_
  simp only [callSpecialIfBound?, bindSpecialIfBound?]
  refine wpAny_holding (wpAny_bind (wpAny_bind (wpAny_bind (J.type.here ((PySem.W.looks_findIn X0 hn).here ?_)))))
  have fin := inner (fun v s' => ∃ c H', v = Value.bool (!c) ∧ Inv X pins σ H' s' ∧ Q (.bl (!c)) H') fun c H' s' I' q' => ⟨c, H', rfl, I', q'⟩
  refine wpAny_bind (wpAny_askSetting (wpAny_ite ?_))
  have go : ∀ Q' : Value → Shared → Prop, (∀ c H' s', Inv X pins σ H' s' → Q (.bl (!c)) H' → Q' (.bool (!c)) s') → wpAny (model X.prog X.w) X.A (call (.builtin "object.__ne__") ([.ref a] ++ [.ref b])) Q' X.xe s := inner
  split
  · rw [PySem.F.cmp_object.ne.bind]
    refine wpAny_pure ?_
    refine wpAny_bind (go _ fun c H' s' I' q' => ?_)
    exact wpAny_pure (wpAny_pure (wpAny_pure ⟨.bl (!c), H', I', rfl, q'⟩))
  · rw [PySem.F.cmp_object.ne.bind]
    refine wpAny_tryCatch (wpAny_pure ?_)
    refine wpAny_bind (go _ fun c H' s' I' q' => ?_)
    exact wpAny_pure (wpAny_pure (wpAny_pure ⟨.bl (!c), H', I', rfl, q'⟩))

/-- v in x, v not in x by the class's own __contains__ -/
theorem o_in (F : Ok X.prog X.w X.K X.mg X.base k f pm) (hm : Meth X.K C "__contains__" f) (hr : Room j X.A) (hk : k ≤ j) : OpR X (compareOp .In) (fun x y H Q => ∃ b, y = .ref b ∧ Is C H b ∧ pm [.ref b, x] H fun z H' => ∃ c, z = .bl c ∧ Q (.bl c) H') := by
  intro pins s σ H x y v u Q I rx ry ⟨b, ey, ib, q⟩
  subst ey
  obtain rfl : u = Value.ref b := ry
  obtain ⟨ox, od, J⟩ := is_at I ib
  obtain ⟨m, hF⟩ := I.fr
  refine PySem.W.in_K hF I.ok.mod.kin J hm.at_ hm.fn ?_
  refine wpAny_mono (run_at (us := [.ref b, v]) (vs := [.ref b, x]) F (hr.mono hk) rfl I (.cons rfl (.cons rx .nil)) q) (fun z s' e => ?_) fun _ _ e => e
  obtain ⟨y, H', I', rz, c, ey, q'⟩ := e
  subst ey
  obtain rfl : z = Value.bool c := rz
  exact wpAny_truthy_bool ⟨.bl c, H', I', rfl, q'⟩
theorem o_notIn (F : Ok X.prog X.w X.K X.mg X.base k f pm) (hm : Meth X.K C "__contains__" f) (hr : Room j X.A) (hk : k ≤ j) : OpR X (compareOp .NotIn) (fun x y H Q => ∃ b, y = .ref b ∧ Is C H b ∧ pm [.ref b, x] H fun z H' => ∃ c, z = .bl c ∧ Q (.bl (!c)) H') := by
  intro pins s σ H x y v u Q I rx ry ⟨b, ey, ib, q⟩
  subst ey
  obtain rfl : u = Value.ref b := ry
  obtain ⟨ox, od, J⟩ := is_at I ib
  obtain ⟨m, hF⟩ := I.fr
  refine PySem.W.notIn_K hF I.ok.mod.kin J hm.at_ hm.fn ?_
  refine wpAny_mono (run_at (us := [.ref b, v]) (vs := [.ref b, x]) F (hr.mono hk) rfl I (.cons rfl (.cons rx .nil)) q) (fun z s' e => ?_) fun _ _ e => e
  obtain ⟨y, H', I', rz, c, ey, q'⟩ := e
  subst ey
  obtain rfl : z = Value.bool c := rz
  exact wpAny_truthy_bool ⟨.bl (!c), H', I', rfl, q'⟩
/-- x * y by the class's own __mul__ -/
theorem o_mul (F : Ok X.prog X.w X.K X.mg X.base k f pm) (hm : Meth X.K C "__mul__" f) (hc : PySem.W.selfFirst X.K C = true) (hr : Room j X.A) (hk : k ≤ j) : OpR X (binaryOp .Mult) (rOwn2 C pm) := by
  intro pins s σ H x y v u Q I rx ry ⟨a, b, ex, ey, ia, ib, q⟩
  subst ex ey
  obtain rfl : v = Value.ref a := rx
  obtain rfl : u = Value.ref b := ry
  obtain ⟨ox, od, J⟩ := is_at I ia
  obtain ⟨ox', od', J'⟩ := is_at I ib
  obtain ⟨m, hF⟩ := I.fr
  refine PySem.W.binop_K (op := .Mult) hF I.ok.mod.kin J J'.type hc hm.at_ hm.fn ?_
  refine wpAny_mono (run_at (us := [.ref a, .ref b]) (vs := [.ref a, .ref b]) F (hr.mono hk) rfl I (.cons rfl (.cons rfl .nil)) q) (fun v s' z => ?_) fun _ _ z => z
  obtain ⟨y, H', I', ry, q'⟩ := z
  exact cmp_back ry ⟨y, H', I', ry, q'⟩
/-- len(x) by the class's own __len__ -/
theorem c_len (F : Ok X.prog X.w X.K X.mg X.base k f pm) (hm : Meth X.K C "__len__" f) (hr : Room (j + 1) X.A) (hk : k ≤ j) : CallR X (.builtin "len") (fun xs H Q => ∃ a, xs = [.ref a] ∧ Is C H a ∧ pm [.ref a] H fun z H' => ∃ n : Nat, z = .int n ∧ n ≤ sizeLine ∧ Q (.int n) H') := by
  intro pins s σ H xs us Q I r ⟨a, ex, ia, q⟩
  subst ex
  obtain ⟨u, rfl, ru⟩ := vals1 r
  obtain rfl : u = Value.ref a := ru
  obtain ⟨ox, od, J⟩ := is_at I ia
  obtain ⟨m, hF⟩ := I.fr
  refine PySem.W.len_K hF I.ok.mod.kin J hm.at_ hm.fn ?_
  refine wpAny_mono (run_at (us := [.ref a]) (vs := [.ref a]) F (hr.in1.mono hk) rfl I (.cons rfl .nil) q) (fun v s' z => ?_) fun _ _ z => z
  obtain ⟨y, H', I', ry, n, ey, hn, q'⟩ := z
  subst ey
  obtain ⟨t, rfl⟩ := ry
  exact ⟨⟨Int.natCast_nonneg _, by have := line63; omega⟩, .int n, H', I'.tok _, ⟨_, rfl⟩, q'⟩
/-- str(x) by the class's own __str__ -/
theorem c_str (F : Ok X.prog X.w X.K X.mg X.base k f pm) (hm : Meth X.K C "__str__" f) (hr : Room (j + 2) X.A) (hk : k ≤ j) : CallR X (.type "str") (fun xs H Q => ∃ a, xs = [.ref a] ∧ Is C H a ∧ pm [.ref a] H fun z H' => ∃ y, z = .str y ∧ Q (.str y) H') := by
  intro pins s σ H xs us Q I r ⟨a, ex, ia, q⟩
  subst ex
  obtain ⟨u, rfl, ru⟩ := vals1 r
  obtain rfl : u = Value.ref a := ru
  obtain ⟨ox, od, J⟩ := is_at I ia
  refine PySem.W.kso_call hr.in1.in1.units0 I.kIn J hm.at_ hm.fn ?_
  refine wpAny_mono (run_at (us := [.ref a]) (vs := [.ref a]) F (hr.in1.in1.mono hk) rfl I (.cons rfl .nil) q) (fun v s' z => ?_) fun _ _ z => z
  obtain ⟨y, H', I', ry, t, ey, q'⟩ := z
  subst ey
  obtain ⟨tk, rfl⟩ := ry
  exact ⟨.str t, H', I', ⟨_, rfl⟩, q'⟩

/-! ### C.m() of a classmethod; C(*xs) -/
theorem e_cmeth0 {mc : Value} {q g : Addr} {pl : Sem Bool} (ho : PE X o ta) (r : ClX.CRead X.K C mc) (c : ClX.CMet X.K C mc m q g) (F : Ok X.prog X.w X.K X.mg X.base k g pm) (hr : Room j X.A) (hk : k ≤ j)
    (ht : eval (.Call (.Attribute o m apos) [] [] pos) X.env = (do
      let ov ← eval o X.env
      standAt apos.atName
      let (f, first) ← holding [ov] (getMethod ov m pl)
      callWith pos f first (backTo pos (starEach [] X.env)) (backToKw pos (keywordEach [] X.env))) := by rfl) :
    PE X (.Call (.Attribute o m apos) [] [] pos) (tCm0 C pm ta) := by
  refine ⟨fun pins s σ H Q I h => ?_⟩
  refine PySem.W.methodCall_KW (pl := pl) (thn (ho.run pins s σ H _ I h) fun u s1 ⟨x, H1, I1, rx, ex, q⟩ => ?_) ht
  subst ex
  obtain rfl : u = Value.ref C := rx
  refine ClX.getmethcm_ok I1 r c fun s2 I2 => ?_
  exact PySem.W.callWith_M0 ⟨ClX.pin_at I2, I2.kIn⟩ c.fi (ClX.run_cm (us := []) (vs := []) (E := E0) F (hr.mono hk) pass0 I2 .nil q)
theorem e_makeS {g : Addr} {sp_ : Pos} (M : Mk X.K C g) (F : Ok X.prog X.w X.K X.mg X.base k g pm) (hr : Room j X.A) (hk : k + 1 ≤ j) (hm : X.mg x = some (.ref C)) (he : PE X e te) (hg : Gl X x := by rfl) (hd : (x == ("__debug__" : Str)) = false := by decide)
    (hst : starEach [.Starred e sp_] X.env = [(true, eval e X.env)] := by rfl) :
    PE X (.Call (.Name x p) [.Starred e sp_] [] pos) (fun σ H Q => te σ H fun y H1 => ∃ a xs, y = V.ref a ∧ (SqT X.K H1 a xs ∨ SqL X.K H1 a xs) ∧
      ∀ z dz, H1 z = none → H1 dz = none → dz ≠ z → pm (.ref z :: xs) (upd (upd H1 dz (.own z)) z (.ins C dz [])) fun v H2 => v = .non ∧ Q (.ref z) H2) := by
  refine ⟨fun pins s σ H Q I h => ?_⟩
  refine wpAny_Call_Name_kw (ld_glob I hg hm ?_ hd)
  refine PySem.W.callWith_S (h₀ := X.base) I.ok.mod.kin M.kp (thn (he.run pins s σ H _ I h) fun v s1 ⟨y, H1, I1, ry, a, xs, ey, hxs, q⟩ => ?_) hst
  subst ey
  obtain rfl : v = Value.ref a := ry
  exact StX.star_any I1 hxs fun us s2 I2 rv => ⟨I2.kIn, StX.run_makeR (E := E0) M F (hr.mono hk) pass0 I2 rv q⟩
/-- C(e, ..) -/
theorem e_make {g : Addr} (M : Mk X.K C g) (F : Ok X.prog X.w X.K X.mg X.base k g pm) (hr : Room j X.A) (hk : k + 1 ≤ j) (hm : X.mg x = some (.ref C)) (ha : PA X (e :: es) t) (hg : Gl X x := by rfl) (hdb : (x == ("__debug__" : Str)) = false := by decide)
    (he : starEach (e :: es) X.env = (false, eval e X.env) :: starEach es X.env := by rfl) (hpl : (backTo pos (starEach es X.env)).any (·.1) = false := by rfl) :
    PE X (.Call (.Name x p) (e :: es) [] pos) (tMak C pm t) :=
  StX.pe_makeR (E := E0) M F (hr.mono hk) hg hm pass0 ha hdb he hpl

/-! ### calls with keywords -/
end
/-- called with positional values and values by these names -/
def OkK (P : Program) (w : World) (K : PySem.W.Frag) (mg : Str → Option Value) (base : Heap) (k : Nat) (f : Addr) (ks : List Str) (pm : List V → List V → Hp → VK → Prop) : Prop :=
  ∀ (A : Around) (outer : List Env) (s : Shared) (H : Hp) (us ws : List Value) (vs zs : List V) (Q : VK) (E : XK), Room k A → Env0 P w K mg base A outer s H → Vals vs us → Vals zs ws → zs.length = ks.length → pm vs zs H Q →
    codeAny (model P w) A (.call (.ref f) ⟨us, ks.zip ws⟩) (CR L2.CX0 outer P w H s Q E) s
theorem OkK.mono {P : Program} {w : World} {K : PySem.W.Frag} {mg : Str → Option Value} {base : Heap} {j k : Nat} {f : Addr} {ks : List Str} {pm : List V → List V → Hp → VK → Prop} (F : OkK P w K mg base j f ks pm) (h : j ≤ k) : OkK P w K mg base k f ks pm :=
  fun A outer s H us ws vs zs Q E hr => F A outer s H us ws vs zs Q E (hr.mono h)
section
variable {X : Cx} {j k : Nat} {f C : Addr} {ks : List Str} {pm : List V → List V → Hp → VK → Prop} {x m : Str} {p pos apos : Pos} {e o : Expr} {es : List Expr} {kws : List Keyword} {ta : TE} {t tk : TA}
variable {pins : List (Addr × Obj)} {σ : L2.St} {H : Hp} {s : Shared}
theorem run_kw {Q : VK} {us ws : List Value} {vs zs : List V} (F : OkK X.prog X.w X.K X.mg X.base k f ks pm) (hr : Room k X.A) (I : Inv X pins σ H s) (r : Vals vs us) (rz : Vals zs ws) (hl : zs.length = ks.length) (h : pm vs zs H Q) :
    wpAny (model X.prog X.w) X.A (call (.ref f) us (ks.zip ws)) (EP X pins σ Q) X.xe s := by
  refine wpAny_call (codeAny_mono (F X.A X.stack s H us ws vs zs Q E0 hr I.env0 r rz hl h) fun r' s' q => ?_)
  cases r' with
  | error b => exact False.elim q
  | ok fl =>
    cases fl with
    | ret u => exact I.after q
    | next => exact False.elim q
    | brk => exact False.elim q
    | cont => exact False.elim q
/-- f(e, .., name=v, ..) -/
theorem e_callK (F : OkK X.prog X.w X.K X.mg X.base k f ks pm) (hr : Room j X.A) (hk : k ≤ j) (hm : X.mg x = some (.ref f)) (kp : PySem.W.keepIn X.K (.ref f) = true) (ha : PA X (e :: es) t) (hkw : PK X kws tk) (hg : Gl X x := by rfl)
    (hall : (backToKw pos (keywordEach kws X.env)).all (·.1.isSome) = true := by rfl) (hks : (backToKw pos (keywordEach kws X.env)).filterMap (·.1) = ks := by rfl)
    (hdb : (x == ("__debug__" : Str)) = false := by decide) (he : starEach (e :: es) X.env = (false, eval e X.env) :: starEach es X.env := by rfl)
    (hpl : ((backTo pos (starEach (e :: es) X.env)).any (·.1) || (backToKw pos (keywordEach kws X.env)).any (·.1.isNone)) = false := by rfl) :
    PE X (.Call (.Name x p) (e :: es) kws pos) (tCalK ks pm t tk) := by
  refine ⟨fun pins s σ H Q I h => ?_⟩
  refine wpAny_Call_Name_kw (ld_glob I hg hm ?_ hdb)
  refine PySem.W.callWith_KW (h₀ := X.base) I.ok.mod.kin kp hall (thn (ha.run pos pins s σ H _ I h) fun us s1 ⟨vs, H1, I1, r, q⟩ => ?_) hpl he
  refine thn (hkw.run pos pins s1 σ H1 _ I1 q) fun ws s2 ⟨zs, H2, I2, rz, hl, q2⟩ => ⟨I2.kIn, ?_⟩
  rw [hks]
  exact run_kw F (hr.mono hk) I2 r rz hl q2
/-- o.m(e, .., name=v, ..) -/
theorem e_methK {pl : Sem Bool} {pm : List V → List V → Hp → VK → Prop} (ho : PE X o ta) (c : Cls X.K C) (hm : Meth X.K C m f) (F : OkK X.prog X.w X.K X.mg X.base k f ks pm) (hr : Room j X.A) (hk : k ≤ j) (ha : PA X (e :: es) t) (hkw : PK X kws tk)
    (hall : (backToKw pos (keywordEach kws X.env)).all (·.1.isSome) = true := by rfl) (hks : (backToKw pos (keywordEach kws X.env)).filterMap (·.1) = ks := by rfl)
    (he : starEach (e :: es) X.env = (false, eval e X.env) :: starEach es X.env := by rfl)
    (hpl : ((backTo pos (starEach (e :: es) X.env)).any (·.1) || (backToKw pos (keywordEach kws X.env)).any (·.1.isNone)) = false := by rfl)
    (ht : eval (.Call (.Attribute o m apos) (e :: es) kws pos) X.env = (do
      let ov ← eval o X.env
      standAt apos.atName
      let (f, first) ← holding [ov] (getMethod ov m pl)
      callWith pos f first (backTo pos (starEach (e :: es) X.env)) (backToKw pos (keywordEach kws X.env))) := by rfl) :
    PE X (.Call (.Attribute o m apos) (e :: es) kws pos) (fun σ H Q => ta σ H fun x H1 => ∃ a dx fs, x = .ref a ∧ H1 a = some (.ins C dx fs) ∧ fs.lookup m = none ∧ t σ H1 fun vs H2 => tk σ H2 fun zs H3 => zs.length = ks.length ∧ pm (x :: vs) zs H3 Q) := by
  refine ⟨fun pins s σ H Q I h => ?_⟩
  refine PySem.W.methodCall_KW (pl := pl) (thn (ho.run pins s σ H _ I h) fun u s1 ⟨x, H1, I1, rx, a, dx, fs, ex, ha1, hl, q⟩ => ?_) ht
  subst ex
  obtain rfl : u = Value.ref a := rx
  refine getmeth_ok I1 ha1 c hm hl ?_
  refine PySem.W.callWith_KW (h₀ := X.base) (first := [.ref a]) I1.ok.mod.kin hm.kp hall (thn (ha.run pos pins s1 σ H1 _ I1 q) fun us s2 ⟨vs, H2, I2, r, q2⟩ => ?_) hpl he
  refine thn (hkw.run pos pins s2 σ H2 _ I2 q2) fun ws s3 ⟨zs, H3, I3, rz, hl3, q3⟩ => ⟨I3.kIn, ?_⟩
  rw [hks]
  exact run_kw (us := .ref a :: us) (vs := .ref a :: vs) F (hr.mono hk) I3 (.cons rfl r) rz hl3 q3
end
section
variable {X : Cx}
/-- lists of unlike lengths are unequal, whatever stands in them -/
theorem o_eqLen (hu : X.A.units < cLine) : OpR X (compareOp .Eq) (fun x y H Q => ∃ a b xs ys, x = .ref a ∧ y = .ref b ∧ H a = some (.lst xs) ∧ H b = some (.lst ys) ∧ xs.length ≠ ys.length ∧ Q (.bl false) H) := by
  intro pins s σ H x y v u Q I rx ry ⟨a, b, xs, ys, ex, ey, ha, hb, hne, q⟩
  subst ex ey
  obtain rfl : v = Value.ref a := rx
  obtain rfl : u = Value.ref b := ry
  obtain ⟨_, its, n, r, hl1⟩ := I.hok a _ ha
  obtain ⟨_, its2, n2, r2, hb1⟩ := I.hok b _ hb
  have hn : (its.toArray.size != its2.toArray.size) = true := by
    rw [List.size_toArray, List.size_toArray, ← r.length, ← r2.length]
    simpa using hne
  have fin : EP X pins σ Q (.bool false) s := ⟨.bl false, H, I, rfl, q⟩
  show wpAny _ _ (richCompare .Eq (.ref a) (.ref b)) _ _ _
  refine wpAny_richCompare_same_room (op := .Eq) ⟨_, hl1, rfl⟩ ⟨_, hb1, rfl⟩ PySem.F.slot_list_eq (GQ.call_here PySem.F.slot_list_eq ⟨_, hl1, rfl⟩ PySem.F.entry_list_eq (PySem.F.args_list_eq_2 _ _) ?_) hu
  have f3 := PySem.AutoSeq1.sub_list_list
  obtain ⟨hp, g, d, tk, os⟩ := s
  wp_walk using PySem.AutoSeq1.wpAny_loadPart' hl1, PySem.AutoSeq1.wpAny_loadPart' hb1
  rw [if_pos hn]
  exact wpAny_bind (wpAny_rule (wpAny_pure ⟨(fun z => nomatch z), fin⟩))
end
end NL
set_option Elab.async false
set_option linter.all false
set_option maxRecDepth 100000
set_option maxHeartbeats 4000000
/-! What the head says, by name (printed by gen_text.py). -/
namespace NL
open PySem PySem.Spec PyProof.Rows L2
/-- the head's facts, of K and the module's names -/
structure Txt (K : PySem.W.Frag) (mg : Str → Option Value) : Prop where
  s : Says K
  h : ∃ hp : Heap, K.In hp ∧ hp.Ns mainGlobals mg
section
variable {K : PySem.W.Frag} {mg : Str → Option Value}
theorem Txt.glo (T : Txt K mg) {x : Str} (c : (He.Fa.glo x).ok K = true) : mg x = some (.ref (He.ga K x)) := let ⟨_, X, G⟩ := T.h; He.glo_ok X G c
theorem Txt.free (T : Txt K mg) {x : Str} (c : (He.Fa.free x).ok K = true) : mg x = none := let ⟨_, X, G⟩ := T.h; He.free_ok X G c
theorem Txt.str (T : Txt K mg) {x y : Str} (c : (He.Fa.str x y).ok K = true) : ∃ u, mg x = some u ∧ RelV (.str y) u := let ⟨_, X, G⟩ := T.h; let ⟨t, e⟩ := He.str_ok X G c; ⟨_, e, t, rfl⟩
theorem Txt.int (T : Txt K mg) {x : Str} {i : Int} (c : (He.Fa.int x i).ok K = true) : ∃ u, mg x = some u ∧ RelV (.int i) u := let ⟨_, X, G⟩ := T.h; let ⟨t, e⟩ := He.int_ok X G c; ⟨_, e, t, rfl⟩
theorem Txt.ex (T : Txt K mg) (i : Nat) {b : Bool} (h : (exs K)[i]? = some b := by rfl) : b = true := List.all_eq_true.mp T.s.x b (List.mem_of_getElem? h)
theorem Txt.insC (T : Txt K mg) {x : Str} (cl : Cls K (He.ga K x)) (h : insB K x = true) : C8.InsC K (He.ga K x) := by
  unfold insB at h
  simp only [Bool.and_eq_true] at h
  obtain ⟨h1, h2, h3, h4, h5⟩ := h
  exact ⟨cl, He.eqO_ok h1, He.eqO_ok h2, of_decide_eq_true h3, of_decide_eq_true h4, of_decide_eq_true h5⟩
end
/-- how positional arguments are bound; how those with the keyword-only ones written are -/
def PBind (name qual : Str) (st : Stmt) (ps : List Str) : Prop := ∀ (kV doc pm : Value) (an : Option Addr) (cdv ct : Value) (us : List Value), us.length = ps.length →
  bindArgs (PySem.W.fnOf name qual (defArgs st) (defBody st) (defScope st) .none kV doc pm an cdv ct) ⟨us, []⟩ = pure (ps.zip us)
def KBind (name qual : Str) (st : Stmt) (n : Nat) (ks ps : List Str) : Prop := ∀ (kV doc pm : Value) (an : Option Addr) (cdv ct : Value) (us ws : List Value), us.length = n → ws.length = ks.length →
  bindArgs (PySem.W.fnOf name qual (defArgs st) (defBody st) (defScope st) .none kV doc pm an cdv ct) ⟨us, ks.zip ws⟩ = pure (ps.zip (us ++ ws))
section
variable {P : Program} {w : World} {K : PySem.W.Frag} {mg : Str → Option Value} {base : Heap} {name qual : Str} {st : Stmt} {f : Addr} {N ps ks : List Str} {k n : Nat} {pm : Pm}
/-- the body's rule -/
abbrev Bod (P : Program) (w : World) (K : PySem.W.Frag) (mg : Str → Option Value) (base : Heap) (N : List Str) (qual : Str) (st : Stmt) (f : Addr) (k : Nat) (pm : Pm) : Prop :=
  ∀ (cdv : Value) (A : Around) (outer : List Env) (s : Shared) (H : Hp) (vs : List V) (Q : VK) (E : XK), Room k (A.deeper (envOfC qual (defScope st) s.heap.objs.size f cdv)) → pm vs H Q →
    ∃ t, PSs (cxOf L2.CX0 P w K mg base N qual (defScope st) f cdv A outer s H E).nox (defBody st) t ∧ t { nx := fun _ H' => Q .non H', rt := Q } (start N vs) H
theorem fnok {fd : FuncData} {dvs : List V} {kws : List (Str × V)} (F : FunD K name qual (defArgs st) (defBody st) (defScope st) dvs kws f fd) (S : FnScope N ps (defScope st)) (len : ∀ vs H Q, pm vs H Q → vs.length = ps.length) (hbody : Bod P w K mg base N qual st f k pm) :
    FnOk P w K mg base L2.CX0 (k + 1) f fd ps (fun vs H Q _ => pm vs H Q) := by
  refine F.ok S (fun vs H Q E h => len vs H Q h) fun cdv A outer s H vs Q E hr h => ?_
  obtain ⟨t, ht, q⟩ := hbody cdv A outer s H vs Q E hr h
  exact ⟨t, ht.nox, q⟩
theorem ok_of {kws : List (Str × V)} (F : ∃ fd, FunD K name qual (defArgs st) (defBody st) (defScope st) [] kws f fd) (S : FnScope N ps (defScope st)) (b : PBind name qual st ps) (len : ∀ vs H Q, pm vs H Q → vs.length = ps.length) (hbody : Bod P w K mg base N qual st f k pm) :
    Ok P w K mg base (k + 1) f pm := by
  obtain ⟨fd, F⟩ := F
  have G := (fnok F S len hbody).raw (F.bindsN b) .nil
  exact FnR.imp G fun vs H Q E h => by rw [List.append_nil]; exact h
/-- with its keyword-only parameters written -/
theorem okK_of {kws : List (Str × V)} (F : ∃ fd, FunD K name qual (defArgs st) (defBody st) (defScope st) [] kws f fd) (S : FnScope N ps (defScope st)) (b : KBind name qual st n ks ps) (len : ∀ vs H Q, pm vs H Q → vs.length = ps.length) (hbody : Bod P w K mg base N qual st f k pm) :
    OkK P w K mg base (k + 1) f ks (fun vs zs H Q => vs.length = n ∧ pm (vs ++ zs) H Q) := by
  obtain ⟨fd, F⟩ := F
  intro A outer s H us ws vs zs Q E hr e0 r rz hl ⟨hn, h⟩
  have G := fnok F S len hbody
  refine G.run A outer s H ⟨us, ks.zip ws⟩ (us ++ ws) (vs ++ zs) Q E hr e0 ?_ (r.append rz) h
  obtain ⟨oc, od, dV, kV, doc, pm', an, cdv, ct, osl, rfl, lk, hcd, hD, hK⟩ := F.ex
  rcases hD with ⟨_, rfl⟩ | ⟨e, _⟩
  · exact .of_eq (b kV doc pm' an cdv ct us ws (r.length.symm.trans hn) (rz.length.symm.trans hl))
  · exact absurd rfl e
end

section
variable {K : PySem.W.Frag} {mg : Str → Option Value}
abbrev cRules (K : PySem.W.Frag) : Addr := He.ga K "Rules"
abbrev cFamily (K : PySem.W.Frag) : Addr := He.ga K "Family"
abbrev cWay (K : PySem.W.Frag) : Addr := He.ga K "Way"
abbrev cBoard (K : PySem.W.Frag) : Addr := He.ga K "Board"
theorem g_different (T : Txt K mg) : mg "different" = some (.ref (He.ga K "different")) := T.glo (T.s.a.fact 0 rfl)
theorem g_beginning (T : Txt K mg) : mg "beginning" = some (.ref (He.ga K "beginning")) := T.glo (T.s.a.fact 1 rfl)
theorem g_ending (T : Txt K mg) : mg "ending" = some (.ref (He.ga K "ending")) := T.glo (T.s.a.fact 2 rfl)
theorem g_merged (T : Txt K mg) : mg "merged" = some (.ref (He.ga K "merged")) := T.glo (T.s.a.fact 3 rfl)
theorem g_band_form (T : Txt K mg) : mg "band_form" = some (.ref (He.ga K "band_form")) := T.glo (T.s.a.fact 4 rfl)
theorem g_tree_form (T : Txt K mg) : mg "tree_form" = some (.ref (He.ga K "tree_form")) := T.glo (T.s.a.fact 5 rfl)
theorem g_word_form (T : Txt K mg) : mg "word_form" = some (.ref (He.ga K "word_form")) := T.glo (T.s.a.fact 6 rfl)
theorem g_plain (T : Txt K mg) : mg "plain" = some (.ref (He.ga K "plain")) := T.glo (T.s.a.fact 7 rfl)
theorem g_alike (T : Txt K mg) : mg "alike" = some (.ref (He.ga K "alike")) := T.glo (T.s.a.fact 8 rfl)
theorem g_needed (T : Txt K mg) : mg "needed" = some (.ref (He.ga K "needed")) := T.glo (T.s.a.fact 9 rfl)
theorem g_expected (T : Txt K mg) : mg "expected" = some (.ref (He.ga K "expected")) := T.glo (T.s.a.fact 10 rfl)
theorem g_end_of (T : Txt K mg) : mg "end_of" = some (.ref (He.ga K "end_of")) := T.glo (T.s.a.fact 11 rfl)
theorem g_shorter_by (T : Txt K mg) : mg "shorter_by" = some (.ref (He.ga K "shorter_by")) := T.glo (T.s.a.fact 12 rfl)
theorem g_one_step (T : Txt K mg) : mg "one_step" = some (.ref (He.ga K "one_step")) := T.glo (T.s.a.fact 13 rfl)
theorem g_tree_link_right (T : Txt K mg) : mg "tree_link_right" = some (.ref (He.ga K "tree_link_right")) := T.glo (T.s.a.fact 14 rfl)
theorem g_walked (T : Txt K mg) : mg "walked" = some (.ref (He.ga K "walked")) := T.glo (T.s.a.fact 15 rfl)
theorem g__law_pool (T : Txt K mg) : mg "_law_pool" = some (.ref (He.ga K "_law_pool")) := T.glo (T.s.a.fact 16 rfl)
theorem g__law_take (T : Txt K mg) : mg "_law_take" = some (.ref (He.ga K "_law_take")) := T.glo (T.s.a.fact 17 rfl)
theorem g__law_cell (T : Txt K mg) : mg "_law_cell" = some (.ref (He.ga K "_law_cell")) := T.glo (T.s.a.fact 18 rfl)
theorem g__law_tree (T : Txt K mg) : mg "_law_tree" = some (.ref (He.ga K "_law_tree")) := T.glo (T.s.a.fact 19 rfl)
theorem g__law_text (T : Txt K mg) : mg "_law_text" = some (.ref (He.ga K "_law_text")) := T.glo (T.s.a.fact 20 rfl)
theorem g__law_leaves (T : Txt K mg) : mg "_law_leaves" = some (.ref (He.ga K "_law_leaves")) := T.glo (T.s.a.fact 21 rfl)
theorem g__law_paths (T : Txt K mg) : mg "_law_paths" = some (.ref (He.ga K "_law_paths")) := T.glo (T.s.a.fact 22 rfl)
theorem g__law_part (T : Txt K mg) : mg "_law_part" = some (.ref (He.ga K "_law_part")) := T.glo (T.s.a.fact 23 rfl)
theorem g__law_put (T : Txt K mg) : mg "_law_put" = some (.ref (He.ga K "_law_put")) := T.glo (T.s.a.fact 24 rfl)
theorem g__law_deed (T : Txt K mg) : mg "_law_deed" = some (.ref (He.ga K "_law_deed")) := T.glo (T.s.a.fact 25 rfl)
theorem g__law_done (T : Txt K mg) : mg "_law_done" = some (.ref (He.ga K "_law_done")) := T.glo (T.s.a.fact 26 rfl)
theorem g__law_drawn (T : Txt K mg) : mg "_law_drawn" = some (.ref (He.ga K "_law_drawn")) := T.glo (T.s.a.fact 27 rfl)
theorem g__law_different (T : Txt K mg) : mg "_law_different" = some (.ref (He.ga K "_law_different")) := T.glo (T.s.a.fact 28 rfl)
theorem g__law_band (T : Txt K mg) : mg "_law_band" = some (.ref (He.ga K "_law_band")) := T.glo (T.s.a.fact 29 rfl)
theorem g__law_word_form (T : Txt K mg) : mg "_law_word_form" = some (.ref (He.ga K "_law_word_form")) := T.glo (T.s.a.fact 30 rfl)
theorem g__law_tree_form (T : Txt K mg) : mg "_law_tree_form" = some (.ref (He.ga K "_law_tree_form")) := T.glo (T.s.a.fact 31 rfl)
theorem g__law_plain (T : Txt K mg) : mg "_law_plain" = some (.ref (He.ga K "_law_plain")) := T.glo (T.s.a.fact 32 rfl)
theorem g__law_due (T : Txt K mg) : mg "_law_due" = some (.ref (He.ga K "_law_due")) := T.glo (T.s.a.fact 33 rfl)
theorem g__law_spared (T : Txt K mg) : mg "_law_spared" = some (.ref (He.ga K "_law_spared")) := T.glo (T.s.a.fact 34 rfl)
theorem g__law_looks (T : Txt K mg) : mg "_law_looks" = some (.ref (He.ga K "_law_looks")) := T.glo (T.s.a.fact 35 rfl)
theorem g__law_kept (T : Txt K mg) : mg "_law_kept" = some (.ref (He.ga K "_law_kept")) := T.glo (T.s.a.fact 36 rfl)
theorem g__law_stays (T : Txt K mg) : mg "_law_stays" = some (.ref (He.ga K "_law_stays")) := T.glo (T.s.a.fact 37 rfl)
theorem g__law_ends (T : Txt K mg) : mg "_law_ends" = some (.ref (He.ga K "_law_ends")) := T.glo (T.s.a.fact 38 rfl)
theorem g_law (T : Txt K mg) : mg "law" = some (.ref (He.ga K "law")) := T.glo (T.s.a.fact 39 rfl)
theorem g_needed_alike (T : Txt K mg) : mg "needed_alike" = some (.ref (He.ga K "needed_alike")) := T.glo (T.s.a.fact 40 rfl)
theorem g_Rules (T : Txt K mg) : mg "Rules" = some (.ref (He.ga K "Rules")) := T.glo (T.s.a.fact 41 rfl)
theorem g_Family (T : Txt K mg) : mg "Family" = some (.ref (He.ga K "Family")) := T.glo (T.s.a.fact 42 rfl)
theorem g_Way (T : Txt K mg) : mg "Way" = some (.ref (He.ga K "Way")) := T.glo (T.s.a.fact 43 rfl)
theorem g_Board (T : Txt K mg) : mg "Board" = some (.ref (He.ga K "Board")) := T.glo (T.s.a.fact 44 rfl)
theorem g_NoPlace (T : Txt K mg) : mg "NoPlace" = some (.ref (He.ga K "NoPlace")) := T.glo (T.s.a.fact 45 rfl)
theorem g_NoWay (T : Txt K mg) : mg "NoWay" = some (.ref (He.ga K "NoWay")) := T.glo (T.s.a.fact 46 rfl)
theorem g_NoStep (T : Txt K mg) : mg "NoStep" = some (.ref (He.ga K "NoStep")) := T.glo (T.s.a.fact 47 rfl)
theorem z_len (T : Txt K mg) : mg "len" = none := T.free (T.s.a.fact 48 rfl)
theorem z_any (T : Txt K mg) : mg "any" = none := T.free (T.s.a.fact 49 rfl)
theorem z_all (T : Txt K mg) : mg "all" = none := T.free (T.s.a.fact 50 rfl)
theorem z_sorted (T : Txt K mg) : mg "sorted" = none := T.free (T.s.a.fact 51 rfl)
theorem z_list (T : Txt K mg) : mg "list" = none := T.free (T.s.a.fact 52 rfl)
theorem z_set (T : Txt K mg) : mg "set" = none := T.free (T.s.a.fact 53 rfl)
theorem z_min (T : Txt K mg) : mg "min" = none := T.free (T.s.a.fact 54 rfl)
theorem z_range (T : Txt K mg) : mg "range" = none := T.free (T.s.a.fact 55 rfl)
theorem z_reversed (T : Txt K mg) : mg "reversed" = none := T.free (T.s.a.fact 56 rfl)
theorem z_enumerate (T : Txt K mg) : mg "enumerate" = none := T.free (T.s.a.fact 57 rfl)
theorem z_isinstance (T : Txt K mg) : mg "isinstance" = none := T.free (T.s.a.fact 58 rfl)
theorem z_str (T : Txt K mg) : mg "str" = none := T.free (T.s.a.fact 59 rfl)
theorem z_int (T : Txt K mg) : mg "int" = none := T.free (T.s.a.fact 60 rfl)
theorem z_tuple (T : Txt K mg) : mg "tuple" = none := T.free (T.s.a.fact 61 rfl)
theorem z_bool (T : Txt K mg) : mg "bool" = none := T.free (T.s.a.fact 62 rfl)
theorem g_LETTERS_rules (T : Txt K mg) : ∃ u, mg "LETTERS_rules" = some u ∧ RelV (.str "ACIUZ") u := T.str (T.s.a.fact 63 rfl)
theorem g_LETTERS_ways (T : Txt K mg) : ∃ u, mg "LETTERS_ways" = some u ∧ RelV (.str "abcdefghijklmnopqrstuvwxyz") u := T.str (T.s.a.fact 64 rfl)
theorem g_LONGEST_NAME (T : Txt K mg) : ∃ u, mg "LONGEST_NAME" = some u ∧ RelV (.int 6) u := T.int (T.s.a.fact 65 rfl)
theorem g_MOST_LEAVES (T : Txt K mg) : ∃ u, mg "MOST_LEAVES" = some u ∧ RelV (.int 20) u := T.int (T.s.a.fact 66 rfl)
theorem cl_Rules (T : Txt K mg) : Cls K (cRules K) := He.cls_ok (T.s.a.fact 67 rfl)
theorem mk_Rules (T : Txt K mg) : Mk K (cRules K) (He.ma K (cRules K) "__init__") := He.mkr_ok (T.s.a.fact 68 rfl)
theorem no_Rules_letters (T : Txt K mg) : NoAttr K (cRules K) "letters" := He.noat_ok (T.s.a.fact 69 rfl)
theorem cl_Family (T : Txt K mg) : Cls K (cFamily K) := He.cls_ok (T.s.a.fact 70 rfl)
theorem mk_Family (T : Txt K mg) : Mk K (cFamily K) (He.ma K (cFamily K) "__init__") := He.mkr_ok (T.s.a.fact 71 rfl)
theorem no_Family_members (T : Txt K mg) : NoAttr K (cFamily K) "members" := He.noat_ok (T.s.a.fact 72 rfl)
theorem cl_Way (T : Txt K mg) : Cls K (cWay K) := He.cls_ok (T.s.a.fact 73 rfl)
theorem mk_Way (T : Txt K mg) : Mk K (cWay K) (He.ma K (cWay K) "__init__") := He.mkr_ok (T.s.a.fact 74 rfl)
theorem no_Way_text (T : Txt K mg) : NoAttr K (cWay K) "text" := He.noat_ok (T.s.a.fact 75 rfl)
theorem no_Way_name (T : Txt K mg) : NoAttr K (cWay K) "name" := He.noat_ok (T.s.a.fact 76 rfl)
theorem no_Way_left (T : Txt K mg) : NoAttr K (cWay K) "left" := He.noat_ok (T.s.a.fact 77 rfl)
theorem no_Way_right (T : Txt K mg) : NoAttr K (cWay K) "right" := He.noat_ok (T.s.a.fact 78 rfl)
theorem no_Way_leaves (T : Txt K mg) : NoAttr K (cWay K) "leaves" := He.noat_ok (T.s.a.fact 79 rfl)
theorem cl_Board (T : Txt K mg) : Cls K (cBoard K) := He.cls_ok (T.s.a.fact 80 rfl)
theorem mk_Board (T : Txt K mg) : Mk K (cBoard K) (He.ma K (cBoard K) "__init__") := He.mkr_ok (T.s.a.fact 81 rfl)
theorem no_Board_first (T : Txt K mg) : NoAttr K (cBoard K) "first" := He.noat_ok (T.s.a.fact 82 rfl)
theorem no_Board_deeds (T : Txt K mg) : NoAttr K (cBoard K) "deeds" := He.noat_ok (T.s.a.fact 83 rfl)
theorem m_Rules_contains (T : Txt K mg) : Meth K (cRules K) "__contains__" (He.ma K (cRules K) "__contains__") := He.meth_ok (T.s.a.fact 84 rfl)
theorem m_Rules_eq (T : Txt K mg) : Meth K (cRules K) "__eq__" (He.ma K (cRules K) "__eq__") := He.meth_ok (T.s.a.fact 85 rfl)
theorem m_Rules_within (T : Txt K mg) : Meth K (cRules K) "within" (He.ma K (cRules K) "within") := He.meth_ok (T.s.a.fact 86 rfl)
theorem m_Family_contains (T : Txt K mg) : Meth K (cFamily K) "__contains__" (He.ma K (cFamily K) "__contains__") := He.meth_ok (T.s.a.fact 87 rfl)
theorem m_Family_eq (T : Txt K mg) : Meth K (cFamily K) "__eq__" (He.ma K (cFamily K) "__eq__") := He.meth_ok (T.s.a.fact 88 rfl)
theorem m_Family_sets (T : Txt K mg) : Meth K (cFamily K) "sets" (He.ma K (cFamily K) "sets") := He.meth_ok (T.s.a.fact 89 rfl)
theorem m_Family_least (T : Txt K mg) : Meth K (cFamily K) "least" (He.ma K (cFamily K) "least") := He.meth_ok (T.s.a.fact 90 rfl)
theorem m_Family_above_another (T : Txt K mg) : Meth K (cFamily K) "above_another" (He.ma K (cFamily K) "above_another") := He.meth_ok (T.s.a.fact 91 rfl)
theorem m_Way_str (T : Txt K mg) : Meth K (cWay K) "__str__" (He.ma K (cWay K) "__str__") := He.meth_ok (T.s.a.fact 92 rfl)
theorem m_Way_len (T : Txt K mg) : Meth K (cWay K) "__len__" (He.ma K (cWay K) "__len__") := He.meth_ok (T.s.a.fact 93 rfl)
theorem m_Way_eq (T : Txt K mg) : Meth K (cWay K) "__eq__" (He.ma K (cWay K) "__eq__") := He.meth_ok (T.s.a.fact 94 rfl)
theorem m_Way_mul (T : Txt K mg) : Meth K (cWay K) "__mul__" (He.ma K (cWay K) "__mul__") := He.meth_ok (T.s.a.fact 95 rfl)
theorem m_Way_places (T : Txt K mg) : Meth K (cWay K) "places" (He.ma K (cWay K) "places") := He.meth_ok (T.s.a.fact 96 rfl)
theorem m_Way_part (T : Txt K mg) : Meth K (cWay K) "part" (He.ma K (cWay K) "part") := He.meth_ok (T.s.a.fact 97 rfl)
theorem m_Way_put (T : Txt K mg) : Meth K (cWay K) "put" (He.ma K (cWay K) "put") := He.meth_ok (T.s.a.fact 98 rfl)
theorem m_Board_begun (T : Txt K mg) : Meth K (cBoard K) "begun" (He.ma K (cBoard K) "begun") := He.meth_ok (T.s.a.fact 99 rfl)
theorem m_Board_now (T : Txt K mg) : Meth K (cBoard K) "now" (He.ma K (cBoard K) "now") := He.meth_ok (T.s.a.fact 100 rfl)
theorem m_Board_part_at (T : Txt K mg) : Meth K (cBoard K) "part_at" (He.ma K (cBoard K) "part_at") := He.meth_ok (T.s.a.fact 101 rfl)
theorem m_Board_pair_at (T : Txt K mg) : Meth K (cBoard K) "pair_at" (He.ma K (cBoard K) "pair_at") := He.meth_ok (T.s.a.fact 102 rfl)
theorem m_Board_change (T : Txt K mg) : Meth K (cBoard K) "change" (He.ma K (cBoard K) "change") := He.meth_ok (T.s.a.fact 103 rfl)
theorem m_Board_regroup (T : Txt K mg) : Meth K (cBoard K) "regroup" (He.ma K (cBoard K) "regroup") := He.meth_ok (T.s.a.fact 104 rfl)
theorem m_Board_exchange (T : Txt K mg) : Meth K (cBoard K) "exchange" (He.ma K (cBoard K) "exchange") := He.meth_ok (T.s.a.fact 105 rfl)
theorem m_Board_double (T : Txt K mg) : Meth K (cBoard K) "double" (He.ma K (cBoard K) "double") := He.meth_ok (T.s.a.fact 106 rfl)
theorem m_Board_single (T : Txt K mg) : Meth K (cBoard K) "single" (He.ma K (cBoard K) "single") := He.meth_ok (T.s.a.fact 107 rfl)
theorem m_Board_pad (T : Txt K mg) : Meth K (cBoard K) "pad" (He.ma K (cBoard K) "pad") := He.meth_ok (T.s.a.fact 108 rfl)
theorem m_Board_bare (T : Txt K mg) : Meth K (cBoard K) "bare" (He.ma K (cBoard K) "bare") := He.meth_ok (T.s.a.fact 109 rfl)
theorem m_Board_swallow (T : Txt K mg) : Meth K (cBoard K) "swallow" (He.ma K (cBoard K) "swallow") := He.meth_ok (T.s.a.fact 110 rfl)
theorem m_Board_spread (T : Txt K mg) : Meth K (cBoard K) "spread" (He.ma K (cBoard K) "spread") := He.meth_ok (T.s.a.fact 111 rfl)
theorem m_Board_used (T : Txt K mg) : Meth K (cBoard K) "used" (He.ma K (cBoard K) "used") := He.meth_ok (T.s.a.fact 112 rfl)
theorem m_Board_steps (T : Txt K mg) : Meth K (cBoard K) "steps" (He.ma K (cBoard K) "steps") := He.meth_ok (T.s.a.fact 113 rfl)
theorem m_Board_needed (T : Txt K mg) : Meth K (cBoard K) "needed" (He.ma K (cBoard K) "needed") := He.meth_ok (T.s.a.fact 114 rfl)
theorem m_Board_spared (T : Txt K mg) : Meth K (cBoard K) "spared" (He.ma K (cBoard K) "spared") := He.meth_ok (T.s.a.fact 115 rfl)
theorem m_Board_undo (T : Txt K mg) : Meth K (cBoard K) "undo" (He.ma K (cBoard K) "undo") := He.meth_ok (T.s.a.fact 116 rfl)
abbrev a_Rules_init (K : PySem.W.Frag) : Addr := He.ma K (cRules K) "__init__"
theorem F_Rules_init (T : Txt K mg) : ∃ fd, FunD K "__init__" "Rules.__init__" (defArgs sRules_init) (defBody sRules_init) (defScope sRules_init) [.str ""] [] (a_Rules_init K) fd := T.s.a.def_ 0 (d := dRules_init) rfl
theorem k_Rules_init (T : Txt K mg) : PySem.W.keepIn K (.ref (a_Rules_init K)) = true := let ⟨_, F⟩ := F_Rules_init T; F.kp
abbrev a_Rules_contains (K : PySem.W.Frag) : Addr := He.ma K (cRules K) "__contains__"
theorem F_Rules_contains (T : Txt K mg) : ∃ fd, FunD K "__contains__" "Rules.__contains__" (defArgs sRules_contains) (defBody sRules_contains) (defScope sRules_contains) [] [] (a_Rules_contains K) fd := T.s.a.def_ 1 (d := dRules_contains) rfl
theorem k_Rules_contains (T : Txt K mg) : PySem.W.keepIn K (.ref (a_Rules_contains K)) = true := let ⟨_, F⟩ := F_Rules_contains T; F.kp
abbrev a_Rules_eq (K : PySem.W.Frag) : Addr := He.ma K (cRules K) "__eq__"
theorem F_Rules_eq (T : Txt K mg) : ∃ fd, FunD K "__eq__" "Rules.__eq__" (defArgs sRules_eq) (defBody sRules_eq) (defScope sRules_eq) [] [] (a_Rules_eq K) fd := T.s.a.def_ 2 (d := dRules_eq) rfl
theorem k_Rules_eq (T : Txt K mg) : PySem.W.keepIn K (.ref (a_Rules_eq K)) = true := let ⟨_, F⟩ := F_Rules_eq T; F.kp
abbrev a_Rules_within (K : PySem.W.Frag) : Addr := He.ma K (cRules K) "within"
theorem F_Rules_within (T : Txt K mg) : ∃ fd, FunD K "within" "Rules.within" (defArgs sRules_within) (defBody sRules_within) (defScope sRules_within) [] [] (a_Rules_within K) fd := T.s.a.def_ 3 (d := dRules_within) rfl
theorem k_Rules_within (T : Txt K mg) : PySem.W.keepIn K (.ref (a_Rules_within K)) = true := let ⟨_, F⟩ := F_Rules_within T; F.kp
abbrev a_Rules_every (K : PySem.W.Frag) : Addr := He5.wf K (cRules K) "classmethod" "every"
theorem F_Rules_every (T : Txt K mg) : ∃ fd, FunD K "every" "Rules.every" (defArgs sRules_every) (defBody sRules_every) (defScope sRules_every) [] [] (a_Rules_every K) fd := T.s.a.def_ 4 (d := dRules_every) rfl
theorem k_Rules_every (T : Txt K mg) : PySem.W.keepIn K (.ref (a_Rules_every K)) = true := let ⟨_, F⟩ := F_Rules_every T; F.kp
abbrev a_Family_init (K : PySem.W.Frag) : Addr := He.ma K (cFamily K) "__init__"
theorem F_Family_init (T : Txt K mg) : ∃ fd, FunD K "__init__" "Family.__init__" (defArgs sFamily_init) (defBody sFamily_init) (defScope sFamily_init) [] [] (a_Family_init K) fd := T.s.a.def_ 5 (d := dFamily_init) rfl
theorem k_Family_init (T : Txt K mg) : PySem.W.keepIn K (.ref (a_Family_init K)) = true := let ⟨_, F⟩ := F_Family_init T; F.kp
abbrev a_Family_contains (K : PySem.W.Frag) : Addr := He.ma K (cFamily K) "__contains__"
theorem F_Family_contains (T : Txt K mg) : ∃ fd, FunD K "__contains__" "Family.__contains__" (defArgs sFamily_contains) (defBody sFamily_contains) (defScope sFamily_contains) [] [] (a_Family_contains K) fd := T.s.a.def_ 6 (d := dFamily_contains) rfl
theorem k_Family_contains (T : Txt K mg) : PySem.W.keepIn K (.ref (a_Family_contains K)) = true := let ⟨_, F⟩ := F_Family_contains T; F.kp
abbrev a_Family_eq (K : PySem.W.Frag) : Addr := He.ma K (cFamily K) "__eq__"
theorem F_Family_eq (T : Txt K mg) : ∃ fd, FunD K "__eq__" "Family.__eq__" (defArgs sFamily_eq) (defBody sFamily_eq) (defScope sFamily_eq) [] [] (a_Family_eq K) fd := T.s.a.def_ 7 (d := dFamily_eq) rfl
theorem k_Family_eq (T : Txt K mg) : PySem.W.keepIn K (.ref (a_Family_eq K)) = true := let ⟨_, F⟩ := F_Family_eq T; F.kp
abbrev a_Family_sets (K : PySem.W.Frag) : Addr := He.ma K (cFamily K) "sets"
theorem F_Family_sets (T : Txt K mg) : ∃ fd, FunD K "sets" "Family.sets" (defArgs sFamily_sets) (defBody sFamily_sets) (defScope sFamily_sets) [] [] (a_Family_sets K) fd := T.s.a.def_ 8 (d := dFamily_sets) rfl
theorem k_Family_sets (T : Txt K mg) : PySem.W.keepIn K (.ref (a_Family_sets K)) = true := let ⟨_, F⟩ := F_Family_sets T; F.kp
abbrev a_Family_least (K : PySem.W.Frag) : Addr := He.ma K (cFamily K) "least"
theorem F_Family_least (T : Txt K mg) : ∃ fd, FunD K "least" "Family.least" (defArgs sFamily_least) (defBody sFamily_least) (defScope sFamily_least) [] [] (a_Family_least K) fd := T.s.a.def_ 9 (d := dFamily_least) rfl
theorem k_Family_least (T : Txt K mg) : PySem.W.keepIn K (.ref (a_Family_least K)) = true := let ⟨_, F⟩ := F_Family_least T; F.kp
abbrev a_Family_above_another (K : PySem.W.Frag) : Addr := He.ma K (cFamily K) "above_another"
theorem F_Family_above_another (T : Txt K mg) : ∃ fd, FunD K "above_another" "Family.above_another" (defArgs sFamily_above_another) (defBody sFamily_above_another) (defScope sFamily_above_another) [] [] (a_Family_above_another K) fd := T.s.a.def_ 10 (d := dFamily_above_another) rfl
theorem k_Family_above_another (T : Txt K mg) : PySem.W.keepIn K (.ref (a_Family_above_another K)) = true := let ⟨_, F⟩ := F_Family_above_another T; F.kp
abbrev a_different (K : PySem.W.Frag) : Addr := He.ga K "different"
theorem F_different (T : Txt K mg) : ∃ fd, FunD K "different" "different" (defArgs sdifferent) (defBody sdifferent) (defScope sdifferent) [] [] (a_different K) fd := T.s.a.def_ 11 (d := ddifferent) rfl
theorem k_different (T : Txt K mg) : PySem.W.keepIn K (.ref (a_different K)) = true := let ⟨_, F⟩ := F_different T; F.kp
abbrev a_beginning (K : PySem.W.Frag) : Addr := He.ga K "beginning"
theorem F_beginning (T : Txt K mg) : ∃ fd, FunD K "beginning" "beginning" (defArgs sbeginning) (defBody sbeginning) (defScope sbeginning) [] [] (a_beginning K) fd := T.s.a.def_ 12 (d := dbeginning) rfl
theorem k_beginning (T : Txt K mg) : PySem.W.keepIn K (.ref (a_beginning K)) = true := let ⟨_, F⟩ := F_beginning T; F.kp
abbrev a_ending (K : PySem.W.Frag) : Addr := He.ga K "ending"
theorem F_ending (T : Txt K mg) : ∃ fd, FunD K "ending" "ending" (defArgs sending) (defBody sending) (defScope sending) [] [] (a_ending K) fd := T.s.a.def_ 13 (d := dending) rfl
theorem k_ending (T : Txt K mg) : PySem.W.keepIn K (.ref (a_ending K)) = true := let ⟨_, F⟩ := F_ending T; F.kp
abbrev a_merged (K : PySem.W.Frag) : Addr := He.ga K "merged"
theorem F_merged (T : Txt K mg) : ∃ fd, FunD K "merged" "merged" (defArgs smerged) (defBody smerged) (defScope smerged) [] [] (a_merged K) fd := T.s.a.def_ 14 (d := dmerged) rfl
theorem k_merged (T : Txt K mg) : PySem.W.keepIn K (.ref (a_merged K)) = true := let ⟨_, F⟩ := F_merged T; F.kp
abbrev a_band_form (K : PySem.W.Frag) : Addr := He.ga K "band_form"
theorem F_band_form (T : Txt K mg) : ∃ fd, FunD K "band_form" "band_form" (defArgs sband_form) (defBody sband_form) (defScope sband_form) [] [] (a_band_form K) fd := T.s.a.def_ 15 (d := dband_form) rfl
theorem k_band_form (T : Txt K mg) : PySem.W.keepIn K (.ref (a_band_form K)) = true := let ⟨_, F⟩ := F_band_form T; F.kp
abbrev a_tree_form (K : PySem.W.Frag) : Addr := He.ga K "tree_form"
theorem F_tree_form (T : Txt K mg) : ∃ fd, FunD K "tree_form" "tree_form" (defArgs stree_form) (defBody stree_form) (defScope stree_form) [] [] (a_tree_form K) fd := T.s.a.def_ 16 (d := dtree_form) rfl
theorem k_tree_form (T : Txt K mg) : PySem.W.keepIn K (.ref (a_tree_form K)) = true := let ⟨_, F⟩ := F_tree_form T; F.kp
abbrev a_word_form (K : PySem.W.Frag) : Addr := He.ga K "word_form"
theorem F_word_form (T : Txt K mg) : ∃ fd, FunD K "word_form" "word_form" (defArgs sword_form) (defBody sword_form) (defScope sword_form) [] [] (a_word_form K) fd := T.s.a.def_ 17 (d := dword_form) rfl
theorem k_word_form (T : Txt K mg) : PySem.W.keepIn K (.ref (a_word_form K)) = true := let ⟨_, F⟩ := F_word_form T; F.kp
abbrev a_plain (K : PySem.W.Frag) : Addr := He.ga K "plain"
theorem F_plain (T : Txt K mg) : ∃ fd, FunD K "plain" "plain" (defArgs splain) (defBody splain) (defScope splain) [] [] (a_plain K) fd := T.s.a.def_ 18 (d := dplain) rfl
theorem k_plain (T : Txt K mg) : PySem.W.keepIn K (.ref (a_plain K)) = true := let ⟨_, F⟩ := F_plain T; F.kp
abbrev a_alike (K : PySem.W.Frag) : Addr := He.ga K "alike"
theorem F_alike (T : Txt K mg) : ∃ fd, FunD K "alike" "alike" (defArgs salike) (defBody salike) (defScope salike) [] [] (a_alike K) fd := T.s.a.def_ 19 (d := dalike) rfl
theorem k_alike (T : Txt K mg) : PySem.W.keepIn K (.ref (a_alike K)) = true := let ⟨_, F⟩ := F_alike T; F.kp
abbrev a_needed (K : PySem.W.Frag) : Addr := He.ga K "needed"
theorem F_needed (T : Txt K mg) : ∃ fd, FunD K "needed" "needed" (defArgs sneeded) (defBody sneeded) (defScope sneeded) [] [] (a_needed K) fd := T.s.a.def_ 20 (d := dneeded) rfl
theorem k_needed (T : Txt K mg) : PySem.W.keepIn K (.ref (a_needed K)) = true := let ⟨_, F⟩ := F_needed T; F.kp
abbrev a_expected (K : PySem.W.Frag) : Addr := He.ga K "expected"
theorem F_expected (T : Txt K mg) : ∃ fd, FunD K "expected" "expected" (defArgs sexpected) (defBody sexpected) (defScope sexpected) [] [] (a_expected K) fd := T.s.a.def_ 21 (d := dexpected) rfl
theorem k_expected (T : Txt K mg) : PySem.W.keepIn K (.ref (a_expected K)) = true := let ⟨_, F⟩ := F_expected T; F.kp
abbrev a_end_of (K : PySem.W.Frag) : Addr := He.ga K "end_of"
theorem F_end_of (T : Txt K mg) : ∃ fd, FunD K "end_of" "end_of" (defArgs send_of) (defBody send_of) (defScope send_of) [] [] (a_end_of K) fd := T.s.a.def_ 22 (d := dend_of) rfl
theorem k_end_of (T : Txt K mg) : PySem.W.keepIn K (.ref (a_end_of K)) = true := let ⟨_, F⟩ := F_end_of T; F.kp
abbrev a_Way_init (K : PySem.W.Frag) : Addr := He.ma K (cWay K) "__init__"
theorem F_Way_init (T : Txt K mg) : ∃ fd, FunD K "__init__" "Way.__init__" (defArgs sWay_init) (defBody sWay_init) (defScope sWay_init) [] [] (a_Way_init K) fd := T.s.a.def_ 23 (d := dWay_init) rfl
theorem k_Way_init (T : Txt K mg) : PySem.W.keepIn K (.ref (a_Way_init K)) = true := let ⟨_, F⟩ := F_Way_init T; F.kp
abbrev a_Way_str (K : PySem.W.Frag) : Addr := He.ma K (cWay K) "__str__"
theorem F_Way_str (T : Txt K mg) : ∃ fd, FunD K "__str__" "Way.__str__" (defArgs sWay_str) (defBody sWay_str) (defScope sWay_str) [] [] (a_Way_str K) fd := T.s.a.def_ 24 (d := dWay_str) rfl
theorem k_Way_str (T : Txt K mg) : PySem.W.keepIn K (.ref (a_Way_str K)) = true := let ⟨_, F⟩ := F_Way_str T; F.kp
abbrev a_Way_len (K : PySem.W.Frag) : Addr := He.ma K (cWay K) "__len__"
theorem F_Way_len (T : Txt K mg) : ∃ fd, FunD K "__len__" "Way.__len__" (defArgs sWay_len) (defBody sWay_len) (defScope sWay_len) [] [] (a_Way_len K) fd := T.s.a.def_ 25 (d := dWay_len) rfl
theorem k_Way_len (T : Txt K mg) : PySem.W.keepIn K (.ref (a_Way_len K)) = true := let ⟨_, F⟩ := F_Way_len T; F.kp
abbrev a_Way_eq (K : PySem.W.Frag) : Addr := He.ma K (cWay K) "__eq__"
theorem F_Way_eq (T : Txt K mg) : ∃ fd, FunD K "__eq__" "Way.__eq__" (defArgs sWay_eq) (defBody sWay_eq) (defScope sWay_eq) [] [] (a_Way_eq K) fd := T.s.a.def_ 26 (d := dWay_eq) rfl
theorem k_Way_eq (T : Txt K mg) : PySem.W.keepIn K (.ref (a_Way_eq K)) = true := let ⟨_, F⟩ := F_Way_eq T; F.kp
abbrev a_Way_mul (K : PySem.W.Frag) : Addr := He.ma K (cWay K) "__mul__"
theorem F_Way_mul (T : Txt K mg) : ∃ fd, FunD K "__mul__" "Way.__mul__" (defArgs sWay_mul) (defBody sWay_mul) (defScope sWay_mul) [] [] (a_Way_mul K) fd := T.s.a.def_ 27 (d := dWay_mul) rfl
theorem k_Way_mul (T : Txt K mg) : PySem.W.keepIn K (.ref (a_Way_mul K)) = true := let ⟨_, F⟩ := F_Way_mul T; F.kp
abbrev a_Way_places (K : PySem.W.Frag) : Addr := He.ma K (cWay K) "places"
theorem F_Way_places (T : Txt K mg) : ∃ fd, FunD K "places" "Way.places" (defArgs sWay_places) (defBody sWay_places) (defScope sWay_places) [] [] (a_Way_places K) fd := T.s.a.def_ 28 (d := dWay_places) rfl
theorem k_Way_places (T : Txt K mg) : PySem.W.keepIn K (.ref (a_Way_places K)) = true := let ⟨_, F⟩ := F_Way_places T; F.kp
abbrev a_Way_part (K : PySem.W.Frag) : Addr := He.ma K (cWay K) "part"
theorem F_Way_part (T : Txt K mg) : ∃ fd, FunD K "part" "Way.part" (defArgs sWay_part) (defBody sWay_part) (defScope sWay_part) [] [] (a_Way_part K) fd := T.s.a.def_ 29 (d := dWay_part) rfl
theorem k_Way_part (T : Txt K mg) : PySem.W.keepIn K (.ref (a_Way_part K)) = true := let ⟨_, F⟩ := F_Way_part T; F.kp
abbrev a_Way_put (K : PySem.W.Frag) : Addr := He.ma K (cWay K) "put"
theorem F_Way_put (T : Txt K mg) : ∃ fd, FunD K "put" "Way.put" (defArgs sWay_put) (defBody sWay_put) (defScope sWay_put) [] [] (a_Way_put K) fd := T.s.a.def_ 30 (d := dWay_put) rfl
theorem k_Way_put (T : Txt K mg) : PySem.W.keepIn K (.ref (a_Way_put K)) = true := let ⟨_, F⟩ := F_Way_put T; F.kp
abbrev a_Board_init (K : PySem.W.Frag) : Addr := He.ma K (cBoard K) "__init__"
theorem F_Board_init (T : Txt K mg) : ∃ fd, FunD K "__init__" "Board.__init__" (defArgs sBoard_init) (defBody sBoard_init) (defScope sBoard_init) [] [] (a_Board_init K) fd := T.s.a.def_ 31 (d := dBoard_init) rfl
theorem k_Board_init (T : Txt K mg) : PySem.W.keepIn K (.ref (a_Board_init K)) = true := let ⟨_, F⟩ := F_Board_init T; F.kp
abbrev a_Board_begun (K : PySem.W.Frag) : Addr := He.ma K (cBoard K) "begun"
theorem F_Board_begun (T : Txt K mg) : ∃ fd, FunD K "begun" "Board.begun" (defArgs sBoard_begun) (defBody sBoard_begun) (defScope sBoard_begun) [] [] (a_Board_begun K) fd := T.s.a.def_ 32 (d := dBoard_begun) rfl
theorem k_Board_begun (T : Txt K mg) : PySem.W.keepIn K (.ref (a_Board_begun K)) = true := let ⟨_, F⟩ := F_Board_begun T; F.kp
abbrev a_Board_now (K : PySem.W.Frag) : Addr := He.ma K (cBoard K) "now"
theorem F_Board_now (T : Txt K mg) : ∃ fd, FunD K "now" "Board.now" (defArgs sBoard_now) (defBody sBoard_now) (defScope sBoard_now) [] [] (a_Board_now K) fd := T.s.a.def_ 33 (d := dBoard_now) rfl
theorem k_Board_now (T : Txt K mg) : PySem.W.keepIn K (.ref (a_Board_now K)) = true := let ⟨_, F⟩ := F_Board_now T; F.kp
abbrev a_Board_part_at (K : PySem.W.Frag) : Addr := He.ma K (cBoard K) "part_at"
theorem F_Board_part_at (T : Txt K mg) : ∃ fd, FunD K "part_at" "Board.part_at" (defArgs sBoard_part_at) (defBody sBoard_part_at) (defScope sBoard_part_at) [] [] (a_Board_part_at K) fd := T.s.a.def_ 34 (d := dBoard_part_at) rfl
theorem k_Board_part_at (T : Txt K mg) : PySem.W.keepIn K (.ref (a_Board_part_at K)) = true := let ⟨_, F⟩ := F_Board_part_at T; F.kp
abbrev a_Board_pair_at (K : PySem.W.Frag) : Addr := He.ma K (cBoard K) "pair_at"
theorem F_Board_pair_at (T : Txt K mg) : ∃ fd, FunD K "pair_at" "Board.pair_at" (defArgs sBoard_pair_at) (defBody sBoard_pair_at) (defScope sBoard_pair_at) [] [] (a_Board_pair_at K) fd := T.s.a.def_ 35 (d := dBoard_pair_at) rfl
theorem k_Board_pair_at (T : Txt K mg) : PySem.W.keepIn K (.ref (a_Board_pair_at K)) = true := let ⟨_, F⟩ := F_Board_pair_at T; F.kp
abbrev a_Board_change (K : PySem.W.Frag) : Addr := He.ma K (cBoard K) "change"
theorem F_Board_change (T : Txt K mg) : ∃ fd, FunD K "change" "Board.change" (defArgs sBoard_change) (defBody sBoard_change) (defScope sBoard_change) [] [] (a_Board_change K) fd := T.s.a.def_ 36 (d := dBoard_change) rfl
theorem k_Board_change (T : Txt K mg) : PySem.W.keepIn K (.ref (a_Board_change K)) = true := let ⟨_, F⟩ := F_Board_change T; F.kp
abbrev a_Board_regroup (K : PySem.W.Frag) : Addr := He.ma K (cBoard K) "regroup"
theorem F_Board_regroup (T : Txt K mg) : ∃ fd, FunD K "regroup" "Board.regroup" (defArgs sBoard_regroup) (defBody sBoard_regroup) (defScope sBoard_regroup) [] [("left", .bl false)] (a_Board_regroup K) fd := T.s.a.def_ 37 (d := dBoard_regroup) rfl
theorem k_Board_regroup (T : Txt K mg) : PySem.W.keepIn K (.ref (a_Board_regroup K)) = true := let ⟨_, F⟩ := F_Board_regroup T; F.kp
abbrev a_Board_exchange (K : PySem.W.Frag) : Addr := He.ma K (cBoard K) "exchange"
theorem F_Board_exchange (T : Txt K mg) : ∃ fd, FunD K "exchange" "Board.exchange" (defArgs sBoard_exchange) (defBody sBoard_exchange) (defScope sBoard_exchange) [] [] (a_Board_exchange K) fd := T.s.a.def_ 38 (d := dBoard_exchange) rfl
theorem k_Board_exchange (T : Txt K mg) : PySem.W.keepIn K (.ref (a_Board_exchange K)) = true := let ⟨_, F⟩ := F_Board_exchange T; F.kp
abbrev a_Board_double (K : PySem.W.Frag) : Addr := He.ma K (cBoard K) "double"
theorem F_Board_double (T : Txt K mg) : ∃ fd, FunD K "double" "Board.double" (defArgs sBoard_double) (defBody sBoard_double) (defScope sBoard_double) [] [] (a_Board_double K) fd := T.s.a.def_ 39 (d := dBoard_double) rfl
theorem k_Board_double (T : Txt K mg) : PySem.W.keepIn K (.ref (a_Board_double K)) = true := let ⟨_, F⟩ := F_Board_double T; F.kp
abbrev a_Board_single (K : PySem.W.Frag) : Addr := He.ma K (cBoard K) "single"
theorem F_Board_single (T : Txt K mg) : ∃ fd, FunD K "single" "Board.single" (defArgs sBoard_single) (defBody sBoard_single) (defScope sBoard_single) [] [] (a_Board_single K) fd := T.s.a.def_ 40 (d := dBoard_single) rfl
theorem k_Board_single (T : Txt K mg) : PySem.W.keepIn K (.ref (a_Board_single K)) = true := let ⟨_, F⟩ := F_Board_single T; F.kp
abbrev a_Board_pad (K : PySem.W.Frag) : Addr := He.ma K (cBoard K) "pad"
theorem F_Board_pad (T : Txt K mg) : ∃ fd, FunD K "pad" "Board.pad" (defArgs sBoard_pad) (defBody sBoard_pad) (defScope sBoard_pad) [] [("left", .bl false)] (a_Board_pad K) fd := T.s.a.def_ 41 (d := dBoard_pad) rfl
theorem k_Board_pad (T : Txt K mg) : PySem.W.keepIn K (.ref (a_Board_pad K)) = true := let ⟨_, F⟩ := F_Board_pad T; F.kp
abbrev a_Board_bare (K : PySem.W.Frag) : Addr := He.ma K (cBoard K) "bare"
theorem F_Board_bare (T : Txt K mg) : ∃ fd, FunD K "bare" "Board.bare" (defArgs sBoard_bare) (defBody sBoard_bare) (defScope sBoard_bare) [] [] (a_Board_bare K) fd := T.s.a.def_ 42 (d := dBoard_bare) rfl
theorem k_Board_bare (T : Txt K mg) : PySem.W.keepIn K (.ref (a_Board_bare K)) = true := let ⟨_, F⟩ := F_Board_bare T; F.kp
abbrev a_Board_swallow (K : PySem.W.Frag) : Addr := He.ma K (cBoard K) "swallow"
theorem F_Board_swallow (T : Txt K mg) : ∃ fd, FunD K "swallow" "Board.swallow" (defArgs sBoard_swallow) (defBody sBoard_swallow) (defScope sBoard_swallow) [] [] (a_Board_swallow K) fd := T.s.a.def_ 43 (d := dBoard_swallow) rfl
theorem k_Board_swallow (T : Txt K mg) : PySem.W.keepIn K (.ref (a_Board_swallow K)) = true := let ⟨_, F⟩ := F_Board_swallow T; F.kp
abbrev a_Board_spread (K : PySem.W.Frag) : Addr := He.ma K (cBoard K) "spread"
theorem F_Board_spread (T : Txt K mg) : ∃ fd, FunD K "spread" "Board.spread" (defArgs sBoard_spread) (defBody sBoard_spread) (defScope sBoard_spread) [] [("left", .bl false)] (a_Board_spread K) fd := T.s.a.def_ 44 (d := dBoard_spread) rfl
theorem k_Board_spread (T : Txt K mg) : PySem.W.keepIn K (.ref (a_Board_spread K)) = true := let ⟨_, F⟩ := F_Board_spread T; F.kp
abbrev a_Board_used (K : PySem.W.Frag) : Addr := He.ma K (cBoard K) "used"
theorem F_Board_used (T : Txt K mg) : ∃ fd, FunD K "used" "Board.used" (defArgs sBoard_used) (defBody sBoard_used) (defScope sBoard_used) [] [] (a_Board_used K) fd := T.s.a.def_ 45 (d := dBoard_used) rfl
theorem k_Board_used (T : Txt K mg) : PySem.W.keepIn K (.ref (a_Board_used K)) = true := let ⟨_, F⟩ := F_Board_used T; F.kp
abbrev a_Board_steps (K : PySem.W.Frag) : Addr := He.ma K (cBoard K) "steps"
theorem F_Board_steps (T : Txt K mg) : ∃ fd, FunD K "steps" "Board.steps" (defArgs sBoard_steps) (defBody sBoard_steps) (defScope sBoard_steps) [] [] (a_Board_steps K) fd := T.s.a.def_ 46 (d := dBoard_steps) rfl
theorem k_Board_steps (T : Txt K mg) : PySem.W.keepIn K (.ref (a_Board_steps K)) = true := let ⟨_, F⟩ := F_Board_steps T; F.kp
abbrev a_Board_needed (K : PySem.W.Frag) : Addr := He.ma K (cBoard K) "needed"
theorem F_Board_needed (T : Txt K mg) : ∃ fd, FunD K "needed" "Board.needed" (defArgs sBoard_needed) (defBody sBoard_needed) (defScope sBoard_needed) [] [] (a_Board_needed K) fd := T.s.a.def_ 47 (d := dBoard_needed) rfl
theorem k_Board_needed (T : Txt K mg) : PySem.W.keepIn K (.ref (a_Board_needed K)) = true := let ⟨_, F⟩ := F_Board_needed T; F.kp
abbrev a_Board_spared (K : PySem.W.Frag) : Addr := He.ma K (cBoard K) "spared"
theorem F_Board_spared (T : Txt K mg) : ∃ fd, FunD K "spared" "Board.spared" (defArgs sBoard_spared) (defBody sBoard_spared) (defScope sBoard_spared) [] [] (a_Board_spared K) fd := T.s.a.def_ 48 (d := dBoard_spared) rfl
theorem k_Board_spared (T : Txt K mg) : PySem.W.keepIn K (.ref (a_Board_spared K)) = true := let ⟨_, F⟩ := F_Board_spared T; F.kp
abbrev a_Board_undo (K : PySem.W.Frag) : Addr := He.ma K (cBoard K) "undo"
theorem F_Board_undo (T : Txt K mg) : ∃ fd, FunD K "undo" "Board.undo" (defArgs sBoard_undo) (defBody sBoard_undo) (defScope sBoard_undo) [] [] (a_Board_undo K) fd := T.s.a.def_ 49 (d := dBoard_undo) rfl
theorem k_Board_undo (T : Txt K mg) : PySem.W.keepIn K (.ref (a_Board_undo K)) = true := let ⟨_, F⟩ := F_Board_undo T; F.kp
abbrev a_shorter_by (K : PySem.W.Frag) : Addr := He.ga K "shorter_by"
theorem F_shorter_by (T : Txt K mg) : ∃ fd, FunD K "shorter_by" "shorter_by" (defArgs sshorter_by) (defBody sshorter_by) (defScope sshorter_by) [] [] (a_shorter_by K) fd := T.s.a.def_ 50 (d := dshorter_by) rfl
theorem k_shorter_by (T : Txt K mg) : PySem.W.keepIn K (.ref (a_shorter_by K)) = true := let ⟨_, F⟩ := F_shorter_by T; F.kp
abbrev a_one_step (K : PySem.W.Frag) : Addr := He.ga K "one_step"
theorem F_one_step (T : Txt K mg) : ∃ fd, FunD K "one_step" "one_step" (defArgs sone_step) (defBody sone_step) (defScope sone_step) [] [] (a_one_step K) fd := T.s.a.def_ 51 (d := done_step) rfl
theorem k_one_step (T : Txt K mg) : PySem.W.keepIn K (.ref (a_one_step K)) = true := let ⟨_, F⟩ := F_one_step T; F.kp
abbrev a_tree_link_right (K : PySem.W.Frag) : Addr := He.ga K "tree_link_right"
theorem F_tree_link_right (T : Txt K mg) : ∃ fd, FunD K "tree_link_right" "tree_link_right" (defArgs stree_link_right) (defBody stree_link_right) (defScope stree_link_right) [] [] (a_tree_link_right K) fd := T.s.a.def_ 52 (d := dtree_link_right) rfl
theorem k_tree_link_right (T : Txt K mg) : PySem.W.keepIn K (.ref (a_tree_link_right K)) = true := let ⟨_, F⟩ := F_tree_link_right T; F.kp
abbrev a_walked (K : PySem.W.Frag) : Addr := He.ga K "walked"
theorem F_walked (T : Txt K mg) : ∃ fd, FunD K "walked" "walked" (defArgs swalked) (defBody swalked) (defScope swalked) [] [] (a_walked K) fd := T.s.a.def_ 53 (d := dwalked) rfl
theorem k_walked (T : Txt K mg) : PySem.W.keepIn K (.ref (a_walked K)) = true := let ⟨_, F⟩ := F_walked T; F.kp
abbrev a__law_pool (K : PySem.W.Frag) : Addr := He.ga K "_law_pool"
theorem F__law_pool (T : Txt K mg) : ∃ fd, FunD K "_law_pool" "_law_pool" (defArgs s_law_pool) (defBody s_law_pool) (defScope s_law_pool) [] [] (a__law_pool K) fd := T.s.a.def_ 54 (d := d_law_pool) rfl
theorem k__law_pool (T : Txt K mg) : PySem.W.keepIn K (.ref (a__law_pool K)) = true := let ⟨_, F⟩ := F__law_pool T; F.kp
abbrev a__law_take (K : PySem.W.Frag) : Addr := He.ga K "_law_take"
theorem F__law_take (T : Txt K mg) : ∃ fd, FunD K "_law_take" "_law_take" (defArgs s_law_take) (defBody s_law_take) (defScope s_law_take) [] [] (a__law_take K) fd := T.s.a.def_ 55 (d := d_law_take) rfl
theorem k__law_take (T : Txt K mg) : PySem.W.keepIn K (.ref (a__law_take K)) = true := let ⟨_, F⟩ := F__law_take T; F.kp
abbrev a__law_cell (K : PySem.W.Frag) : Addr := He.ga K "_law_cell"
theorem F__law_cell (T : Txt K mg) : ∃ fd, FunD K "_law_cell" "_law_cell" (defArgs s_law_cell) (defBody s_law_cell) (defScope s_law_cell) [] [] (a__law_cell K) fd := T.s.a.def_ 56 (d := d_law_cell) rfl
theorem k__law_cell (T : Txt K mg) : PySem.W.keepIn K (.ref (a__law_cell K)) = true := let ⟨_, F⟩ := F__law_cell T; F.kp
abbrev a__law_tree (K : PySem.W.Frag) : Addr := He.ga K "_law_tree"
theorem F__law_tree (T : Txt K mg) : ∃ fd, FunD K "_law_tree" "_law_tree" (defArgs s_law_tree) (defBody s_law_tree) (defScope s_law_tree) [] [] (a__law_tree K) fd := T.s.a.def_ 57 (d := d_law_tree) rfl
theorem k__law_tree (T : Txt K mg) : PySem.W.keepIn K (.ref (a__law_tree K)) = true := let ⟨_, F⟩ := F__law_tree T; F.kp
abbrev a__law_text (K : PySem.W.Frag) : Addr := He.ga K "_law_text"
theorem F__law_text (T : Txt K mg) : ∃ fd, FunD K "_law_text" "_law_text" (defArgs s_law_text) (defBody s_law_text) (defScope s_law_text) [] [] (a__law_text K) fd := T.s.a.def_ 58 (d := d_law_text) rfl
theorem k__law_text (T : Txt K mg) : PySem.W.keepIn K (.ref (a__law_text K)) = true := let ⟨_, F⟩ := F__law_text T; F.kp
abbrev a__law_leaves (K : PySem.W.Frag) : Addr := He.ga K "_law_leaves"
theorem F__law_leaves (T : Txt K mg) : ∃ fd, FunD K "_law_leaves" "_law_leaves" (defArgs s_law_leaves) (defBody s_law_leaves) (defScope s_law_leaves) [] [] (a__law_leaves K) fd := T.s.a.def_ 59 (d := d_law_leaves) rfl
theorem k__law_leaves (T : Txt K mg) : PySem.W.keepIn K (.ref (a__law_leaves K)) = true := let ⟨_, F⟩ := F__law_leaves T; F.kp
abbrev a__law_paths (K : PySem.W.Frag) : Addr := He.ga K "_law_paths"
theorem F__law_paths (T : Txt K mg) : ∃ fd, FunD K "_law_paths" "_law_paths" (defArgs s_law_paths) (defBody s_law_paths) (defScope s_law_paths) [] [] (a__law_paths K) fd := T.s.a.def_ 60 (d := d_law_paths) rfl
theorem k__law_paths (T : Txt K mg) : PySem.W.keepIn K (.ref (a__law_paths K)) = true := let ⟨_, F⟩ := F__law_paths T; F.kp
abbrev a__law_part (K : PySem.W.Frag) : Addr := He.ga K "_law_part"
theorem F__law_part (T : Txt K mg) : ∃ fd, FunD K "_law_part" "_law_part" (defArgs s_law_part) (defBody s_law_part) (defScope s_law_part) [] [] (a__law_part K) fd := T.s.a.def_ 61 (d := d_law_part) rfl
theorem k__law_part (T : Txt K mg) : PySem.W.keepIn K (.ref (a__law_part K)) = true := let ⟨_, F⟩ := F__law_part T; F.kp
abbrev a__law_put (K : PySem.W.Frag) : Addr := He.ga K "_law_put"
theorem F__law_put (T : Txt K mg) : ∃ fd, FunD K "_law_put" "_law_put" (defArgs s_law_put) (defBody s_law_put) (defScope s_law_put) [] [] (a__law_put K) fd := T.s.a.def_ 62 (d := d_law_put) rfl
theorem k__law_put (T : Txt K mg) : PySem.W.keepIn K (.ref (a__law_put K)) = true := let ⟨_, F⟩ := F__law_put T; F.kp
abbrev a__law_deed (K : PySem.W.Frag) : Addr := He.ga K "_law_deed"
theorem F__law_deed (T : Txt K mg) : ∃ fd, FunD K "_law_deed" "_law_deed" (defArgs s_law_deed) (defBody s_law_deed) (defScope s_law_deed) [] [] (a__law_deed K) fd := T.s.a.def_ 63 (d := d_law_deed) rfl
theorem k__law_deed (T : Txt K mg) : PySem.W.keepIn K (.ref (a__law_deed K)) = true := let ⟨_, F⟩ := F__law_deed T; F.kp
abbrev a__law_done (K : PySem.W.Frag) : Addr := He.ga K "_law_done"
theorem F__law_done (T : Txt K mg) : ∃ fd, FunD K "_law_done" "_law_done" (defArgs s_law_done) (defBody s_law_done) (defScope s_law_done) [] [] (a__law_done K) fd := T.s.a.def_ 64 (d := d_law_done) rfl
theorem k__law_done (T : Txt K mg) : PySem.W.keepIn K (.ref (a__law_done K)) = true := let ⟨_, F⟩ := F__law_done T; F.kp
abbrev a__law_drawn (K : PySem.W.Frag) : Addr := He.ga K "_law_drawn"
theorem F__law_drawn (T : Txt K mg) : ∃ fd, FunD K "_law_drawn" "_law_drawn" (defArgs s_law_drawn) (defBody s_law_drawn) (defScope s_law_drawn) [] [] (a__law_drawn K) fd := T.s.a.def_ 65 (d := d_law_drawn) rfl
theorem k__law_drawn (T : Txt K mg) : PySem.W.keepIn K (.ref (a__law_drawn K)) = true := let ⟨_, F⟩ := F__law_drawn T; F.kp
abbrev a__law_different (K : PySem.W.Frag) : Addr := He.ga K "_law_different"
theorem F__law_different (T : Txt K mg) : ∃ fd, FunD K "_law_different" "_law_different" (defArgs s_law_different) (defBody s_law_different) (defScope s_law_different) [] [] (a__law_different K) fd := T.s.a.def_ 66 (d := d_law_different) rfl
theorem k__law_different (T : Txt K mg) : PySem.W.keepIn K (.ref (a__law_different K)) = true := let ⟨_, F⟩ := F__law_different T; F.kp
abbrev a__law_band (K : PySem.W.Frag) : Addr := He.ga K "_law_band"
theorem F__law_band (T : Txt K mg) : ∃ fd, FunD K "_law_band" "_law_band" (defArgs s_law_band) (defBody s_law_band) (defScope s_law_band) [] [] (a__law_band K) fd := T.s.a.def_ 67 (d := d_law_band) rfl
theorem k__law_band (T : Txt K mg) : PySem.W.keepIn K (.ref (a__law_band K)) = true := let ⟨_, F⟩ := F__law_band T; F.kp
abbrev a__law_word_form (K : PySem.W.Frag) : Addr := He.ga K "_law_word_form"
theorem F__law_word_form (T : Txt K mg) : ∃ fd, FunD K "_law_word_form" "_law_word_form" (defArgs s_law_word_form) (defBody s_law_word_form) (defScope s_law_word_form) [] [] (a__law_word_form K) fd := T.s.a.def_ 68 (d := d_law_word_form) rfl
theorem k__law_word_form (T : Txt K mg) : PySem.W.keepIn K (.ref (a__law_word_form K)) = true := let ⟨_, F⟩ := F__law_word_form T; F.kp
abbrev a__law_tree_form (K : PySem.W.Frag) : Addr := He.ga K "_law_tree_form"
theorem F__law_tree_form (T : Txt K mg) : ∃ fd, FunD K "_law_tree_form" "_law_tree_form" (defArgs s_law_tree_form) (defBody s_law_tree_form) (defScope s_law_tree_form) [] [] (a__law_tree_form K) fd := T.s.a.def_ 69 (d := d_law_tree_form) rfl
theorem k__law_tree_form (T : Txt K mg) : PySem.W.keepIn K (.ref (a__law_tree_form K)) = true := let ⟨_, F⟩ := F__law_tree_form T; F.kp
abbrev a__law_plain (K : PySem.W.Frag) : Addr := He.ga K "_law_plain"
theorem F__law_plain (T : Txt K mg) : ∃ fd, FunD K "_law_plain" "_law_plain" (defArgs s_law_plain) (defBody s_law_plain) (defScope s_law_plain) [] [] (a__law_plain K) fd := T.s.a.def_ 70 (d := d_law_plain) rfl
theorem k__law_plain (T : Txt K mg) : PySem.W.keepIn K (.ref (a__law_plain K)) = true := let ⟨_, F⟩ := F__law_plain T; F.kp
abbrev a__law_due (K : PySem.W.Frag) : Addr := He.ga K "_law_due"
theorem F__law_due (T : Txt K mg) : ∃ fd, FunD K "_law_due" "_law_due" (defArgs s_law_due) (defBody s_law_due) (defScope s_law_due) [] [] (a__law_due K) fd := T.s.a.def_ 71 (d := d_law_due) rfl
theorem k__law_due (T : Txt K mg) : PySem.W.keepIn K (.ref (a__law_due K)) = true := let ⟨_, F⟩ := F__law_due T; F.kp
abbrev a__law_spared (K : PySem.W.Frag) : Addr := He.ga K "_law_spared"
theorem F__law_spared (T : Txt K mg) : ∃ fd, FunD K "_law_spared" "_law_spared" (defArgs s_law_spared) (defBody s_law_spared) (defScope s_law_spared) [] [] (a__law_spared K) fd := T.s.a.def_ 72 (d := d_law_spared) rfl
theorem k__law_spared (T : Txt K mg) : PySem.W.keepIn K (.ref (a__law_spared K)) = true := let ⟨_, F⟩ := F__law_spared T; F.kp
abbrev a__law_looks (K : PySem.W.Frag) : Addr := He.ga K "_law_looks"
theorem F__law_looks (T : Txt K mg) : ∃ fd, FunD K "_law_looks" "_law_looks" (defArgs s_law_looks) (defBody s_law_looks) (defScope s_law_looks) [] [] (a__law_looks K) fd := T.s.a.def_ 73 (d := d_law_looks) rfl
theorem k__law_looks (T : Txt K mg) : PySem.W.keepIn K (.ref (a__law_looks K)) = true := let ⟨_, F⟩ := F__law_looks T; F.kp
abbrev a__law_kept (K : PySem.W.Frag) : Addr := He.ga K "_law_kept"
theorem F__law_kept (T : Txt K mg) : ∃ fd, FunD K "_law_kept" "_law_kept" (defArgs s_law_kept) (defBody s_law_kept) (defScope s_law_kept) [] [] (a__law_kept K) fd := T.s.a.def_ 74 (d := d_law_kept) rfl
theorem k__law_kept (T : Txt K mg) : PySem.W.keepIn K (.ref (a__law_kept K)) = true := let ⟨_, F⟩ := F__law_kept T; F.kp
abbrev a__law_stays (K : PySem.W.Frag) : Addr := He.ga K "_law_stays"
theorem F__law_stays (T : Txt K mg) : ∃ fd, FunD K "_law_stays" "_law_stays" (defArgs s_law_stays) (defBody s_law_stays) (defScope s_law_stays) [] [] (a__law_stays K) fd := T.s.a.def_ 75 (d := d_law_stays) rfl
theorem k__law_stays (T : Txt K mg) : PySem.W.keepIn K (.ref (a__law_stays K)) = true := let ⟨_, F⟩ := F__law_stays T; F.kp
abbrev a__law_ends (K : PySem.W.Frag) : Addr := He.ga K "_law_ends"
theorem F__law_ends (T : Txt K mg) : ∃ fd, FunD K "_law_ends" "_law_ends" (defArgs s_law_ends) (defBody s_law_ends) (defScope s_law_ends) [] [] (a__law_ends K) fd := T.s.a.def_ 76 (d := d_law_ends) rfl
theorem k__law_ends (T : Txt K mg) : PySem.W.keepIn K (.ref (a__law_ends K)) = true := let ⟨_, F⟩ := F__law_ends T; F.kp
abbrev a_law (K : PySem.W.Frag) : Addr := He.ga K "law"
theorem F_law (T : Txt K mg) : ∃ fd, FunD K "law" "law" (defArgs slaw) (defBody slaw) (defScope slaw) [] [] (a_law K) fd := T.s.a.def_ 77 (d := dlaw) rfl
theorem k_law (T : Txt K mg) : PySem.W.keepIn K (.ref (a_law K)) = true := let ⟨_, F⟩ := F_law T; F.kp
end
theorem b_Rules_contains : PBind "__contains__" "Rules.__contains__" sRules_contains pRules_contains := fun _ _ _ _ _ _ us hl => match us, hl with | [_, _], _ => rfl
theorem b_Rules_eq : PBind "__eq__" "Rules.__eq__" sRules_eq pRules_eq := fun _ _ _ _ _ _ us hl => match us, hl with | [_, _], _ => rfl
theorem b_Rules_within : PBind "within" "Rules.within" sRules_within pRules_within := fun _ _ _ _ _ _ us hl => match us, hl with | [_, _], _ => rfl
theorem b_Rules_every : PBind "every" "Rules.every" sRules_every pRules_every := fun _ _ _ _ _ _ us hl => match us, hl with | [_], _ => rfl
theorem b_Family_contains : PBind "__contains__" "Family.__contains__" sFamily_contains pFamily_contains := fun _ _ _ _ _ _ us hl => match us, hl with | [_, _], _ => rfl
theorem b_Family_eq : PBind "__eq__" "Family.__eq__" sFamily_eq pFamily_eq := fun _ _ _ _ _ _ us hl => match us, hl with | [_, _], _ => rfl
theorem b_Family_sets : PBind "sets" "Family.sets" sFamily_sets pFamily_sets := fun _ _ _ _ _ _ us hl => match us, hl with | [_], _ => rfl
theorem b_Family_least : PBind "least" "Family.least" sFamily_least pFamily_least := fun _ _ _ _ _ _ us hl => match us, hl with | [_], _ => rfl
theorem b_Family_above_another : PBind "above_another" "Family.above_another" sFamily_above_another pFamily_above_another := fun _ _ _ _ _ _ us hl => match us, hl with | [_, _], _ => rfl
theorem b_different : PBind "different" "different" sdifferent pdifferent := fun _ _ _ _ _ _ us hl => match us, hl with | [_], _ => rfl
theorem b_beginning : PBind "beginning" "beginning" sbeginning pbeginning := fun _ _ _ _ _ _ us hl => match us, hl with | [_], _ => rfl
theorem b_ending : PBind "ending" "ending" sending pending := fun _ _ _ _ _ _ us hl => match us, hl with | [_], _ => rfl
theorem b_merged : PBind "merged" "merged" smerged pmerged := fun _ _ _ _ _ _ us hl => match us, hl with | [_, _], _ => rfl
theorem b_band_form : PBind "band_form" "band_form" sband_form pband_form := fun _ _ _ _ _ _ us hl => match us, hl with | [_], _ => rfl
theorem b_tree_form : PBind "tree_form" "tree_form" stree_form ptree_form := fun _ _ _ _ _ _ us hl => match us, hl with | [_, _], _ => rfl
theorem b_word_form : PBind "word_form" "word_form" sword_form pword_form := fun _ _ _ _ _ _ us hl => match us, hl with | [_, _], _ => rfl
theorem b_plain : KBind "plain" "plain" splain 1 ["rules"] pplain := fun _ _ _ _ _ _ us ws h1 h2 => match us, ws, h1, h2 with | [_], [_], _, _ => rfl
theorem b_needed : PBind "needed" "needed" sneeded pneeded := fun _ _ _ _ _ _ us hl => match us, hl with | [_, _], _ => rfl
theorem b_expected : PBind "expected" "expected" sexpected pexpected := fun _ _ _ _ _ _ us hl => match us, hl with | [_, _, _], _ => rfl
theorem b_end_of : PBind "end_of" "end_of" send_of pend_of := fun _ _ _ _ _ _ us hl => match us, hl with | [_, _], _ => rfl
theorem b_Way_init : PBind "__init__" "Way.__init__" sWay_init pWay_init := fun _ _ _ _ _ _ us hl => match us, hl with | [_, _], _ => rfl
theorem b_Way_str : PBind "__str__" "Way.__str__" sWay_str pWay_str := fun _ _ _ _ _ _ us hl => match us, hl with | [_], _ => rfl
theorem b_Way_len : PBind "__len__" "Way.__len__" sWay_len pWay_len := fun _ _ _ _ _ _ us hl => match us, hl with | [_], _ => rfl
theorem b_Way_eq : PBind "__eq__" "Way.__eq__" sWay_eq pWay_eq := fun _ _ _ _ _ _ us hl => match us, hl with | [_, _], _ => rfl
theorem b_Way_mul : PBind "__mul__" "Way.__mul__" sWay_mul pWay_mul := fun _ _ _ _ _ _ us hl => match us, hl with | [_, _], _ => rfl
theorem b_Way_places : PBind "places" "Way.places" sWay_places pWay_places := fun _ _ _ _ _ _ us hl => match us, hl with | [_], _ => rfl
theorem b_Way_part : PBind "part" "Way.part" sWay_part pWay_part := fun _ _ _ _ _ _ us hl => match us, hl with | [_, _], _ => rfl
theorem b_Way_put : PBind "put" "Way.put" sWay_put pWay_put := fun _ _ _ _ _ _ us hl => match us, hl with | [_, _, _], _ => rfl
theorem b_Board_init : PBind "__init__" "Board.__init__" sBoard_init pBoard_init := fun _ _ _ _ _ _ us hl => match us, hl with | [_, _], _ => rfl
theorem b_Board_begun : PBind "begun" "Board.begun" sBoard_begun pBoard_begun := fun _ _ _ _ _ _ us hl => match us, hl with | [_], _ => rfl
theorem b_Board_now : PBind "now" "Board.now" sBoard_now pBoard_now := fun _ _ _ _ _ _ us hl => match us, hl with | [_], _ => rfl
theorem b_Board_part_at : PBind "part_at" "Board.part_at" sBoard_part_at pBoard_part_at := fun _ _ _ _ _ _ us hl => match us, hl with | [_, _, _], _ => rfl
theorem b_Board_pair_at : PBind "pair_at" "Board.pair_at" sBoard_pair_at pBoard_pair_at := fun _ _ _ _ _ _ us hl => match us, hl with | [_, _, _], _ => rfl
theorem b_Board_change : PBind "change" "Board.change" sBoard_change pBoard_change := fun _ _ _ _ _ _ us hl => match us, hl with | [_, _, _, _], _ => rfl
theorem b_Board_regroup : KBind "regroup" "Board.regroup" sBoard_regroup 2 ["left"] pBoard_regroup := fun _ _ _ _ _ _ us ws h1 h2 => match us, ws, h1, h2 with | [_, _], [_], _, _ => rfl
theorem b_Board_exchange : PBind "exchange" "Board.exchange" sBoard_exchange pBoard_exchange := fun _ _ _ _ _ _ us hl => match us, hl with | [_, _], _ => rfl
theorem b_Board_double : PBind "double" "Board.double" sBoard_double pBoard_double := fun _ _ _ _ _ _ us hl => match us, hl with | [_, _], _ => rfl
theorem b_Board_single : PBind "single" "Board.single" sBoard_single pBoard_single := fun _ _ _ _ _ _ us hl => match us, hl with | [_, _], _ => rfl
theorem b_Board_pad : KBind "pad" "Board.pad" sBoard_pad 2 ["left"] pBoard_pad := fun _ _ _ _ _ _ us ws h1 h2 => match us, ws, h1, h2 with | [_, _], [_], _, _ => rfl
theorem b_Board_bare : PBind "bare" "Board.bare" sBoard_bare pBoard_bare := fun _ _ _ _ _ _ us hl => match us, hl with | [_, _], _ => rfl
theorem b_Board_swallow : PBind "swallow" "Board.swallow" sBoard_swallow pBoard_swallow := fun _ _ _ _ _ _ us hl => match us, hl with | [_, _], _ => rfl
theorem b_Board_spread : KBind "spread" "Board.spread" sBoard_spread 3 ["left"] pBoard_spread := fun _ _ _ _ _ _ us ws h1 h2 => match us, ws, h1, h2 with | [_, _, _], [_], _, _ => rfl
theorem b_Board_used : PBind "used" "Board.used" sBoard_used pBoard_used := fun _ _ _ _ _ _ us hl => match us, hl with | [_], _ => rfl
theorem b_Board_steps : PBind "steps" "Board.steps" sBoard_steps pBoard_steps := fun _ _ _ _ _ _ us hl => match us, hl with | [_], _ => rfl
theorem b_Board_needed : PBind "needed" "Board.needed" sBoard_needed pBoard_needed := fun _ _ _ _ _ _ us hl => match us, hl with | [_], _ => rfl
theorem b_Board_spared : PBind "spared" "Board.spared" sBoard_spared pBoard_spared := fun _ _ _ _ _ _ us hl => match us, hl with | [_], _ => rfl
theorem b_Board_undo : PBind "undo" "Board.undo" sBoard_undo pBoard_undo := fun _ _ _ _ _ _ us hl => match us, hl with | [_], _ => rfl
theorem b_shorter_by : PBind "shorter_by" "shorter_by" sshorter_by pshorter_by := fun _ _ _ _ _ _ us hl => match us, hl with | [_, _], _ => rfl
theorem b_one_step : PBind "one_step" "one_step" sone_step pone_step := fun _ _ _ _ _ _ us hl => match us, hl with | [_, _, _], _ => rfl
theorem b_tree_link_right : PBind "tree_link_right" "tree_link_right" stree_link_right ptree_link_right := fun _ _ _ _ _ _ us hl => match us, hl with | [_, _, _], _ => rfl
theorem b_walked : KBind "walked" "walked" swalked 3 ["rules"] pwalked := fun _ _ _ _ _ _ us ws h1 h2 => match us, ws, h1, h2 with | [_, _, _], [_], _, _ => rfl
theorem b__law_pool : PBind "_law_pool" "_law_pool" s_law_pool p_law_pool := fun _ _ _ _ _ _ us hl => match us, hl with | [_], _ => rfl
theorem b__law_take : PBind "_law_take" "_law_take" s_law_take p_law_take := fun _ _ _ _ _ _ us hl => match us, hl with | [_, _], _ => rfl
theorem b__law_cell : PBind "_law_cell" "_law_cell" s_law_cell p_law_cell := fun _ _ _ _ _ _ us hl => match us, hl with | [_, _], _ => rfl
theorem b__law_tree : PBind "_law_tree" "_law_tree" s_law_tree p_law_tree := fun _ _ _ _ _ _ us hl => match us, hl with | [_, _, _], _ => rfl
theorem b__law_text : PBind "_law_text" "_law_text" s_law_text p_law_text := fun _ _ _ _ _ _ us hl => match us, hl with | [_], _ => rfl
theorem b__law_leaves : PBind "_law_leaves" "_law_leaves" s_law_leaves p_law_leaves := fun _ _ _ _ _ _ us hl => match us, hl with | [_], _ => rfl
theorem b__law_paths : PBind "_law_paths" "_law_paths" s_law_paths p_law_paths := fun _ _ _ _ _ _ us hl => match us, hl with | [_], _ => rfl
theorem b__law_part : PBind "_law_part" "_law_part" s_law_part p_law_part := fun _ _ _ _ _ _ us hl => match us, hl with | [_, _], _ => rfl
theorem b__law_put : PBind "_law_put" "_law_put" s_law_put p_law_put := fun _ _ _ _ _ _ us hl => match us, hl with | [_, _, _], _ => rfl
theorem b__law_deed : PBind "_law_deed" "_law_deed" s_law_deed p_law_deed := fun _ _ _ _ _ _ us hl => match us, hl with | [_, _, _, _, _], _ => rfl
theorem b__law_done : PBind "_law_done" "_law_done" s_law_done p_law_done := fun _ _ _ _ _ _ us hl => match us, hl with | [_, _, _, _, _], _ => rfl
theorem b__law_drawn : PBind "_law_drawn" "_law_drawn" s_law_drawn p_law_drawn := fun _ _ _ _ _ _ us hl => match us, hl with | [_, _], _ => rfl
theorem b__law_different : PBind "_law_different" "_law_different" s_law_different p_law_different := fun _ _ _ _ _ _ us hl => match us, hl with | [_], _ => rfl
theorem b__law_band : PBind "_law_band" "_law_band" s_law_band p_law_band := fun _ _ _ _ _ _ us hl => match us, hl with | [_], _ => rfl
theorem b__law_word_form : PBind "_law_word_form" "_law_word_form" s_law_word_form p_law_word_form := fun _ _ _ _ _ _ us hl => match us, hl with | [_, _], _ => rfl
theorem b__law_tree_form : PBind "_law_tree_form" "_law_tree_form" s_law_tree_form p_law_tree_form := fun _ _ _ _ _ _ us hl => match us, hl with | [_, _], _ => rfl
theorem b__law_plain : PBind "_law_plain" "_law_plain" s_law_plain p_law_plain := fun _ _ _ _ _ _ us hl => match us, hl with | [_, _], _ => rfl
theorem b__law_due : PBind "_law_due" "_law_due" s_law_due p_law_due := fun _ _ _ _ _ _ us hl => match us, hl with | [_, _], _ => rfl
theorem b__law_spared : PBind "_law_spared" "_law_spared" s_law_spared p_law_spared := fun _ _ _ _ _ _ us hl => match us, hl with | [_, _], _ => rfl
theorem b__law_looks : PBind "_law_looks" "_law_looks" s_law_looks p_law_looks := fun _ _ _ _ _ _ us hl => match us, hl with | [_, _, _, _], _ => rfl
theorem b__law_kept : PBind "_law_kept" "_law_kept" s_law_kept p_law_kept := fun _ _ _ _ _ _ us hl => match us, hl with | [_], _ => rfl
theorem b__law_stays : PBind "_law_stays" "_law_stays" s_law_stays p_law_stays := fun _ _ _ _ _ _ us hl => match us, hl with | [_], _ => rfl
theorem b__law_ends : PBind "_law_ends" "_law_ends" s_law_ends p_law_ends := fun _ _ _ _ _ _ us hl => match us, hl with | [_, _, _], _ => rfl
theorem b_law : PBind "law" "law" slaw plaw := fun _ _ _ _ _ _ us hl => match us, hl with | [_], _ => rfl
end NL
set_option Elab.async false
set_option linter.all false
set_option maxRecDepth 100000
set_option maxHeartbeats 2000000
/-! What stands in the heap for a way, a tree of the law, a set of rules, a family, a board. -/
namespace NL
open PySem PySem.Spec PyProof.Rows L2 SX

/-! ### texts -/
theorem S_len (a : List Nat) : (S a).length = a.length := by simp [S, Str.length]
theorem V_str_inj {a b : List Nat} (h : V.str (S a) = V.str (S b)) : a = b := S_inj (by injection h)
theorem S_ne {a b : List Nat} (h : a ≠ b) : S a ≠ S b := fun e => h (S_inj e)
theorem dec_S {a b : List Nat} : decide (V.str (S a) = V.str (S b)) = decide (a = b) := decide_eq_decide.mpr ⟨V_str_inj, fun h => by rw [h]⟩
theorem small_len {n : Nat} (h : n ≤ 4096) : n ≤ sizeLine := Nat.le_trans h (by decide)

/-! ### heaps: all is kept but what stands at ds -/
def Sx (ds : List Addr) (H H' : Hp) : Prop := ∀ b o, H b = some o → b ∉ ds → H' b = some o
theorem Sx.refl (ds : List Addr) (H : Hp) : Sx ds H H := fun _ _ h _ => h
theorem Sx.trans {ds : List Addr} {H H1 H2 : Hp} (a : Sx ds H H1) (b : Sx ds H1 H2) : Sx ds H H2 := fun c o h n => b c o (a c o h n) n
theorem Sx.of {ds : List Addr} {H H' : Hp} (h : Same H H') : Sx ds H H' := fun c o e _ => h c o e
theorem Sx.same {H H' : Hp} (h : Sx [] H H') : Same H H' := fun c o e => h c o e (by simp)
theorem Sx.set {H : Hp} {a : Addr} {o : HO} : Sx [a] H (upd H a o) := fun c u e n => by rw [upd_ne (by simpa using n)]; exact e
theorem Sx.more {ds ds' : List Addr} {H H' : Hp} (h : Sx ds H H') (s : ∀ b ∈ ds, b ∈ ds') : Sx ds' H H' := fun c o e n => h c o e fun q => n (s c q)
theorem same_upd {H : Hp} {p : Addr} {o : HO} (h : H p = none) : Same H (upd H p o) := fun b u q => by rw [upd_ne (ne_of_none q h)]; exact q
theorem Same.upd {H H1 : Hp} {p : Addr} {o : HO} (e : Same H H1) (h : H1 p = none) : Same H (upd H1 p o) := e.trans (same_upd h)
/-- where what is new at p was made within Same, p was free before -/
theorem Same.none {H H1 : Hp} (e : Same H H1) {p : Addr} (h : H1 p = none) : H p = none := e.free h

/-- everything but lists and tables is kept -/
def Gr (H H' : Hp) : Prop := ∀ b o, H b = some o → (∀ xs, o ≠ .lst xs) → (∀ ps, o ≠ .tbl ps) → H' b = some o
theorem Gr.of {H H' : Hp} (h : Same H H') : Gr H H' := fun b o e _ _ => h b o e
theorem Gr.trans {H H1 H2 : Hp} (a : Gr H H1) (b : Gr H1 H2) : Gr H H2 := fun c o h n m => b c o (a c o h n m) n m
/-- everything but tables is kept -/
abbrev Ex (H H' : Hp) : Prop := LamX.ExtN H H'
theorem Ex.gr {H H' : Hp} (h : Ex H H') : Gr H H' := fun b o e _ m => h b o e m
theorem Ex.lst {H H' : Hp} (h : Ex H H') {a : Addr} {xs : List V} (e : H a = some (.lst xs)) : H' a = some (.lst xs) := h _ _ e fun ps z => nomatch z
/-- nothing but a table may stand at p -/
def Nu (H : Hp) (p : Addr) : Prop := ∀ o, H p = some o → ∃ ps, o = .tbl ps
theorem Nu.of {H : Hp} {p : Addr} (h : H p = none) : Nu H p := fun o e => by
  rw [h] at e
  cases e
theorem Nu.back {H H' : Hp} {p : Addr} (h : Nu H' p) (x : Ex H H') : Nu H p := fun o e => Classical.byContradiction fun n => n (h o (x _ _ e fun ps z => n ⟨ps, z⟩))
theorem Nu.ne {H : Hp} {p a : Addr} {o : HO} (h : Nu H p) (e : H a = some o) (n : ∀ ps, o ≠ .tbl ps) : a ≠ p := fun z => by
  rw [z] at e
  obtain ⟨ps, q⟩ := h o e
  exact n ps q
theorem Gr.sx {ds : List Addr} {H H' : Hp} (h : Sx ds H H') (hl : ∀ d ∈ ds, ∃ xs, H d = some (.lst xs)) : Gr H H' := fun b o e n _ => h b o e fun hb => by
  obtain ⟨xs, q⟩ := hl b hb
  rw [e] at q
  exact n xs (Option.some.inj q)

/-! ### sets of rules -/
def RS.txt (R : RS) : List Nat := (if R.a then [65] else []) ++ ((if R.c then [67] else []) ++ ((if R.i then [73] else []) ++ ((if R.u then [85] else []) ++ (if R.z then [90] else []))))
theorem RS.txt_len (R : RS) : R.txt.length ≤ 5 := by
  obtain ⟨a, c, i, u, z⟩ := R
  cases a <;> cases c <;> cases i <;> cases u <;> cases z <;> decide
theorem RS.txt_inj {R T : RS} (h : R.txt = T.txt) : R = T := by
  obtain ⟨a, c, i, u, z⟩ := R
  obtain ⟨a', c', i', u', z'⟩ := T
  revert h
  cases a <;> cases c <;> cases i <;> cases u <;> cases z <;> cases a' <;> cases c' <;> cases i' <;> cases u' <;> cases z' <;> first | (intro h; rfl) | (intro h; exact absurd h (by decide))
theorem RS.txt_iff {R T : RS} : R.txt = T.txt ↔ R = T := ⟨RS.txt_inj, fun h => by rw [h]⟩
section
variable (K : PySem.W.Frag)
def RulesAt (H : Hp) (p : Addr) (R : RS) : Prop := ∃ dx, H p = some (.ins (cRules K) dx [("letters", .str (S R.txt))])
def wayF (t n l r : V) (lt : Addr) : List (Str × V) := [("text", t), ("name", n), ("left", l), ("right", r), ("leaves", .ref lt)]
def leafV (x : L) : V := .str (S [x.code])
def WayAt (H : Hp) : Addr → Tree → Prop
  | p, .lf x => ∃ dx lt, H p = some (.ins (cWay K) dx (wayF (.str (S (Tree.lf x).txt)) (leafV x) .non .non lt)) ∧ H lt = some (.tup [leafV x])
  | p, .nd l r => ∃ dx lt pl pr, H p = some (.ins (cWay K) dx (wayF (.str (S (Tree.nd l r).txt)) (.str (S [])) (.ref pl) (.ref pr) lt)) ∧ H lt = some (.tup ((Tree.nd l r).leaves.map leafV)) ∧ WayAt H pl l ∧ WayAt H pr r
/-- some of these, one for each -/
def Each {α : Type} (R : Addr → α → Prop) (qs : List Addr) (xs : List α) : Prop := qs.length = xs.length ∧ ∀ (i : Nat) q x, qs[i]? = some q → xs[i]? = some x → R q x
def RulesL (H : Hp) (qs : List Addr) (Rs : List RS) : Prop := Each (RulesAt K H) qs Rs
def FamAt (H : Hp) (p m : Addr) (Rs : List RS) : Prop := ∃ dx qs, H p = some (.ins (cFamily K) dx [("members", .ref m)]) ∧ H m = some (.lst (qs.map V.ref)) ∧ RulesL K H qs Rs
end
/-- a tree of the law: a leaf's text, or a tuple of two -/
def LT (H : Hp) : V → Tree → Prop
  | v, .lf x => v = leafV x
  | v, .nd l r => ∃ p a b, v = .ref p ∧ H p = some (.tup [a, b]) ∧ LT H a l ∧ LT H b r

/-! ### the rules' letters; deeds -/
inductive Rl where
  | A | C | I | U | Z
  deriving DecidableEq
def Rl.code : Rl → Nat
  | .A => 65 | .C => 67 | .I => 73 | .U => 85 | .Z => 90
def RS.has (R : RS) : Rl → Bool
  | .A => R.a | .C => R.c | .I => R.i | .U => R.u | .Z => R.z
def pth (q : List Bool) : List Nat := q.map fun b => if b then 49 else 48
theorem pth_inj : ∀ {p q : List Bool}, pth p = pth q → p = q
  | [], [], _ => rfl
  | [], b :: q, h => by simp [pth] at h
  | a :: p, [], h => by simp [pth] at h
  | a :: p, b :: q, h => by
    simp only [pth, List.map_cons, List.cons.injEq] at h
    obtain ⟨h1, h2⟩ := h
    have e : a = b := by
      revert h1
      cases a <;> cases b <;> decide
    rw [e, pth_inj (p := p) (q := q) h2]
structure Deed where
  rl : Rl
  at_ : List Bool
  to : Tree
def deedV (d : Deed) : List V := [.str (S [d.rl.code]), .str (S (pth d.at_)), .str (S d.to.txt)]
def DeedAt (H : Hp) (p : Addr) (d : Deed) : Prop := H p = some (.tup (deedV d))
/-- a board at p, its list of deeds at d -/
def BoardAt (K : PySem.W.Frag) (H : Hp) (p d : Addr) (first : Tree) (ds : List Deed) : Prop :=
  ∃ dx pf ts, H p = some (.ins (cBoard K) dx [("first", .ref pf), ("deeds", .ref d)]) ∧ WayAt K H pf first ∧ H d = some (.lst (ts.map V.ref)) ∧ Each (DeedAt H) ts ds

/-! ### kept -/
section
variable {K : PySem.W.Frag} {H H' : Hp}
theorem RulesAt.gr (g : Gr H H') {p : Addr} {R : RS} (h : RulesAt K H p R) : RulesAt K H' p R := let ⟨dx, e⟩ := h; ⟨dx, g _ _ e (fun _ z => nomatch z) (fun _ z => nomatch z)⟩
theorem WayAt.gr (g : Gr H H') : ∀ {t : Tree} {p : Addr}, WayAt K H p t → WayAt K H' p t
  | .lf x, p, h => let ⟨dx, lt, e, e2⟩ := h; ⟨dx, lt, g _ _ e (fun _ z => nomatch z) (fun _ z => nomatch z), g _ _ e2 (fun _ z => nomatch z) (fun _ z => nomatch z)⟩
  | .nd l r, p, h => let ⟨dx, lt, pl, pr, e, e2, hl, hr⟩ := h; ⟨dx, lt, pl, pr, g _ _ e (fun _ z => nomatch z) (fun _ z => nomatch z), g _ _ e2 (fun _ z => nomatch z) (fun _ z => nomatch z), WayAt.gr g hl, WayAt.gr g hr⟩
theorem LT.gr (g : Gr H H') : ∀ {t : Tree} {v : V}, LT H v t → LT H' v t
  | .lf x, v, h => h
  | .nd l r, v, h => let ⟨p, a, b, e, e2, hl, hr⟩ := h; ⟨p, a, b, e, g _ _ e2 (fun _ z => nomatch z) (fun _ z => nomatch z), LT.gr g hl, LT.gr g hr⟩
theorem Each.imp {α : Type} {R R' : Addr → α → Prop} {qs : List Addr} {xs : List α} (h : Each R qs xs) (f : ∀ q x, R q x → R' q x) : Each R' qs xs := ⟨h.1, fun i q x a b => f q x (h.2 i q x a b)⟩
theorem RulesL.gr (g : Gr H H') {qs : List Addr} {Rs : List RS} (h : RulesL K H qs Rs) : RulesL K H' qs Rs := Each.imp h fun _ _ => RulesAt.gr g
theorem FamAt.gr (g : Gr H H') {p m : Addr} {Rs : List RS} (h : FamAt K H p m Rs) (hm : ∀ o, H m = some o → H' m = some o) : FamAt K H' p m Rs := let ⟨dx, qs, e, e2, r⟩ := h; ⟨dx, qs, g _ _ e (fun _ z => nomatch z) (fun _ z => nomatch z), hm _ e2, r.gr g⟩
theorem FamAt.same (g : Same H H') {p m : Addr} {Rs : List RS} (h : FamAt K H p m Rs) : FamAt K H' p m Rs := h.gr (.of g) fun o e => g _ _ e
theorem DeedAt.gr (g : Gr H H') {p : Addr} {d : Deed} (h : DeedAt H p d) : DeedAt H' p d := g _ _ h (fun _ z => nomatch z) (fun _ z => nomatch z)
theorem BoardAt.gr (g : Gr H H') {p d : Addr} {first : Tree} {ds : List Deed} (h : BoardAt K H p d first ds) (hd : ∀ o, H d = some o → H' d = some o) : BoardAt K H' p d first ds := by
  obtain ⟨dx, pf, ts, e, hw, e2, q⟩ := h
  exact ⟨dx, pf, ts, g _ _ e (fun _ z => nomatch z) (fun _ z => nomatch z), hw.gr g, hd _ e2, q.imp fun _ _ => DeedAt.gr g⟩
theorem BoardAt.same (g : Same H H') {p d : Addr} {first : Tree} {ds : List Deed} (h : BoardAt K H p d first ds) : BoardAt K H' p d first ds := h.gr (.of g) fun o e => g _ _ e

/-! ### fields -/
variable {t n l r : V} {lt : Addr}
theorem wf_text : (wayF t n l r lt).lookup ("text" : Str) = some t := by kernel_rfl
theorem wf_name : (wayF t n l r lt).lookup ("name" : Str) = some n := by kernel_rfl
theorem wf_left : (wayF t n l r lt).lookup ("left" : Str) = some l := by kernel_rfl
theorem wf_right : (wayF t n l r lt).lookup ("right" : Str) = some r := by kernel_rfl
theorem wf_leaves : (wayF t n l r lt).lookup ("leaves" : Str) = some (.ref lt) := by kernel_rfl
theorem rf_letters {v : V} : ([("letters", v)] : List (Str × V)).lookup ("letters" : Str) = some v := by kernel_rfl
theorem ff_members {v : V} : ([("members", v)] : List (Str × V)).lookup ("members" : Str) = some v := by kernel_rfl
theorem bf_first {v u : V} : ([("first", v), ("deeds", u)] : List (Str × V)).lookup ("first" : Str) = some v := by kernel_rfl
theorem bf_deeds {v u : V} : ([("first", v), ("deeds", u)] : List (Str × V)).lookup ("deeds" : Str) = some u := by kernel_rfl
/-- what every way has -/
theorem WayAt.obj : ∀ {t : Tree} {p : Addr}, WayAt K H p t → ∃ dx lt nm l r, H p = some (.ins (cWay K) dx (wayF (.str (S t.txt)) nm l r lt)) ∧ H lt = some (.tup (t.leaves.map leafV))
  | .lf x, p, ⟨dx, lt, e, e2⟩ => ⟨dx, lt, _, _, _, e, e2⟩
  | .nd l r, p, ⟨dx, lt, pl, pr, e, e2, _, _⟩ => ⟨dx, lt, _, _, _, e, e2⟩
theorem WayAt.is {t : Tree} {p : Addr} (h : WayAt K H p t) : Is (cWay K) H p := let ⟨dx, _, _, _, _, e, _⟩ := h.obj; ⟨dx, _, e⟩
theorem RulesAt.is {R : RS} {p : Addr} (h : RulesAt K H p R) : Is (cRules K) H p := let ⟨dx, e⟩ := h; ⟨dx, _, e⟩
theorem FamAt.is {Rs : List RS} {p m : Addr} (h : FamAt K H p m Rs) : Is (cFamily K) H p := let ⟨dx, _, e, _⟩ := h; ⟨dx, _, e⟩
end
end NL
set_option Elab.async false
set_option linter.all false
set_option maxRecDepth 100000
set_option maxHeartbeats 2000000
/-! A comprehension whose items are told ahead. -/
namespace NL
open PySem PySem.Spec PyProof.Rows L2 SX
theorem map_at' {α β : Type} {f : α → β} {l : List α} {i : Nat} {y : β} (h : (l.map f)[i]? = some y) : ∃ x, l[i]? = some x ∧ y = f x := by
  rw [List.getElem?_map] at h
  cases e : l[i]? with
  | none => rw [e] at h; cases h
  | some x => rw [e] at h; exact ⟨x, rfl, (Option.some.inj h).symm⟩
theorem some_map' {α β : Type} (f : α → β) (l : List α) : (l.map fun x => some (f x)).filterMap id = l.map f := by
  induction l with
  | nil => rfl
  | cons a l ih => simp
/-- an attribute read, the written part named (for a comprehension's block) -/
theorem e_fld {X : Cx} {K : PySem.W.Frag} {e : Expr} {ta : TE} {f : Str} {pos : Pos} (he : PE X e ta) (hK : X.K = K := by rfl) (hb : attributeBase e f X.env (eval e X.env) = eval e X.env := by rfl) : PE X (.Attribute e f pos) (tFld K ta f) := hK ▸ pe_fld he hb
/-- the signs of a text, one by one -/
def signs (l : List Nat) : List V := l.map fun c => .str (S [c])
theorem walk_signs (l : List Nat) : Walk (Its (S l)) (signs l).length (fun _ => True) (YAt (signs l)) := by
  have e : (S l).cps.size = (signs l).length := by simp [signs, S]
  have h := walk_str (z := S l)
  rw [e] at h
  refine h.mono (fun _ q => q) fun i H x H' hi _ y => ?_
  obtain ⟨h1, c, h2, h3⟩ := y
  refine ⟨h1, ?_⟩
  have h4 : l[i]? = some c := by
    have : l.toArray[i]? = some c := h2
    simpa using this
  rw [h3, signs, List.getElem?_map, h4]
  rfl
theorem yes1 {te : TE} {σ : L2.St} {H : Hp} {R : V → Hp → Prop} {R0 : Hp → Prop} (h : te σ H R) : tYes σ H fun b H3 => if b = true then te σ H3 R else R0 H3 := by
  unfold tYes
  exact (if_pos rfl).mpr h
section
variable {J : It} {G : Hp → Prop} {xs : List V} {g : TG} {tt : TT} {te : TE} {vs : List Nat} {σ : L2.St} {H1 : Hp} {D : Addr} {Qd : Hp → Prop}
theorem take_some {α : Type} {fs : List (Option α)} {i : Nat} {y : α} (h : fs[i]? = some (some y)) : (fs.take (i + 1)).filterMap id = (fs.take i).filterMap id ++ [y] := by
  rw [List.take_add_one, h, List.filterMap_append]
  rfl
theorem take_none {α : Type} {fs : List (Option α)} {i : Nat} (h : fs[i]? = some (none : Option α)) : (fs.take (i + 1)).filterMap id = (fs.take i).filterMap id := by
  rw [List.take_add_one, h, List.filterMap_append]
  simp
/-- fs says of each item whether it is kept and what it gives -/
theorem lc_pure (w : Walk J xs.length G (YAt xs)) (fs : List (Option V)) (hf : fs.length = xs.length) (hz : xs.length ≤ 4096) (hD : H1 D = none) (hG : ∀ H, Same H1 H → G H)
    (hs : ∀ (i : Nat) (x : V) (o : Option V) (H : Hp) (R : V → Hp → Prop) (R0 : Hp → Prop), xs[i]? = some x → fs[i]? = some o → Same H1 H → (∀ y H4, o = some y → Same H H4 → R y H4) → (∀ H3, o = none → Same H H3 → R0 H3) →
      g x (wipe σ vs) H fun σ2 H2 => wipe σ2 vs = wipe σ vs ∧ tt σ2 H2 fun b H3 => if b = true then te σ2 H3 R else R0 H3)
    (hd : ∀ H, Same H1 H → H D = some (.lst (fs.filterMap id)) → Qd H) :
    ∃ W : Nat → Nat → Hp → Prop, (∃ m, W 0 m (upd H1 D (.lst []))) ∧ ∀ i m H, W i m H →
      (J.stop i H ∧ Qd H) ∨ (J.go i H ∧ ∃ Nx : Hp → Prop, (∀ H', Nx H' → ∃ m', m' < m ∧ W (i + 1) m' H') ∧ ∀ x H', J.yld i H x H' → g x (wipe σ vs) H' fun σ2 H2 => wipe σ2 vs = wipe σ vs ∧ tt σ2 H2 fun b H3 =>
        if b = true then te σ2 H3 fun y H4 => ∃ acc, H4 D = some (.lst acc) ∧ acc.length < sizeLine ∧ Nx (upd H4 D (.lst (acc ++ [y]))) else Nx H3) := by
  refine lc_it w (fun i H => Same H1 H ∧ H D = some (.lst ((fs.take i).filterMap id))) ⟨same_upd hD, upd_same⟩ (fun i H _ p => hG H p.1) ?_ ?_
  · rintro i x H H' hi ⟨p1, p2⟩ ⟨rfl, hx⟩
    have hi' : i < fs.length := by rw [hf]; exact hi
    refine hs i x fs[i] _ _ _ hx (List.getElem?_eq_getElem hi') p1 (fun y H4 e s4 => ?_) fun H3 e s3 => ?_
    · refine ⟨_, s4 _ _ p2, ?_, ?_, ?_⟩
      · have h1 : ((fs.take i).filterMap id).length ≤ (fs.take i).length := List.length_filterMap_le ..
        have h2 : (fs.take i).length ≤ i := by rw [List.length_take]; omega
        have h3 : 4096 < sizeLine := by decide
        omega
      · intro b u e2
        have hb : b ≠ D := ne_of_none e2 hD
        rw [upd_ne hb]
        exact s4 _ _ (p1 _ _ e2)
      · rw [upd_same, take_some (y := y) (by rw [List.getElem?_eq_getElem hi', e])]
    · refine ⟨p1.trans s3, ?_⟩
      rw [take_none (by rw [List.getElem?_eq_getElem hi', e])]
      exact s3 _ _ p2
  · rintro H ⟨p1, p2⟩
    rw [← hf, List.take_length] at p2
    exact hd H p1 p2
/-- what each item gives is told by a relation -/
def EachV {α : Type} (R : V → α → Prop) (ys : List V) (xs : List α) : Prop := ys.length = xs.length ∧ ∀ (i : Nat) y x, ys[i]? = some y → xs[i]? = some x → R y x
theorem EachV.nil {α : Type} {R : V → α → Prop} : EachV R [] [] := ⟨rfl, fun i y x h => by simp at h⟩
theorem EachV.snoc {α : Type} {R : V → α → Prop} {ys : List V} {xs : List α} {y : V} {x : α} (h : EachV R ys xs) (r : R y x) : EachV R (ys ++ [y]) (xs ++ [x]) := by
  refine ⟨by simp [h.1], fun i y' x' a b => ?_⟩
  by_cases hi : i < ys.length
  · rw [List.getElem?_append_left hi] at a
    rw [List.getElem?_append_left (by rw [← h.1]; exact hi)] at b
    exact h.2 i y' x' a b
  · rw [List.getElem?_append_right (Nat.le_of_not_lt hi)] at a
    rw [List.getElem?_append_right (by rw [← h.1]; exact Nat.le_of_not_lt hi)] at b
    rw [← h.1] at b
    by_cases e : i - ys.length = 0
    · rw [e] at a b
      simp at a b
      rw [← a, ← b]
      exact r
    · obtain ⟨k, hk⟩ := Nat.exists_eq_succ_of_ne_zero e
      rw [hk] at a
      simp at a
theorem EachV.imp {α : Type} {R R' : V → α → Prop} {ys : List V} {xs : List α} (h : EachV R ys xs) (f : ∀ y x, R y x → R' y x) : EachV R' ys xs := ⟨h.1, fun i y x a b => f y x (h.2 i y x a b)⟩
theorem EachV.refs {α : Type} {R : Addr → α → Prop} {ys : List V} {xs : List α} (h : EachV (fun v x => ∃ q, v = .ref q ∧ R q x) ys xs) : ∃ qs, ys = qs.map V.ref ∧ Each R qs xs := by
  induction ys generalizing xs with
  | nil =>
    have e : xs = [] := List.eq_nil_of_length_eq_zero (by rw [← h.1]; rfl)
    subst e
    exact ⟨[], rfl, rfl, fun i q x a => by simp at a⟩
  | cons y ys ih =>
    match xs, h with
    | [], h => exact absurd h.1 (by simp)
    | x :: xs, h =>
      obtain ⟨q, e, r⟩ := h.2 0 y x rfl rfl
      obtain ⟨qs, e2, e3⟩ := ih (xs := xs) ⟨by have := h.1; simpa using this, fun i y' x' a b => h.2 (i + 1) y' x' (by simpa using a) (by simpa using b)⟩
      refine ⟨q :: qs, by rw [e, e2]; rfl, by simp [e3.1], fun i q' x' a b => ?_⟩
      cases i with
      | zero =>
        simp at a b
        rw [← a, ← b]
        exact r
      | succ i => exact e3.2 i q' x' (by simpa using a) (by simpa using b)
theorem lc_rel {β : Type} {RR : Hp → V → β → Prop} (w : Walk J xs.length G (YAt xs)) (bs : List β) (hf : bs.length = xs.length) (hz : xs.length ≤ 4096) (hD : H1 D = none) (hG : ∀ H, Same H1 H → G H) (mono : ∀ H H' v b, Gr H H' → RR H v b → RR H' v b)
    (hs : ∀ (i : Nat) (x : V) (b : β) (H : Hp) (R : V → Hp → Prop) (R0 : Hp → Prop), xs[i]? = some x → bs[i]? = some b → Same H1 H → (∀ y H4, Same H H4 → RR H4 y b → R y H4) →
      g x (wipe σ vs) H fun σ2 H2 => wipe σ2 vs = wipe σ vs ∧ tt σ2 H2 fun b H3 => if b = true then te σ2 H3 R else R0 H3)
    (hd : ∀ H ys, Same H1 H → H D = some (.lst ys) → EachV (RR H) ys bs → Qd H) :
    ∃ W : Nat → Nat → Hp → Prop, (∃ m, W 0 m (upd H1 D (.lst []))) ∧ ∀ i m H, W i m H →
      (J.stop i H ∧ Qd H) ∨ (J.go i H ∧ ∃ Nx : Hp → Prop, (∀ H', Nx H' → ∃ m', m' < m ∧ W (i + 1) m' H') ∧ ∀ x H', J.yld i H x H' → g x (wipe σ vs) H' fun σ2 H2 => wipe σ2 vs = wipe σ vs ∧ tt σ2 H2 fun b H3 =>
        if b = true then te σ2 H3 fun y H4 => ∃ acc, H4 D = some (.lst acc) ∧ acc.length < sizeLine ∧ Nx (upd H4 D (.lst (acc ++ [y]))) else Nx H3) := by
  refine lc_it w (fun i H => Same H1 H ∧ ∃ ys, H D = some (.lst ys) ∧ EachV (RR H) ys (bs.take i)) ⟨same_upd hD, [], upd_same, by rw [List.take_zero]; exact .nil⟩ (fun i H _ p => hG H p.1) ?_ ?_
  · rintro i x H H' hi ⟨p1, ys, p2, p3⟩ ⟨rfl, hx⟩
    have hi' : i < bs.length := by rw [hf]; exact hi
    refine hs i x bs[i] _ _ _ hx (List.getElem?_eq_getElem hi') p1 fun y H4 s4 r4 => ?_
    have l1 : ys.length = i := by
      rw [p3.1, List.length_take]
      omega
    refine ⟨_, s4 _ _ p2, ?_, ?_, ys ++ [y], upd_same, ?_⟩
    · have h3 : 4096 < sizeLine := by decide
      omega
    · intro b u e2
      have hb : b ≠ D := ne_of_none e2 hD
      rw [upd_ne hb]
      exact s4 _ _ (p1 _ _ e2)
    · have g4 : Gr H4 (upd H4 D (.lst (ys ++ [y]))) := fun c u e n _ => by
        have hc : c ≠ D := fun z => by
          rw [z, s4 _ _ p2] at e
          exact n _ (Option.some.inj e).symm
        rw [upd_ne hc]
        exact e
      have e : bs.take (i + 1) = bs.take i ++ [bs[i]] := by
        rw [List.take_add_one, List.getElem?_eq_getElem hi']
        rfl
      rw [e]
      exact (p3.imp fun y x r => mono _ _ _ _ g4 (mono _ _ _ _ (.of s4) r)).snoc (mono _ _ _ _ g4 r4)
  · rintro H ⟨p1, ys, p2, p3⟩
    rw [← hf, List.take_length] at p3
    exact hd H ys p1 p2 p3
end
end NL
set_option Elab.async false
set_option linter.all false
set_option maxRecDepth 100000
set_option maxHeartbeats 4000000
/-! Rules: made, its letters asked, ==, within. -/
namespace NL
open PySem PySem.Spec PyProof.Rows L2 SX
section
variable {P : Program} {w : World} {K : PySem.W.Frag} {mg : Str → Option Value} {base : Heap} {name qual : Str} {st : Stmt} {f : Addr} {N ps : List Str} {k : Nat} {pm : Pm}
/-- a def whose one default is not used -/
theorem ok_ofD {v : V} (F : ∃ fd, FunD K name qual (defArgs st) (defBody st) (defScope st) [v] [] f fd) (S : FnScope N ps (defScope st))
    (b : ∀ (T : Addr) (kV doc pm : Value) (an : Option Addr) (cdv ct : Value) (us its : List Value), us.length = ps.length → its.length = 1 →
      ∃ k, bindArgs (PySem.W.fnOf name qual (defArgs st) (defBody st) (defScope st) (.ref T) kV doc pm an cdv ct) ⟨us, []⟩ = seqItems? (.ref T) >>= k ∧ k (some its.toArray) = pure (ps.zip (us ++ its.drop 1)))
    (len : ∀ vs H Q, pm vs H Q → vs.length = ps.length) (hbody : Bod P w K mg base N qual st f k pm) : Ok P w K mg base (k + 1) f pm := by
  obtain ⟨fd, F⟩ := F
  obtain ⟨ds, r, hb⟩ := FunD.binds1 (ps := ps) F ps.length 1 (by simp) (by simp) b
  have r' : Vals [] ds := r
  cases r'
  have G := (fnok F S len hbody).raw hb .nil
  exact FnR.imp G fun vs H Q E h => by rw [List.append_nil]; exact h
def rsOf (l : List Nat) : RS := ⟨decide (65 ∈ l), decide (67 ∈ l), decide (73 ∈ l), decide (85 ∈ l), decide (90 ∈ l)⟩
theorem rsOf_txt (R : RS) : rsOf R.txt = R := by
  obtain ⟨a, c, i, u, z⟩ := R
  cases a <;> cases c <;> cases i <;> cases u <;> cases z <;> decide
theorem letters5 : ("ACIUZ" : Str) = S [65, 67, 73, 85, 90] := by decide +kernel
def lets : List Nat := [65, 67, 73, 85, 90]
theorem join_lets (l : List Nat) : Txt.join ("" : Str) ((lets.filter fun c => decide (c ∈ l)).map fun c => S [c]) = S (rsOf l).txt := by
  have e : ((lets.filter fun c => decide (c ∈ l)).map fun c => S [c]) = ((lets.filter fun c => decide (c ∈ l)).map fun c => [c]).map S := by simp [List.map_map, Function.comp_def]
  have e0 : ("" : Str) = S [] := by decide +kernel
  rw [e, e0, join_S]
  congr 1
  unfold rsOf RS.txt lets
  by_cases h1 : 65 ∈ l <;> by_cases h2 : 67 ∈ l <;> by_cases h3 : 73 ∈ l <;> by_cases h4 : 85 ∈ l <;> by_cases h5 : 90 ∈ l <;> simp [List.filter, h1, h2, h3, h4, h5, TL.joinL]
theorem filt_map {α β : Type} (p : α → Bool) (f : α → β) (l : List α) : (l.map fun x => if p x = true then some (f x) else none).filterMap id = (l.filter p).map f := by
  induction l with
  | nil => rfl
  | cons a l ih =>
    cases h : p a <;> simp [h, ih]
def pm_rinit (K : PySem.W.Frag) : Pm := fun vs H Q => ∃ (p dx : Addr) (l : List Nat), vs = [.ref p, .str (S l)] ∧ H p = some (.ins (cRules K) dx []) ∧ (∀ c ∈ l, c ∈ lets) ∧ l.length ≤ 4096 ∧
  ∀ H', Sx [p] H H' → RulesAt K H' p (rsOf l) → Q .non H'
theorem ok_rinit (T : Txt K mg) : Ok P w K mg base 1 (a_Rules_init K) (pm_rinit K) := by
  refine ok_ofD (F_Rules_init T) cRules_init (fun T kV doc pm an cdv ct us its h1 h2 => ?_) (fun vs H Q h => ?_) (fun cdv A outer s H vs Q E hr h => ?_)
  · match us, its, h1, h2 with
    | [_, _], [_], _, _ => exact ⟨_, rfl, rfl⟩
  · obtain ⟨p, dx, l, rfl, _⟩ := h
    rfl
  obtain ⟨p, dx, l, rfl, hp, hl, hz, q⟩ := h
  refine ⟨_, pss_cons (ps_for PassesOwn.never rfl (pi_str (pv 1)) (pg_name (i := 2) cRules_init.nd rfl (.inl rfl))
      (pss_one (ps_if (pt_cmpR op_notIn_sign (pv 2) (C8.pe_gc (by rfl) (g_LETTERS_rules T)) (by rfl)) (pss_one ps_never) pss_nil)))
    (pss_one (ps_fld (pv 0) (pe_join pe_str (pe_lc (own := [("letter", 2)]) (g := gName 2) rfl cRules_init.nd (pi_str (C8.pe_gc (by rfl) (g_LETTERS_rules T)))
      (blkOk_by (N := nRules_init) (sc := defScope sRules_init) (by decide +kernel)) (fun _ _ _ _ _ => pg_name (i := 2) cRules_init.nd rfl (Or.inl rfl)) (fun _ _ _ _ _ => pts_one (pt_cmpR op_in_sign (pv 2) (pv 1) (by rfl))) (fun _ _ _ _ _ => pv 2))) rfl)), ?_⟩
  refine ⟨_, rfl, _, rfl, ?_⟩
  refine for_it (walk_signs l) (fun i σ H' => H' = H ∧ ∃ v, σ = [some (.ref p), some (.str (S l)), v]) ⟨rfl, _, rfl⟩ (fun _ _ _ _ _ => trivial) ?_ ?_
  · rintro i x σ H1 H2 hi ⟨rfl, v, rfl⟩ ⟨rfl, hx⟩
    obtain ⟨c, hc, rfl⟩ := map_at' hx
    have hm := hl c (List.mem_of_getElem? hc)
    refine ⟨_, rfl, c, _, rfl, rfl, _, rfl, ?_⟩
    have e : decide (c ∈ ("ACIUZ" : Str).cps.toList) = true := decide_eq_true (by rw [letters5]; exact hm)
    rw [e]
    exact iteF ⟨rfl, _, rfl⟩
  · rintro σ H1 ⟨rfl, v, rfl⟩
    refine ⟨⟨_, rfl⟩, _, rfl, ?_⟩
    rw [letters5]
    intro D hD
    refine lc_pure (walk_signs lets) (lets.map fun c => if decide (c ∈ l) = true then some (.str (S [c])) else none) rfl (by decide) hD (fun _ _ => trivial) ?_ ?_
    · intro i x o H2 R R0 hx ho s2 kR k0
      obtain ⟨c, hc, rfl⟩ := map_at' hx
      obtain ⟨c', hc', rfl⟩ := map_at' ho
      rw [hc] at hc'
      cases hc'
      refine ⟨rfl, _, rfl, _, rfl, c, _, rfl, rfl, _, rfl, ?_⟩
      have e : decide (c ∈ (S l).cps.toList) = decide (c ∈ l) := by simp [S]
      rw [e]
      cases hb : decide (c ∈ l) with
      | true => exact iteT ⟨_, rfl, kR _ _ (by rw [hb]; rfl) (Same.refl _)⟩
      | false => exact iteF (k0 _ (by rw [hb]; rfl) (Same.refl _))
    intro H2 s2 h2
    rw [filt_map] at h2
    have hn : (lets.filter fun c => decide (c ∈ l)).length ≤ 5 := List.length_filter_le _ _
    refine ⟨_, D, (lets.filter fun c => decide (c ∈ l)).map fun c => S [c], rfl, rfl, .inl (SqL.of ?_), ?_, ?_⟩
    · rw [h2]
      simp [List.map_map, Function.comp_def]
    · have e : (((lets.filter fun c => decide (c ∈ l)).map fun c => S [c]).map (·.length)).sum ≤ 5 := by
        have : ∀ m : List Nat, ((m.map fun c => S [c]).map (·.length)).sum = m.length := fun m => by
          induction m with
          | nil => rfl
          | cons a m ih => rw [List.map_cons, List.map_cons, List.sum_cons, ih, S_len]; simp; omega
        rw [this]
        exact hn
      have e0 : ("" : Str).length = 0 := by decide +kernel
      rw [e0]
      omega
    rw [join_lets]
    refine ⟨_, rfl, p, _, dx, _, rfl, s2 _ _ hp, cl_Rules T, no_Rules_letters T, by decide, ?_⟩
    exact q _ (fun b o e n => by rw [upd_ne (by simpa using n)]; exact s2 _ _ e) ⟨dx, upd_same⟩
def pm_rcontains (K : PySem.W.Frag) : Pm := fun vs H Q => ∃ (p : Addr) (c : Nat) (R : RS), vs = [.ref p, .str (S [c])] ∧ RulesAt K H p R ∧ Q (.bl (decide (c ∈ R.txt))) H
theorem ok_rcontains (T : Txt K mg) : Ok P w K mg base 1 (a_Rules_contains K) (pm_rcontains K) := by
  refine ok_of (F_Rules_contains T) cRules_contains b_Rules_contains (fun vs H Q h => ?_) (fun cdv A outer s H vs Q E hr h => ?_)
  · obtain ⟨p, c, R, rfl, _⟩ := h
    rfl
  obtain ⟨p, c, R, rfl, ⟨dx, hp⟩, q⟩ := h
  refine ⟨_, pss_one (ps_ret (pe_and (pe_cmpR op_eq (pe_callB call_len_str (by rfl) (z_len T) PySem.boot_len (pa_cons (pv 1) pa_nil)) pe_int (nomark _)) (pe_one (pe_cmpR op_in_sign (pv 1) (pe_fld (pv 0) rfl) (by rfl))))), ?_⟩
  refine ⟨_, rfl, _, rfl, by rw [S_len]; exact small_len (by simp), rfl, _, rfl, ?_⟩
  have e : decide (V.int ((S [c]).length : Nat) = V.int 1) = true := by rw [S_len]; rfl
  rw [e]
  refine iteT ⟨_, rfl, _, rfl, p, _, dx, _, _, rfl, hp, cl_Rules T, no_Rules_letters T, rf_letters, c, _, rfl, rfl, ?_⟩
  have e2 : decide (c ∈ (S R.txt).cps.toList) = decide (c ∈ R.txt) := by simp [S]
  rw [← e2] at q
  exact q
theorem ins_Rules (T : Txt K mg) : C8.InsC K (cRules K) := T.insC (cl_Rules T) (T.ex 0 (b := insB K "Rules") rfl)
def pm_req (K : PySem.W.Frag) : Pm := fun vs H Q => ∃ (p p' : Addr) (R R' : RS), vs = [.ref p, .ref p'] ∧ RulesAt K H p R ∧ RulesAt K H p' R' ∧ Q (.bl (decide (R = R'))) H
theorem fn_req (T : Txt K mg) : ∃ fd, FunD K "__eq__" "Rules.__eq__" (defArgs sRules_eq) (defBody sRules_eq) (defScope sRules_eq) [] [] (a_Rules_eq K) fd ∧ FnOk P w K mg base L2.CX0 1 (a_Rules_eq K) fd pRules_eq (fun vs H Q _ => pm_req K vs H Q) := by
  obtain ⟨fd, F⟩ := F_Rules_eq T
  refine ⟨fd, F, fnok F cRules_eq (fun vs H Q h => ?_) (fun cdv A outer s H vs Q E hr h => ?_)⟩
  · obtain ⟨p, p', R, R', rfl, _⟩ := h
    rfl
  obtain ⟨p, p', R, R', rfl, ⟨d1, o1⟩, ⟨d2, o2⟩, k⟩ := h
  refine ⟨_, pss_one (ps_ret (pe_and (pe_callB (C8.call_isC (ins_Rules T)) (by rfl) (z_isinstance T) (by decide +kernel) (pa_cons (pv 1) (pa_cons (pe_glob (v := .ref (cRules K)) rfl (g_Rules T) rfl) pa_nil)))
    (pe_one (pe_cmpR op_eq (pe_fld (pv 0) rfl) (pe_fld (pv 1) rfl) (nomark _))))), ?_⟩
  refine ⟨_, rfl, p', d2, _, rfl, o2, true, rfl, iteT ?_⟩
  refine ⟨_, rfl, p, _, d1, _, _, rfl, o1, cl_Rules T, no_Rules_letters T, rf_letters, _, rfl, p', _, d2, _, _, rfl, o2, cl_Rules T, no_Rules_letters T, rf_letters, rfl, ?_⟩
  have e : decide (V.str (S R.txt) = V.str (S R'.txt)) = decide (R = R') := by
    rw [dec_S]
    exact decide_eq_decide.mpr RS.txt_iff
  rw [← e] at k
  exact k
theorem ok_req (T : Txt K mg) : Ok P w K mg base 1 (a_Rules_eq K) (pm_req K) := by
  obtain ⟨fd, F, G⟩ := fn_req (P := P) (w := w) (base := base) T
  exact FnR.imp (G.raw (F.bindsN b_Rules_eq) .nil) fun vs H Q E h => by rw [List.append_nil]; exact h
theorem le_txt (R R' : RS) : (R.txt.all fun c => decide (c ∈ R'.txt)) = R.le R' := by
  obtain ⟨a, c, i, u, z⟩ := R
  obtain ⟨a', c', i', u', z'⟩ := R'
  cases a <;> cases c <;> cases i <;> cases u <;> cases z <;> cases a' <;> cases c' <;> cases i' <;> cases u' <;> cases z' <;> rfl
def pm_within (K : PySem.W.Frag) : Pm := fun vs H Q => ∃ (p p' : Addr) (R R' : RS), vs = [.ref p, .ref p'] ∧ RulesAt K H p R ∧ RulesAt K H p' R' ∧ ∀ H', Same H H' → Q (.bl (R.le R')) H'
theorem ok_within (T : Txt K mg) : Ok P w K mg base 1 (a_Rules_within K) (pm_within K) := by
  refine ok_of (F_Rules_within T) cRules_within b_Rules_within (fun vs H Q h => ?_) (fun cdv A outer s H vs Q E hr h => ?_)
  · obtain ⟨p, p', R, R', rfl, _⟩ := h
    rfl
  obtain ⟨p, p', R, R', rfl, ⟨d1, o1⟩, ⟨d2, o2⟩, k⟩ := h
  refine ⟨_, pss_one (ps_ret (pe_callB (cr_all rfl) (by rfl) (z_all T) (by decide +kernel) (pa_cons (pe_lc (own := [("letter", 2)]) (g := gName 2) (tt := tYes) rfl cRules_within.nd (pi_str (pe_fld (pv 0) rfl))
      (blkOk_by (N := nRules_within) (sc := defScope sRules_within) (by decide +kernel)) (fun _ _ _ _ _ => pg_name (i := 2) cRules_within.nd rfl (Or.inl rfl)) (fun _ _ _ _ _ => pts_nil) (fun _ _ _ _ _ => pe_cmpR op_in_sign (pv 2) (e_fld (K := K) (pv 1)) (by rfl))) pa_nil))), ?_⟩
  refine ⟨_, rfl, p, _, d1, _, _, rfl, o1, cl_Rules T, no_Rules_letters T, rf_letters, _, rfl, fun D hD => ?_⟩
  refine lc_pure (walk_signs R.txt) (R.txt.map fun c => some (.bl (decide (c ∈ R'.txt)))) (by simp [signs]) (by have := R.txt_len; simp [signs]; omega) hD (fun _ _ => trivial) ?_ ?_
  · intro i x o H2 R1 R0 hx ho s2 kR k0
    obtain ⟨c, hc, rfl⟩ := map_at' hx
    obtain ⟨c', hc', rfl⟩ := map_at' ho
    rw [hc] at hc'
    cases hc'
    refine ⟨rfl, yes1 ?_⟩
    refine ⟨_, rfl, _, rfl, p', _, d2, _, _, rfl, s2 _ _ o2, cl_Rules T, no_Rules_letters T, rf_letters, c, _, rfl, rfl, kR _ _ ?_ (Same.refl _)⟩
    have e2 : decide (c ∈ (S R'.txt).cps.toList) = decide (c ∈ R'.txt) := by simp [S]
    rw [e2]
  intro H2 s2 h2
  rw [some_map'] at h2
  refine ⟨D, R.txt.map fun c => decide (c ∈ R'.txt), rfl, SqL.of ?_, ?_⟩
  · rw [h2, List.map_map]
    rfl
  have e : (R.txt.map fun c => decide (c ∈ R'.txt)).all id = R.le R' := by
    rw [List.all_map]
    exact le_txt R R'
  rw [e]
  exact k _ s2
end
end NL
set_option Elab.async false
set_option linter.all false
set_option maxRecDepth 100000
set_option maxHeartbeats 4000000
/-! sorted(texts, key=lambda row: (len(row), row)). -/
namespace NL
open PySem PySem.Spec PyProof.Rows L2 SX LamX
open PySem.W (dataLe dataLe_eq dataLt dataLt_pair EachIs alike alikeAll)
/-- the lambda (len(y), y) of one parameter y -/
structure LenKey (params : Arguments) (body : Expr) (scope : Scope) (y : Str) : Prop where
  bd : ∃ p1 p2 p3 p4 k p5, body = .Tuple [.Call (.Name "len" p1) [.Name y p2] [] p3, .Name y p4] k p5
  kind : scope.kind = .function
  co : scope.isCoroutine = false
  gen : scope.isGenerator = false
  cell : ∀ x ∈ scope.names, x.2 ≠ .cell
  clo : ∀ x ∈ scope.names, x.2 ≠ .free
  loc : scope.names.lookup y = some .local
  glo : scope.names.lookup ("len" : Str) = some .globalImplicit
  bind : ∀ (q : Str) (cl : List (Str × Addr)) (pm cv ctv v : Value), bindArgs (PySem.W.kla_fn "<lambda>" q params body scope cl pm cv ctv) ⟨[v], []⟩ = pure [(y, v)]
  d1 : (y == ("__debug__" : Str)) = false
theorem lam_turn {prog : Program} {w : World} {A : Around} {s : Shared} {E : Value → Shared → Prop} {f c' : Addr} {q y : Str} {params : Arguments} {body : Expr} {scope : Scope} {cl : List (Str × Addr)} {pm ctv : Value} {mg mb : Str → Option Value} {z : Str} {t : Tok}
    (L : LenKey params body scope y) (hf : s.heap.get? f = some (PySem.W.kla_obj "<lambda>" q params body scope cl pm c' ctv)) (hcd : s.heap.CodeRec (.ref c') q) (lim : s.heap.NoLimit) (hmod : s.heap.Ns mainGlobals mg) (hlen : mg "len" = none)
    (hb : s.heap.Ns builtinsNs mb) (hbl : mb "len" = some (.builtin "len")) (hd : A.depth < recursionLimit) (hz : z.length ≤ 4096) :
    wpAny (model prog w) A (call (.ref f) [.str z t]) (PySem.W.KeyPure (.tuple [.int z.length, .str z]) s) E s := by
  obtain ⟨p1, p2, p3, p4, k, p5, hbody⟩ := L.bd
  have hn := line63
  have hsz : z.length ≤ sizeLine := small_len hz
  refine wpAny_call ?_
  refine PySem.W.kla_callFunE hd hf rfl L.co L.gen rfl hcd ?_
  rw [L.bind]
  refine wpAny_pure (wpAny_newFunctionEnv L.cell (fun x hx => ?_) (fun h₁ hns hsb => ⟨lim.fresh _ hsb, ?_⟩) L.kind)
  · rw [List.mem_singleton] at hx
    rw [hx]
    exact L.loc
  have kp : ∀ b o, s.heap.get? b = some o → h₁.get? b = some o := fun b o e => hsb.extBut b o (Nat.ne_of_lt (Heap.lt_size e)) (Heap.get?_push_of_some _ e)
  refine PySem.W.kla_codeExpr ?_
  rw [hbody]
  refine wpAny_Tuple_spliced ?_
  have hl : ([(y, Value.str z t)].reverse).lookup y = some (Value.str z t) := by simp [List.lookup]
  refine Calls.spliced_cons ?_
  refine wpAny_Call_Name_kw (Calls.Name_function_global L.kind L.glo (Calls.loadGlobal_builtin (hmod.keeps kp) hlen (hb.keeps kp) hbl ?_) (by decide))
  refine PyProof.Rows.callWith_builtin1 (Calls.spliced_cons ?_)
  refine wpAny_Name (wpAny_loadName_local L.kind L.loc hns hl ?_) L.d1
  refine Calls.spliced_nil (PySem.P.len_str (by omega) ?_)
  refine Calls.spliced_cons (wpAny_Name (wpAny_loadName_local L.kind L.loc hns hl ?_) L.d1)
  refine Calls.spliced_nil ⟨by simp; decide, ?_⟩
  refine ⟨_, _, rfl, fun b o e => Heap.get?_push_of_some _ (kp b o e), ?_⟩
  exact .tuple (as := []) (Heap.get?_push_size _ rfl) rfl rfl (.cons (as := []) (bs := []) (.int _ _) (.cons (as := []) (bs := []) (.str _ _) .nil))
/-! ### the order -/
def lkLe (p q : List Nat) : Bool := decide (p.length < q.length ∨ (p.length = q.length ∧ p ≤ q))
def lkKey (l : List Nat) : PyData := .tuple [.int ((S l).length : Nat), .str (S l)]
theorem S_cps (l : List Nat) : (S l).cps.toList = l := by simp [S]
theorem dataLe_lk : dataLe false lkKey = lkLe := by
  funext a b
  rw [dataLe_eq]
  unfold lkKey lkLe
  show (!dataLt _ _) = _
  rw [dataLt_pair (by simp [alike]) (by simp [alike]), PySem.W.dataLt_int, PySem.W.dataLt_str, S_cps, S_cps, S_len, S_len]
  simp only [PyData.eqv]
  by_cases h1 : b.length = a.length
  · by_cases h2 : b = a
    · subst h2
      simp
    · have h3 : S b ≠ S a := S_ne h2
      have h4 : (S b == S a) = false := by simpa using h3
      by_cases h5 : b < a
      · have h6 : ¬ a ≤ b := fun z => List.not_lt.mpr z h5
        simp [h1, h4, h5, h6]
      · have h6 : a ≤ b := List.not_lt.mp h5
        simp [h1, h4, h5, h6]
  · have h2 : ¬ a.length = b.length := fun e => h1 e.symm
    by_cases h3 : (b.length : Int) < a.length
    · have h4 : ¬ a.length < b.length := by omega
      have h5 : b.length < a.length := by omega
      have h6 : ¬ (b.length : Int) = a.length := by omega
      simp [h2, h4, h5, h6]
    · have h4 : a.length < b.length := by omega
      have h5 : ¬ b.length < a.length := by omega
      have h6 : ¬ (b.length : Int) = a.length := by omega
      simp [h2, h4, h5, h6]
theorem lk_trans (a b c : List Nat) (h1 : lkLe a b = true) (h2 : lkLe b c = true) : lkLe a c = true := by
  unfold lkLe at *
  simp only [decide_eq_true_eq] at *
  rcases h1 with h1 | ⟨h1, h1'⟩ <;> rcases h2 with h2 | ⟨h2, h2'⟩
  · exact .inl (by omega)
  · exact .inl (by omega)
  · exact .inl (by omega)
  · exact .inr ⟨h1.trans h2, List.le_trans h1' h2'⟩
theorem lk_total (a b : List Nat) : (lkLe a b || lkLe b a) = true := by
  unfold lkLe
  simp only [Bool.or_eq_true, decide_eq_true_eq]
  rcases Nat.lt_trichotomy a.length b.length with h | h | h
  · exact .inl (.inl h)
  · rcases List.le_total a b with z | z
    · exact .inl (.inr ⟨h, z⟩)
    · exact .inr (.inr ⟨h.symm, z⟩)
  · exact .inr (.inl h)
theorem lk_anti (a b : List Nat) (h1 : lkLe a b = true) (h2 : lkLe b a = true) : a = b := by
  unfold lkLe at *
  simp only [decide_eq_true_eq] at *
  rcases h1 with h1 | ⟨h1, h1'⟩ <;> rcases h2 with h2 | ⟨h2, h2'⟩
  · omega
  · omega
  · omega
  · exact List.le_antisymm h1' h2'
theorem lk_sorted {l m : List (List Nat)} (h : m.Perm l) (s : m.Pairwise fun a b => lkLe a b = true) : l.mergeSort lkLe = m :=
  List.Perm.eq_of_pairwise (le := fun a b => lkLe a b = true) (fun a b _ _ => lk_anti a b) (List.pairwise_mergeSort lk_trans lk_total l) s ((List.mergeSort_perm l _).trans h.symm)
def txts (l : List (List Nat)) : List V := l.map fun a => .str (S a)
theorem each_of : ∀ {l : List (List Nat)} {us : List Value}, Vals (txts l) us → EachIs (fun v a => ∃ t, v = Value.str (S a) t) us l
  | [], us, r => by
    have r : Vals [] us := r
    cases r
    exact .nil
  | a :: l, us, r => by
    have r : Vals (.str (S a) :: txts l) us := r
    cases r with
    | cons h t =>
      obtain ⟨t', h⟩ := h
      exact .cons ⟨t', h⟩ (each_of t)
theorem of_each : ∀ {l : List (List Nat)} {us : List Value}, EachIs (fun v a => ∃ t, v = Value.str (S a) t) us l → Vals (txts l) us
  | _, _, .nil => .nil
  | _, _, .cons ⟨t, h⟩ r => .cons ⟨t, h⟩ (of_each r)
def tSortLK (K : PySem.W.Frag) (T : List (Addr × Str)) (te : TE) : TE := fun σ H Q => te σ H fun v H1 => ∃ p l, v = .ref p ∧ H1 p = some (.lst (txts l)) ∧ (∀ a ∈ l, a.length ≤ 4096) ∧ Tabs T H1 ∧
  ∀ H2 q, ExtN H1 H2 → Tabs T H2 → H2 q = none → Q (.ref q) (upd H2 q (.lst (txts (l.mergeSort lkLe))))
section
variable {X : Cx} {T : List (Addr × Str)} {c P : Addr} {e : Expr} {te : TE} {params : Arguments} {body : Expr} {scope : Scope} {y : Str} {p pos lpos kpos : Pos} {j : Nat}
/-- sorted(texts, key=lambda y: (len(y), y)) -/
theorem pe_sortedLK (he : PE X e te) (L : LenKey params body scope y) (TB : TabB X.base X.mg c P) (hcode : X.env.code = .ref c) (hmT : (P, X.env.qual ++ "<lambda>") ∈ T) (hu : ∀ p ∈ T, p.1 = P → p.2 = X.env.qual ++ "<lambda>") (hr : Room (j + 2) X.A)
    (hg : Gl X "sorted") (hs : X.mg "sorted" = none) (hl : X.mg "len" = none) (hdef : defaultsOf params X.env = ([], []))
    (h0 : starEach [e] X.env = (false, eval e X.env) :: starEach [] X.env := by rfl) (h1 : backTo pos (starEach [e] X.env) = (false, eval e X.env) :: backTo pos (starEach [] X.env) := by rfl) (hpl : (backTo pos (starEach [e] X.env)).any (·.1) = false := by rfl) :
    PE X (.Call (.Name "sorted" p) [e] [⟨some "key", .Lambda params body scope lpos, kpos⟩] pos) (tSortLK X.K T te) := by
  refine ⟨fun pins s σ H Q I h => ?_⟩
  refine wpAny_Call_Name_kw (ld_blt I hg hs (u := .builtin "sorted") (by decide +kernel) ?_ (by decide) (by decide))
  have ha : PA X [e] (tCons te tNil) := pa_cons he pa_nil h0
  refine PyProof.Rows.callWith_kw (thn (ha.run pos pins s σ H (fun vs H1 => ∃ p l, vs = [.ref p] ∧ H1 p = some (.lst (txts l)) ∧ (∀ a ∈ l, a.length ≤ 4096) ∧ Tabs T H1 ∧
    ∀ H2 q, ExtN H1 H2 → Tabs T H2 → H2 q = none → Q (.ref q) (upd H2 q (.lst (txts (l.mergeSort lkLe))))) I ?_) fun us s1 ⟨vs, H1, I1, r1, q1⟩ => ?_) h1 hpl rfl rfl
  · show te σ H _
    refine (?_ : te σ H _ = _) ▸ h
    congr 1
    funext v H1
    apply propext
    constructor
    · rintro ⟨p, l, e, r⟩
      exact ⟨p, l, by injection e, r⟩
    · rintro ⟨p, l, e, r⟩
      exact ⟨p, l, by rw [e], r⟩
  obtain ⟨p, l, rfl, hp, hz, hT, q⟩ := q1
  obtain rfl := Vals.ref1 r1
  refine wpAny_evalAll_cons (wpAny_bind (lam_make2 I1 TB hcode hmT hu hT hdef (fun y hy e => absurd e (L.clo y hy)) fun f c' pm ctv H2 s2 I2 eN T2 hf hfn hfr hco => wpAny_bind (wpAny_standAt (wpAny_pure ?_))))
  refine wpAny_evalAll_nil ?_
  have hp2 : H2 p = some (.lst (txts l)) := eN _ _ hp (fun ps z => by cases z)
  obtain ⟨lz, its, n, rv, ho⟩ := I2.hok p _ hp2
  have es := each_of rv
  have hlen : l.length ≤ sizeLine := by
    have e : (txts l).length = l.length := by simp [txts]
    rw [← e]
    exact lz
  obtain ⟨⟨oc, vs, t, hoc, hdc, hvc⟩, _, _⟩ := I2.hok c' _ hco
  have rc : s2.heap.CodeRec (.ref c') (X.env.qual ++ "<lambda>") := ⟨c', oc, vs, t, rfl, hoc, hdc, hvc⟩
  obtain ⟨mb, b1, b2⟩ := I2.mod.blt
  have hb : mb "len" = some (.builtin "len") := (b2 "len" (by decide)).trans (by decide +kernel)
  have hd : (X.A.in1.in1).depth < recursionLimit := (hr.in1.in1).depth
  refine PySem.W.sorted_key_data (b := false) (R := fun v a => ∃ t, v = Value.str (S a) t) lkKey ⟨_, ho, rfl, _, rfl⟩ es (PySem.W.AllAlike.of fun _ _ => by simp [alike, alikeAll, lkKey]) (PySem.W.Sortable.tuples fun _ => ⟨_, _, rfl⟩) hlen (fun a ha => ?_)
    (PyProof.Rows.ksk_s1 _ _) (fun _ => PyProof.Rows.ksk_l1 _ _) (fun _ => PyProof.Rows.ksk_t1 _ _) (fun v a hv ha h tk kp => ?_) fun out cc h' tk kp fr hq ln eo => ?_
  · have hd : (lkKey a).depth = 1 := by simp [lkKey, PyData.depth, PyData.depthAll]
    have := hr.un
    omega
  · obtain ⟨t, rfl⟩ := hv
    have KP : ∀ b o, s2.heap.get? b = some o → h.get? b = some o := kp
    exact lam_turn (q := X.env.qual ++ "<lambda>") L (KP _ _ hf) (rc.keeps KP) ((I2.mod.nolimit.keeps I2.bk).keeps KP) ((I2.mod.glob.keeps I2.bk).keeps KP) hl ((b1.keeps I2.bk).keeps KP) hb hd (by rw [S_len]; exact hz a ha)
  · rw [dataLe_lk] at eo
    have rv2 := of_each eo
    have nN : H2 (s2.heap.objs.size + 1) = none := I2.hok.fresh (Nat.le_succ _)
    refine ⟨.ref (s2.heap.objs.size + 1), upd H2 (s2.heap.objs.size + 1) (.lst (txts (l.mergeSort lkLe))), I2.laid (t' := tk) kp (Nat.le_succ _) ⟨?_, _, _, rv2, hq⟩, rfl, q _ _ eN T2 nN⟩
    have e : (txts (l.mergeSort lkLe)).length = l.length := by simp [txts]
    rw [e]
    exact hlen
end
end NL
set_option Elab.async false
set_option linter.all false
set_option maxRecDepth 100000
set_option maxHeartbeats 4000000
/-! Sets of texts: made of a list, their number, in order. -/
namespace NL
open PySem PySem.Spec PyProof.Rows L2 PySem.Froz
open PySem.W (dataLe dataLe_eq dataLt EachIs alike)
/-- a payload that holds the texts l, each once, and can be walked -/
structure SetX (P : Program) (w : World) (D : SD) (l : List Str) : Prop where
  tx : TxOk P w D l
  nd : l.Nodup
  ris : Ris D.2.2.place.toList
  led : w.params.followText "set-order" = true ∨ D.2.2.led = true
section
variable {P : Program} {w : World} {A : Around} {E : Value → Shared → Prop} {s : Shared}
theorem tail_walk {ep : Nat} {es : Array (Int × Value)} {t : SetTable} {d : Bool} (r : Ris t.place.toList) (hl : w.params.followText "set-order" = true ∨ t.led = true) :
    Ris (tailTx ep es t d).2.2.place.toList ∧ (w.params.followText "set-order" = true ∨ (tailTx ep es t d).2.2.led = true) := by
  unfold tailTx
  split
  · exact ⟨relayAll_ris t es _, hl.imp id fun z => (relayAll_led t es _).trans z⟩
  · exact ⟨r, hl⟩
theorem SetX.add {D : SD} {l : List Str} {k : Str} (u : Tok) (X : SetX P w D l) (hk : k ∉ l) : SetX P w (addTx (hashStr w k) (.str k u) D) (k :: l) := by
  have r1 := layNew_ris D.2.2 D.1 (hashStr w k) (.str k u) X.ris
  have l1 := layNew_led D.2.2 D.1 (hashStr w k) (.str k u)
  have w1 : Ris (if (layNew D.2.2 D.1 (hashStr w k) (.str k u)).2.1.plain = true then { (layNew D.2.2 D.1 (hashStr w k) (.str k u)).2.1 with plain := false } else (layNew D.2.2 D.1 (hashStr w k) (.str k u)).2.1).place.toList := by
    split <;> exact r1
  have w2 : w.params.followText "set-order" = true ∨ (if (layNew D.2.2 D.1 (hashStr w k) (.str k u)).2.1.plain = true then { (layNew D.2.2 D.1 (hashStr w k) (.str k u)).2.1 with plain := false } else (layNew D.2.2 D.1 (hashStr w k) (.str k u)).2.1).led = true := by
    refine X.led.imp id fun z => ?_
    split <;> exact l1.trans z
  have w3 := tail_walk (ep := D.2.1) (es := (layNew D.2.2 D.1 (hashStr w k) (.str k u)).1) (d := (layNew D.2.2 D.1 (hashStr w k) (.str k u)).2.2.1) w1 w2
  exact ⟨add_ok u X.tx, List.nodup_cons.mpr ⟨hk, X.nd⟩, w3.1, w3.2⟩
/-- a text that is there already -/
theorem add_old {a : Addr} {T : String} {D : SD} {l : List Str} {k : Str} {u : Tok} {Q : Bool → Shared → Prop} (ho : s.heap.get? a = some (sObj T D)) (F : TxOk P w D l) (hk : k ∈ l) (hb : l.length < scanBound) (h : Q false s) :
    wpAny (model P w) A (setAddHashed a (.str k u) (hashStr w k)) Q E s := by
  obtain ⟨es, ep, t⟩ := D
  have c1 : es.size < scanBound := Nat.lt_of_le_of_lt (Nat.le_of_eq F.sz) hb
  have kk : (strKind P w).is k (.str k u) = true := is_str k u
  unfold setAddHashed setAddHashedIn
  refine wpAny_holding (wpAny_bind (wpAny_setState_of ho (rfl : (sObj T (es, ep, t)).data = .set es ep t) F.fit ?_))
  dsimp only
  rw [byScan_of rfl c1 F.el]
  simp only [↓reduceIte]
  unfold setAddByScan
  refine wpAny_bind (wpAny_bind (wpAny_rule (wpAny_bind (wpAny_setScan_of (knd := strKind P w) (k := k) kk ho (rfl : (sObj T (es, ep, t)).data = .set es ep t) F.fit F.el ?_))))
  cases fi : List.findIdx? (fun e => (strKind P w).is k e.2) es.toList with
  | some j => exact wpAny_pure (wpAny_pure h)
  | none =>
    obtain ⟨e, he, q⟩ := (F.mem k).mp hk
    have z := List.findIdx?_eq_none_iff.mp fi e he
    exact absurd (q.symm.trans z) (by simp)
/-- a set of texts stands at a -/
def SetAtX (P : Program) (w : World) (h : Heap) (a : Addr) (l : List Str) : Prop := ∃ D, h.get? a = some (sObj "set" D) ∧ SetX P w D l
theorem SetAtX.at {h h' : Heap} {a : Addr} {l : List Str} (x : SetAtX P w h a l) (k : ∀ o, h.get? a = some o → h'.get? a = some o) : SetAtX P w h' a l := let ⟨D, e, X⟩ := x; ⟨D, k _ e, X⟩
/-- one text added -/
theorem add_any {a : Addr} {l : List Str} {y : Str} {u : Tok} {Q : Bool → Shared → Prop} (x : SetAtX P w s.heap a l) (hb : l.length + 1 < scanBound)
    (h : ∀ c h' l', Heap.SameBut a s.heap h' → SetAtX P w h' a l' → (∀ z, z ∈ l' ↔ z ∈ l ∨ z = y) → l'.length ≤ l.length + 1 → Q c { s with heap := h' }) : wpAny (model P w) A (setAddHashed a (.str y u) (hashStr w y)) Q E s := by
  obtain ⟨D, e, X⟩ := x
  by_cases hy : y ∈ l
  · exact add_old e X.tx hy (Nat.lt_of_succ_lt hb) (h false s.heap l (Heap.SameBut.refl a s.heap) ⟨D, e, X⟩ (fun z => ⟨.inl, fun q => q.elim id fun q => q ▸ hy⟩) (Nat.le_succ _))
  · refine add_x e X.tx hy hb (h true _ (y :: l) (Heap.SameBut.update s.heap a _) ⟨_, get_upd _ e rfl, X.add u hy⟩ (fun z => ?_) (Nat.le_refl _))
    rw [List.mem_cons]
    exact Or.comm
theorem fill {I : Addr} {fp wr : List Addr} {G : Array GenState → Array GenState → Prop} {n : Nat} {Pv : Nat → Value → Prop} {St : Nat → Shared → Prop} {R : Result → Shared → Prop} (W : WalksS P w A.in1 I fp wr G n Pv St) (a : Addr) (fa : a ∉ fp) (ys : List Str)
    (hn : n = ys.length) (hb : n + 1 < scanBound) (hv : ∀ i v, Pv i v → ∃ y t, ys[i]? = some y ∧ v = .str y t) : ∀ (m i : Nat) (s : Shared), n - i = m → i ≤ n → St i s → (∃ l, SetAtX P w s.heap a l ∧ l.length ≤ i ∧ ∀ z, z ∈ l ↔ z ∈ ys.take i) →
      (∀ s' l, Moved (a :: wr) G s s' → SetAtX P w s'.heap a l → l.length ≤ n → (∀ z, z ∈ l ↔ z ∈ ys) → R (.ok (.ret .none)) s') → codeAny (model P w) A (.builtin "set.update.loop" ⟨[.ref a, .ref I], []⟩) R s := by
  have wa : a ∉ wr := fun z => fa (W.sub _ z)
  have up : ∀ b ∈ wr, b ∈ a :: wr := fun b z => List.mem_cons_of_mem _ z
  intro m
  induction m with
  | zero =>
    intro i s hm hi st ⟨l, x, ll, hl⟩ hR
    obtain rfl : i = n := by omega
    refine codeAny_builtin F.entry_set_update_loop ?_
    rw [Around.under_plainId F.plain_set_update_loop _]
    show wpAny _ A.in1 (pyNext (.ref I) >>= _) _ _ s
    refine wpAny_bind (W.done s _ _ st fun s' mv => ?_)
    rw [List.take_of_length_le (Nat.le_of_eq hn.symm)] at hl
    exact wpAny_pure (hR s' l (mv.mono up) (x.at fun o e => mv.heap a o wa e) ll hl)
  | succ m ih =>
    intro i s hm hi st ⟨l, x, ll, hl⟩ hR
    have lt : i < n := by omega
    refine codeAny_builtin F.entry_set_update_loop ?_
    rw [Around.under_plainId F.plain_set_update_loop _]
    show wpAny _ A.in1 (pyNext (.ref I) >>= _) _ _ s
    refine wpAny_bind (W.item i s _ _ lt st fun v s' pv st' mv => ?_)
    obtain ⟨y, t, hy, rfl⟩ := hv i v pv
    show wpAny _ A.in1 (holding [Value.str y t] (setAdd a (.str y t)) >>= _) _ _ s'
    refine wpAny_bind (wpAny_holding ?_)
    unfold setAdd
    refine wpAny_holding (wpAny_bind ((strKind P w).pyHash (k := y) (is_str _ _) ?_))
    refine add_any (s := { s' with toks := s'.toks + 1 }) (x.at fun o e => mv.heap a o wa e) (by omega) fun c h' l' sb x' hl' ll' => ?_
    refine wpAny_pure ⟨plainId_quiet F.plain_set_update_loop _, ih (i + 1) _ (by omega) lt (W.frame _ s' _ _ st' (Nat.le_succ _) fun b hb' o e => ?_) ⟨l', x', by omega, fun z => ?_⟩ fun s'' l2 mv' x'' n'' e'' => ?_⟩
    · exact (sb.2 b fun z => fa (z ▸ hb')).trans e
    · rw [hl', List.take_add_one, hy, List.mem_append, hl]
      simp
    · refine hR s'' l2 (Moved.trans W.gtrans ((mv.mono up).then_heap (Nat.le_succ _) fun b o hb' e => ?_) mv') x'' n'' e''
      exact (sb.2 b fun z => hb' (z ▸ List.mem_cons_self)).trans e
abbrev freshS (w : World) : Obj := { cls := .type "set", dict := none, data := .set #[] 0 (.fresh 0 0 (!w.params.followText "set-order")) }
theorem freshX : SetX P w (#[], 0, .fresh 0 0 (!w.params.followText "set-order")) [] := by
  refine ⟨TxOk.nil (by kernel_rfl), List.nodup_nil, by show Ris []; exact List.Pairwise.nil, ?_⟩
  show _ ∨ (!w.params.followText "set-order") = true
  cases w.params.followText "set-order"
  · exact .inr rfl
  · exact .inl rfl
end
section
variable {P : Program} {w : World} {A : Around} {E : Value → Shared → Prop} {s : Shared}
theorem fresh_at {h : Heap} {a : Addr} (e : h.get? a = some (freshS w)) : SetAtX P w h a [] := ⟨(#[], 0, .fresh 0 0 (!w.params.followText "set-order")), e, freshX⟩
/-- set(list of texts) -/
theorem set_list {l : Addr} {its : Array Value} (ys : List Str) {Q : Value → Shared → Prop} (hh : A.handled = none) (hl : s.heap.IsList l its) (hi : StrsAre its.toList ys) (hb : ys.length + 1 < scanBound)
    (h : ∀ (h' : Heap) (tk : Nat) (m : List Str), SetAtX P w h' s.heap.objs.size m → m.length ≤ ys.length → (∀ z, z ∈ m ↔ z ∈ ys) → (∀ b o, s.heap.get? b = some o → h'.get? b = some o) → Q (.ref s.heap.objs.size) { s with heap := h', toks := tk }) :
    wpAny (model P w) A (call (.type "set") [.ref l]) Q E s := by
  have hz : its.size = ys.length := by
    have e := hi.len_eq
    rwa [Array.length_toList] at e
  obtain ⟨c0, c1, hmro⟩ := F.called_set.mro
  have k1 := F.called_set.made
  have k2 := F.called_set.sub
  have k3 := F.called_set.notType
  have k4 := F.called_set.canCreate
  have k5 := F.typeCall_set_1 (.ref l)
  refine wpAny_call (codeAny_of_tree ?_)
  show wpAny _ _ (callAny (.type "set") _) _ _ _
  refine wpAny_pure ⟨Code.quiet_builtin _ (by decide +kernel), codeAny_builtin F.entry_type_call ?_⟩
  rw [Around.under_plain (weight_type_call_type "set" [.ref l] []) rfl]
  repeat (any_goals (first | assumption | wp_step))
  refine codeAny_mono (code_set_led1 (.ref l) (E := E) (Q₁ := fun v t => v = .ref s.heap.objs.size ∧ t = { s with heap := s.heap.push (freshS w) }) ⟨rfl, rfl⟩) fun r t hr => ?_
  match r, hr with
  | .error e, hr => exact hr
  | .ok .next, hr => exact hr.elim
  | .ok .brk, hr => exact hr.elim
  | .ok .cont, hr => exact hr.elim
  | .ok (.ret v), hr =>
    obtain ⟨rfl, rfl⟩ := hr
    have g0 : (s.heap.push (freshS w)).get? s.heap.objs.size = some (freshS w) := Heap.get?_push_size _ rfl
    have ty : Shared.TypeIs { s with heap := s.heap.push (freshS w) } (.ref s.heap.objs.size) "set" := ⟨_, g0, rfl⟩
    have k6 := F.called_set.init.lookup
    have k7 := F.called_set.init.bind (.ref s.heap.objs.size)
    repeat (any_goals (first | assumption | wp_step))
    refine codeAny_mono (codeAny_call_builtin (R := wants (fun r t => r = .none ∧ ∃ h' tk m, t = { s with heap := h', toks := tk } ∧ SetAtX P w h' s.heap.objs.size m ∧ m.length ≤ ys.length ∧ (∀ z, z ∈ m ↔ z ∈ ys) ∧
      ∀ b o, s.heap.get? b = some o → h'.get? b = some o) E) F.called_set.init.plain F.entry_set_init (check_set_init_1 ty ?_)) fun r2 t2 hr2 => ?_
    · obtain ⟨⟨_, od, dt, sl⟩, ho, rfl, nl, rfl⟩ := hl
      have ho1 : (s.heap.push (freshS w)).get? l = some { cls := .type "list", dict := od, data := .seq its nl, slots := sl } := Heap.get?_push_of_some _ ho
      have q1 := F.sub_list_set
      have q2 := F.sub_list_frozenset
      have q3 : (Value.type "list" == Value.type "dict") = false := by decide
      have hl1 : (s.heap.push (freshS w)).IsList l its := ⟨_, ho1, rfl, nl, rfl⟩
      unfold Builtin.«set.__init__» noKeywords Builtin.Frozenset.updateFrom
      generalize hPI : pyIter = PI
      wp_walk
      subst hPI
      refine wpAny_pyIter_list hl1 (wpAny_bind (wpAny_runValue ?_))
      have ll : l < s.heap.objs.size := Heap.lt_size ho
      have z1 : (s.heap.push (freshS w)).objs.size = s.heap.objs.size + 1 := Heap.size_push ..
      have n1 : l ≠ (s.heap.push (freshS w)).objs.size := by
        rw [z1]
        exact Nat.ne_of_lt (Nat.lt_succ_of_lt ll)
      have h3 : A.in1.in1.in1.handled = none := by simp [hh]
      have f1 : s.heap.objs.size ∉ [(s.heap.push (freshS w)).objs.size, l] := by
        rw [z1]
        simp only [List.mem_cons, List.not_mem_nil, or_false, not_or]
        exact ⟨Nat.ne_of_lt (Nat.lt_succ_self _), Nat.ne_of_gt ll⟩
      refine fill ((Walks.list h3 _ l n1 its).toS) s.heap.objs.size f1 ys hz (by rw [hz]; exact hb) (fun i v hv => ?_) (its.size - 0) 0 _ rfl (Nat.zero_le _) ⟨⟨_, Heap.get?_push_size _ rfl, rfl, rfl⟩, (hl1.push _)⟩
        ⟨[], fresh_at (Heap.get?_push_of_some _ g0), Nat.le_refl 0, fun z => by simp⟩ fun t m mv x nm em => ?_
      · have hi2 : i < ys.length := by rw [← hz]; exact (Array.getElem?_eq_some_iff.mp hv).1
        obtain ⟨t, e⟩ := SS.strs_at hi i v (by rw [Array.getElem?_toList]; exact hv)
        refine ⟨ys[i], t, List.getElem?_eq_getElem hi2, ?_⟩
        rw [e, List.getD_eq_getElem?_getD, List.getElem?_eq_getElem hi2]
        rfl
      · obtain ⟨h', g', d', tk', os'⟩ := t
        obtain rfl : g' = s.gens := mv.gens
        obtain rfl : d' = s.drawn := mv.drawn
        obtain rfl : os' = s.os := mv.os
        show wpAny _ _ _ _ _ _
        refine wpAny_pure ?_
        show wpAny _ _ (ret Value.none) _ _ _
        rw [hz] at nm
        refine wpAny_pure ⟨rfl, h', tk', m, rfl, x, nm, em, fun b o e => ?_⟩
        have lb : b < s.heap.objs.size := Heap.lt_size e
        refine mv.heap b o ?_ (Heap.get?_push_of_some _ (Heap.get?_push_of_some _ e))
        rw [z1]
        simp only [List.mem_cons, List.not_mem_nil, or_false, not_or]
        exact ⟨Nat.ne_of_lt lb, Nat.ne_of_lt (Nat.lt_succ_of_lt lb)⟩
    · match r2, hr2 with
      | .error e, hr2 => exact hr2
      | .ok .next, hr2 => exact hr2.elim
      | .ok .brk, hr2 => exact hr2.elim
      | .ok .cont, hr2 => exact hr2.elim
      | .ok (.ret v), hr2 =>
        obtain ⟨rfl, h', tk, m, rfl, x, nm, em, kp⟩ := hr2
        repeat (any_goals (first | assumption | wp_step))
        exact h _ _ _ x nm em kp
theorem perm_of {α : Type} [DecidableEq α] : ∀ (l m : List α), l.Nodup → (∀ x ∈ l, x ∈ m) → m.length ≤ l.length → m.Perm l
  | [], m, _, _, h => by
    have e : m = [] := List.eq_nil_of_length_eq_zero (by simpa using h)
    rw [e]
  | x :: l, m, nd, sub, h => by
    obtain ⟨n1, n2⟩ := List.nodup_cons.mp nd
    have hx := sub x List.mem_cons_self
    have p : m.Perm (x :: m.erase x) := List.perm_cons_erase hx
    refine p.trans (List.Perm.cons x (perm_of l (m.erase x) n2 (fun y hy => ?_) ?_))
    · have q : y ∈ x :: m.erase x := p.mem_iff.mp (sub y (List.mem_cons_of_mem _ hy))
      rcases List.mem_cons.mp q with z | z
      · exact absurd (z ▸ hy) n1
      · exact z
    · have e := p.length_eq
      simp at e h
      omega
theorem each_str : ∀ {vs : List Value}, (∀ v ∈ vs, ∃ y t, v = Value.str y t) → EachIs (fun v y => ∃ t, v = Value.str y t) vs (vs.map strOf)
  | [], _ => .nil
  | v :: r, h => by
    obtain ⟨y, t, rfl⟩ := h v List.mem_cons_self
    exact .cons ⟨t, rfl⟩ (each_str fun u hu => h u (List.mem_cons_of_mem _ hu))
theorem strs_each : ∀ {vs : List Value} {ys : List Str}, EachIs (fun v y => ∃ t, v = Value.str y t) vs ys → StrsAre vs ys
  | _, _, .nil => .nil
  | _, _, .cons ⟨t, h⟩ r => by
    rw [h]
    exact .cons _ t (strs_each r)
/-- sorted(set) -/
def stKey (y : Str) : PyData := .str y
theorem stLe : dataLe false stKey = fun a b => decide (a.cps.toList ≤ b.cps.toList) := PySem.W.dataLe_str (β := Str) fun y => y
theorem set_sorted {a : Addr} {l : List Str} {Q : Value → Shared → Prop} (x : SetAtX P w s.heap a l) (hh : A.handled = none) (hz : l.length ≤ 1000) (hu : A.units + 64 < cLine)
    (h : ∀ s' p out c m, (∀ b o, s.heap.get? b = some o → s'.heap.get? b = some o) → s'.gens = s.gens → s'.os = s.os → s.heap.objs.size ≤ p → s'.heap.get? p = some (seqObj "list" (List.toArray out) c) → StrsAre out m → m.Perm l → (m.Pairwise fun a b => a.cps.toList ≤ b.cps.toList) → Q (.ref p) s') :
    wpAny (model P w) A (call (.builtin "sorted") [.ref a]) Q E s := by
  obtain ⟨⟨es, ep, t⟩, ho, X⟩ := x
  have sz : es.size = l.length := X.tx.sz
  have sb : es.size < scanBound := by rw [sz]; exact Nat.lt_of_le_of_lt hz (by decide)
  refine Calls.call_function_entry kind_sorted plain_sorted entry_sorted (args_sorted1 _) ?_
  unfold Builtin.«sorted»
  refine wpAny_bind (m := checkCount "sorted" 1 1 _) (wpAny_pure ?_)
  refine wpAny_bind (collect_set (A := A.in1) hh ⟨_, ho, rfl, rfl⟩ X.tx.fit sb X.ris X.led fun s1 vs k1 z1 g1 o1 pm => ?_)
  have all : ∀ v ∈ vs, ∃ y t, v = Value.str y t := fun v hv => by
    obtain ⟨e, he, q⟩ := List.mem_map.mp (pm.mem_iff.mp hv)
    obtain ⟨⟨k, hk, _⟩, _⟩ := X.tx.el e he
    rw [q] at hk
    have hk : Value.isStrOf k v = true := hk
    cases v <;> first | (exact ⟨_, _, rfl⟩) | (exact absurd hk (by simp [Value.isStrOf]))
  have sa := strsAre_map vs all
  have vl : vs.length = l.length := by rw [pm.length_eq, List.length_map, Array.length_toList]; exact sz
  have pl : (vs.map strOf).Perm l := by
    refine perm_of l _ X.nd (fun y hy => ?_) (by rw [List.length_map, vl]; exact Nat.le_refl _)
    obtain ⟨e, he, q⟩ := (X.tx.mem y).mp hy
    have hv : e.2 ∈ vs := pm.mem_iff.mpr (List.mem_map.mpr ⟨e, he, rfl⟩)
    obtain ⟨z, t', ez⟩ := all _ hv
    refine List.mem_map.mpr ⟨e.2, hv, ?_⟩
    rw [ez] at q ⊢
    have q : (z == y) = true := q
    exact beq_iff_eq.mp q
  refine wpAny_bind (wpAny_newList ?_ (by rw [vl]; exact small_len (by omega)))
  have hL : (s1.heap.push (seqObj "list" vs.toArray 0)).get? s1.heap.objs.size = some (seqObj "list" vs.toArray 0) := Heap.get?_push_size _ rfl
  have ei := each_str all
  refine wpAny_bind (wpAny_holding (PySem.W.list_sort_data (enc := stKey) hL ei (ei.mono fun v y ⟨t, e⟩ => ⟨[], by rw [e]; exact .str _ _, by simp⟩) (PySem.W.AllAlike.of fun _ _ => by simp [alike, stKey]) (PySem.W.Sortable.others fun y => ⟨by simp [stKey], by simp [stKey]⟩)
    (by rw [List.length_map, vl]; exact small_len (by omega)) (fun y _ => ?_) fun out lo eo => ?_))
  · have e : (stKey y).depth = 0 := by simp [stKey, PyData.depth]
    show A.units + 1 + 1 + (stKey y).depth < cLine
    omega
  · rw [stLe] at eo
    obtain ⟨c, hc⟩ := sortedHeap_at (vs := vs) (out := out.toArray) hL
    refine wpAny_pure ⟨_, rfl, h _ s1.heap.objs.size out c ((vs.map strOf).mergeSort fun a b => decide (a.cps.toList ≤ b.cps.toList)) (fun b u e => ?_) g1 o1 z1 hc (strs_each eo) ((List.mergeSort_perm _ _).trans pl) ?_⟩
    · have lb := Heap.lt_size (k1 b u e)
      refine (sortedHeap_old (Nat.ne_of_lt lb) (by rw [size_push']; exact Nat.lt_succ_of_lt lb)).trans (Heap.get?_push_of_some _ (k1 b u e))
    · have pw := List.pairwise_mergeSort (le := fun a b : Str => decide (a.cps.toList ≤ b.cps.toList)) (fun a b c h1 h2 => decide_eq_true (List.le_trans (of_decide_eq_true h1) (of_decide_eq_true h2)))
        (fun a b => by
          rcases List.le_total a.cps.toList b.cps.toList with z | z <;> simp [z]) (vs.map strOf)
      exact pw.imp fun h => of_decide_eq_true h
end
end NL
set_option Elab.async false
set_option linter.all false
set_option maxRecDepth 100000
set_option maxHeartbeats 4000000
/-! Rules.every. -/
namespace NL
open PySem PySem.Spec PyProof.Rows L2 SX LamX
def rowStep (l : List (List Nat)) (c : Nat) : List (List Nat) := l ++ l.map (· ++ [c])
def rowsN (n : Nat) : List (List Nat) := (lets.take n).foldl rowStep [[]]
/-- the texts in order -/
def everyT : List (List Nat) := [[], [65], [67], [73], [85], [90], [65, 67], [65, 73], [65, 85], [65, 90], [67, 73], [67, 85], [67, 90], [73, 85], [73, 90], [85, 90],
  [65, 67, 73], [65, 67, 85], [65, 67, 90], [65, 73, 85], [65, 73, 90], [65, 85, 90], [67, 73, 85], [67, 73, 90], [67, 85, 90], [73, 85, 90],
  [65, 67, 73, 85], [65, 67, 73, 90], [65, 67, 85, 90], [65, 73, 85, 90], [67, 73, 85, 90], [65, 67, 73, 85, 90]]
def everyR : List RS := everyT.map rsOf
theorem every_sorted : (rowsN 5).mergeSort lkLe = everyT := lk_sorted (List.isPerm_iff.mp (by decide +kernel)) (by decide +kernel)
theorem rows_small (n : Nat) : (rowsN n).length ≤ 32 ∧ ∀ a ∈ rowsN n, a.length ≤ 5 ∧ ∀ c ∈ a, c ∈ lets := by
  have h : ∀ m, m < 6 → (rowsN m).length ≤ 32 ∧ ∀ a ∈ rowsN m, a.length ≤ 5 ∧ ∀ c ∈ a, c ∈ lets := by decide +kernel
  by_cases hn : n < 6
  · exact h n hn
  · have e : rowsN n = rowsN 5 := by
      unfold rowsN
      rw [List.take_of_length_le (by show 5 ≤ n; omega), List.take_of_length_le (by decide)]
    rw [e]
    exact h 5 (by decide)
theorem rows_step {n c : Nat} (h : lets[n]? = some c) : rowsN (n + 1) = rowStep (rowsN n) c := by
  unfold rowsN
  rw [List.take_add_one, h, List.foldl_append]
  rfl
theorem every_ok : ∀ a ∈ everyT, a.length ≤ 5 ∧ ∀ c ∈ a, c ∈ lets := by decide +kernel
theorem every_mem (R : RS) : R ∈ everyR := by
  obtain ⟨a, c, i, u, z⟩ := R
  cases a <;> cases c <;> cases i <;> cases u <;> cases z <;> decide +kernel
theorem every_nodup : everyR.Nodup := by decide +kernel
theorem every_len : everyR.length = 32 := by decide +kernel
theorem every_txt : everyR.map RS.txt = everyT := by decide +kernel
abbrev LamQ : Str := (("Rules.every" : Str) ++ ".<locals>.") ++ "<lambda>"
def TT (K : PySem.W.Frag) : List (Addr × Str) := [(evT K, LamQ)]
section
variable {P : Program} {w : World} {K : PySem.W.Frag} {mg : Str → Option Value} {base : Heap} {name qual : Str} {st : Stmt} {f : Addr} {N ps : List Str} {k : Nat} {pm : Pm}
/-- a def whose code object is told -/
theorem ok_ofC {c : Addr} {kws : List (Str × V)} (F : ∃ fd, FunD K name qual (defArgs st) (defBody st) (defScope st) [] kws f fd) (S : FnScope N ps (defScope st)) (b : PBind name qual st ps) (len : ∀ vs H Q, pm vs H Q → vs.length = ps.length)
    (hc : ∀ oc od fd osl c', K.lookup f = some ⟨oc, od, .func fd, osl⟩ → fd.code = .ref c' → c' = c)
    (hbody : ∀ (A : Around) (outer : List Env) (s : Shared) (H : Hp) (vs : List V) (Q : VK) (E : XK), Room k (A.deeper (envOfC qual (defScope st) s.heap.objs.size f (.ref c))) → pm vs H Q →
      ∃ t, PSs (cxOf L2.CX0 P w K mg base N qual (defScope st) f (.ref c) A outer s H E).nox (defBody st) t ∧ t { nx := fun _ H' => Q .non H', rt := Q } (start N vs) H) : Ok P w K mg base (k + 1) f pm := by
  obtain ⟨fd, F⟩ := F
  have hb := F.bindsN (ps := ps) b
  obtain ⟨oc, od, dV, kV, doc, pm', an, cdv, ct, osl, rfl, lk, hcd, hx1, hx2⟩ := F.ex
  obtain ⟨c', rfl⟩ := He.codeIn_ref hcd
  obtain rfl := hc _ _ _ _ c' lk rfl
  have G : FnOk P w K mg base L2.CX0 (k + 1) f _ ps (fun vs H Q _ => pm vs H Q) := fn_of lk hcd S (fun vs H Q E h => len vs H Q h) fun A outer s H vs Q E hr h => by
    obtain ⟨t, ht, q⟩ := hbody A outer s H vs Q E hr h
    exact ⟨t, ht.nox, q⟩
  have G2 := G.raw hb .nil
  exact FnR.imp G2 fun vs H Q E h => by rw [List.append_nil]; exact h
theorem evC_eq {oc : Value} {od : Option Addr} {fd : FuncData} {osl : Array (Option Value)} {c' : Addr} (lk : K.lookup (a_Rules_every K) = some ⟨oc, od, .func fd, osl⟩) (e : fd.code = .ref c') : c' = evC K := by
  unfold evC
  have lk' : K.lookup (He5.wf K (He.ga K "Rules") "classmethod" "every") = some ⟨oc, od, .func fd, osl⟩ := lk
  rw [lk']
  show c' = match fd.code with | .ref c => c | _ => 0
  rw [e]
/-- Rules(text) -/
theorem made_rules {H : Hp} {l : List Nat} (hl : ∀ c ∈ l, c ∈ lets) (hn : l.length ≤ 4096) {R : V → Hp → Prop} (q : ∀ z H', Same H H' → H z = none → RulesAt K H' z (rsOf l) → R (.ref z) H') {z dz : Addr} (nz : H z = none) (nd : H dz = none) (ne : dz ≠ z) {x : Str} (hx : x = S l) :
    pm_rinit K [.ref z, .str x] (upd (upd H dz (.own z)) z (.ins (cRules K) dz [])) fun v H2 => v = .non ∧ R (.ref z) H2 :=
  ⟨z, dz, l, by rw [hx], upd_same, hl, hn, fun H1 s1 w1 => ⟨rfl, q z H1 (fun b u e => s1 b u (by rw [upd_ne (ne_of_none e nz), upd_ne (ne_of_none e nd)]; exact e) (by simp; exact ne_of_none e nz)) nz w1⟩⟩
def pm_every (K : PySem.W.Frag) : Pm := fun vs H Q => vs = [.ref (cRules K)] ∧ Tabs (TT K) H ∧ ∀ H' p qs, Ex H H' → Tabs (TT K) H' → Nu H p → H' p = some (.lst (qs.map V.ref)) → RulesL K H' qs everyR → Q (.ref p) H'
theorem ok_every (T : Txt K mg) (TB : TabB base mg (evC K) (evT K)) : Ok P w K mg base 3 (a_Rules_every K) (pm_every K) := by
  refine ok_ofC (c := evC K) (F_Rules_every T) cRules_every b_Rules_every (fun vs H Q h => ?_) (fun oc od fd osl c' lk e => evC_eq lk e) (fun A outer s H vs Q E hr h => ?_)
  · obtain ⟨rfl, _⟩ := h
    rfl
  obtain ⟨rfl, hT, q⟩ := h
  refine ⟨_, pss_cons (ps_set (i := 1) cRules_every.nd rfl (.inl rfl) (pe_lst (pa_cons pe_str pa_nil)))
    (pss_cons (ps_for PassesOwn.never rfl (pi_str (C8.pe_gc (by rfl) (g_LETTERS_rules T))) (pg_name (i := 2) cRules_every.nd rfl (.inr rfl))
      (pss_one (ps_set (i := 1) cRules_every.nd rfl (.inl rfl) (pe_op op_cat (pv 1) (pe_lc (own := [("row", 3)]) (g := gName 3) (tt := tYes) rfl cRules_every.nd (pi_list (pv 1))
        (blkOk_by (N := nRules_every) (sc := defScope sRules_every) (by decide +kernel)) (fun _ _ _ _ _ => pg_name (i := 3) cRules_every.nd rfl (Or.inl rfl)) (fun _ _ _ _ _ => pts_nil) (fun _ _ _ _ _ => pe_op op_add_str (pv 3) (pv 2)))))))
    (pss_one (ps_ret (pe_lc (own := [("row", 3)]) (g := gName 3) (tt := tYes) rfl cRules_every.nd (pi_list (pe_sortedLK (T := TT K) (pv 1) ⟨⟨_, _, _, _, _, _, rfl⟩, rfl, rfl, rfl, by decide, by decide, rfl, rfl, fun _ _ _ _ _ v => rfl, by decide⟩ TB rfl (.head _) (fun p hp _ => by
          rw [List.mem_singleton.mp hp]
          rfl) hr rfl (z_sorted T) (z_len T) rfl))
        (blkOk_by (N := nRules_every) (sc := defScope sRules_every) (by decide +kernel)) (fun _ _ _ _ _ => pg_name (i := 3) cRules_every.nd rfl (Or.inl rfl)) (fun _ _ _ _ _ => pts_nil) (fun _ _ _ _ _ => e_make (mk_Rules T) (ok_rinit T) hr (by decide) (g_Rules T) (pa_cons (pv 3) pa_nil)))))), ?_⟩
  refine ⟨(by show 1 ≤ sizeLine; decide), fun l0 n0 => ?_⟩
  refine ⟨_, rfl, ?_⟩
  have e5 : ("ACIUZ" : Str) = S lets := by decide +kernel
  rw [e5]
  refine for_it (walk_signs lets) (fun i σ H' => Same H H' ∧ ∃ l v v2, σ = [some (.ref (cRules K)), some (.ref l), v, v2] ∧ H' l = some (.lst (txts (rowsN i)))) ⟨same_upd n0, l0, _, _, rfl, upd_same⟩ (fun _ _ _ _ _ => trivial) ?_ ?_
  · rintro i x σ H1 H2 hi ⟨s1, l, v, v2, rfl, hl⟩ ⟨rfl, hx⟩
    obtain ⟨c, hc, rfl⟩ := map_at' hx
    have hz := rows_small i
    have tl : (txts (rowsN i)).length = (rowsN i).length := by simp [txts]
    refine ⟨_, rfl, _, rfl, l, rfl, ⟨_, SqL.of hl⟩, fun D hD => ?_⟩
    refine lc_pure (walk_list (K := K) (a := l) (xs := txts (rowsN i))) ((rowsN i).map fun a => some (.str (S (a ++ [c])))) (by simp [txts]) (by rw [tl]; have := hz.1; omega) hD (fun H3 s3 => SqL.of (s3 _ _ hl)) ?_ ?_
    · intro j x o H3 R R0 hx2 ho s3 kR k0
      obtain ⟨a, e1, rfl⟩ := map_at' hx2
      obtain ⟨a', e2, rfl⟩ := map_at' ho
      rw [e1] at e2
      cases e2
      have ha := hz.2 a (List.mem_of_getElem? e1)
      refine ⟨rfl, yes1 ?_⟩
      refine ⟨_, rfl, _, rfl, _, _, rfl, rfl, by rw [S_len, S_len]; exact small_len (by have := ha.1; simp; omega), ?_⟩
      rw [S_cat]
      exact kR _ _ rfl (Same.refl _)
    · intro H3 s3 h3
      rw [some_map'] at h3
      refine ⟨l, D, _, _, rfl, rfl, s3 _ _ hl, h3, small_len (by rw [tl]; simp; have := hz.1; omega), fun p np => ?_⟩
      refine ⟨fun b u e => (same_upd np) b u (s3 b u (s1 b u e)) , p, _, _, rfl, ?_⟩
      rw [upd_same, rows_step hc]
      congr 2
      simp [rowStep, txts]
  · rintro σ H1 ⟨s1, l, v, v2, rfl, hl⟩
    refine ⟨_, rfl, l, rowsN 5, rfl, hl, fun a ha => Nat.le_trans ((rows_small 5).2 a ha).1 (by decide), hT.ext s1, fun H2 p eN T2 np => ?_⟩
    rw [every_sorted]
    refine ⟨p, rfl, ⟨_, SqL.of upd_same⟩, fun D hD => ?_⟩
    have nD : Nu (upd H2 p (.lst (txts everyT))) D := .of hD
    have x0 : Ex H (upd H2 p (.lst (txts everyT))) := (LamX.ExtN.of s1).trans (eN.trans (.of (same_upd np)))
    refine lc_rel (RR := fun H v R => ∃ z, v = .ref z ∧ RulesAt K H z R) (walk_list (K := K) (a := p) (xs := txts everyT)) everyR (by decide +kernel) (by decide +kernel) hD (fun H3 s3 => SqL.of (s3 _ _ upd_same)) (fun H H' v R g ⟨z, e, r⟩ => ⟨z, e, r.gr g⟩) ?_ ?_
    · intro j x R H3 Q3 R0 hx hb s3 kR
      obtain ⟨a, e1, rfl⟩ := map_at' hx
      obtain ⟨a', e2, rfl⟩ := map_at' hb
      rw [e1] at e2
      cases e2
      have ha := every_ok a (List.mem_of_getElem? e1)
      refine ⟨rfl, yes1 ?_⟩
      refine ⟨_, rfl, fun z dz nz nd ne => ?_⟩
      exact made_rules ha.2 (by have := ha.1; omega) (fun z H' s' _ w => kR _ _ s' ⟨z, rfl, w⟩) nz nd ne rfl
    · intro H3 ys s3 h3 e3
      obtain ⟨qs, rfl, e4⟩ := e3.refs
      exact q H3 D qs (x0.trans (.of s3)) ((T2.ext (same_upd np)).ext s3) (nD.back x0) h3 e4
end
end NL
set_option Elab.async false
set_option linter.all false
set_option maxRecDepth 100000
set_option maxHeartbeats 4000000
/-! Family. -/
namespace NL
open PySem PySem.Spec PyProof.Rows L2 SX LamX
/-! ### zipped -/
theorem Each.zs {α : Type} {R : Addr → α → Prop} {qs : List Addr} {xs : List α} (h : Each R qs xs) : ∃ zs : List (Addr × α), qs = zs.map (·.1) ∧ xs = zs.map (·.2) ∧ ∀ z ∈ zs, R z.1 z.2 := by
  refine ⟨qs.zip xs, ?_, ?_, ?_⟩
  · exact (List.map_fst_zip (Nat.le_of_eq h.1)).symm
  · exact (List.map_snd_zip (Nat.le_of_eq h.1.symm)).symm
  · rintro ⟨a, b⟩ hz
    obtain ⟨i, hi⟩ := List.getElem?_of_mem hz
    obtain ⟨h1, h2⟩ := List.getElem?_zip_eq_some.mp hi
    exact h.2 i a b h1 h2
theorem Each.of_zs {α : Type} {R : Addr → α → Prop} {zs : List (Addr × α)} (h : ∀ z ∈ zs, R z.1 z.2) : Each R (zs.map (·.1)) (zs.map (·.2)) := by
  refine ⟨by simp, fun i q x a b => ?_⟩
  obtain ⟨z, e1, rfl⟩ := map_at' a
  obtain ⟨z', e2, rfl⟩ := map_at' b
  rw [e1] at e2
  cases e2
  exact h z (List.mem_of_getElem? e1)
theorem map_filter2 {α β : Type} (g : α → β) (p : β → Bool) (l : List α) : (l.filter fun z => p (g z)).map g = (l.map g).filter p := by
  induction l with
  | nil => rfl
  | cons a l ih =>
    cases h : p (g a) <;> simp [h, ih]
/-- everything but what stands at ds and tables is kept -/
def Sn (ds : List Addr) (H H' : Hp) : Prop := ∀ b o, H b = some o → b ∉ ds → (∀ ps, o ≠ .tbl ps) → H' b = some o
theorem Sn.of {ds : List Addr} {H H' : Hp} (h : Ex H H') : Sn ds H H' := fun b o e _ m => h b o e m
theorem Sn.sx {ds : List Addr} {H H' : Hp} (h : Sx ds H H') : Sn ds H H' := fun b o e n _ => h b o e n
theorem Sn.trans {ds : List Addr} {H H1 H2 : Hp} (a : Sn ds H H1) (b : Sn ds H1 H2) : Sn ds H H2 := fun c o h n m => b c o (a c o h n m) n m
/-- the sets that contain one of these -/
def ups (Rs : List RS) : List RS := everyR.filter fun R => Rs.any fun S => S.le R
theorem ups_len (Rs : List RS) : (ups Rs).length ≤ 32 := Nat.le_trans (List.length_filter_le _ _) (Nat.le_of_eq every_len)
section
variable {P : Program} {w : World} {K : PySem.W.Frag} {mg : Str → Option Value} {base : Heap}
theorem ins_Family (T : Txt K mg) : C8.InsC K (cFamily K) := T.insC (cl_Family T) (T.ex 1 (b := insB K "Family") rfl)
/-- Rules' own == over lists of them -/
theorem op_eqRules {X : Cx} {k : Nat} (T : Txt X.K X.mg) (hr : Room k X.A) (hk : 2 ≤ k) : OpR X (compareOp .Eq) (rEqG (DList (DIns (cRules X.K) fun a b H => ∃ S, RulesAt X.K H a S ∧ RulesAt X.K H b S))) := by
  obtain ⟨fd, F, G⟩ := fn_req (P := X.prog) (w := X.w) (base := X.base) T
  have m := m_Rules_eq T
  refine op_eqG (rcG_list (n := 1) (mon_ins fun a b H H' e ⟨S, r1, r2⟩ => ⟨S, r1.gr (.of e), r2.gr (.of e)⟩) (eqG_ins (E := E0) (G.imp fun vs H Q E h => ?_) m.at_ m.fn (F.bindsN b_Rules_eq) pass0)) (hr.mono hk)
  obtain ⟨a, b, rfl, ⟨S, r1, r2⟩, q⟩ := h
  exact ⟨a, b, S, S, rfl, r1, r2, by rw [decide_eq_true rfl]; exact q H fun _ _ e => e⟩
theorem prs_rules {H : Hp} {qs qs' : List Addr} {Rs : List RS} (h1 : RulesL K H qs Rs) (h2 : RulesL K H qs' Rs) : Prs (DIns (cRules K) fun a b H => ∃ S, RulesAt K H a S ∧ RulesAt K H b S) (qs.map V.ref) (qs'.map V.ref) H := by
  refine ⟨by simp [h1.1, h2.1], fun i x y hx hy => ?_⟩
  obtain ⟨q, e1, rfl⟩ := map_at' hx
  obtain ⟨q', e2, rfl⟩ := map_at' hy
  have hi : i < Rs.length := by rw [← h1.1]; exact (List.getElem?_eq_some_iff.mp e1).1
  have r1 := h1.2 i q Rs[i] e1 (List.getElem?_eq_getElem hi)
  have r2 := h2.2 i q' Rs[i] e2 (List.getElem?_eq_getElem hi)
  obtain ⟨d1, o1⟩ := id r1
  obtain ⟨d2, o2⟩ := id r2
  exact ⟨q, q', d1, d2, _, _, rfl, rfl, o1, o2, Rs[i], r1, r2⟩
def pm_feq (K : PySem.W.Frag) : Pm := fun vs H Q => ∃ p p' m m' Rs, vs = [.ref p, .ref p'] ∧ FamAt K H p m Rs ∧ FamAt K H p' m' Rs ∧ ∀ H', Same H H' → Q (.bl true) H'
theorem ok_feq (T : Txt K mg) : Ok P w K mg base 3 (a_Family_eq K) (pm_feq K) := by
  refine ok_of (F_Family_eq T) cFamily_eq b_Family_eq (fun vs H Q h => ?_) (fun cdv A outer s H vs Q E hr h => ?_)
  · obtain ⟨p, p', m, m', Rs, rfl, _⟩ := h
    rfl
  obtain ⟨p, p', m, m', Rs, rfl, ⟨d1, qs, o1, l1, r1⟩, ⟨d2, qs', o2, l2, r2⟩, k⟩ := h
  refine ⟨_, pss_one (ps_ret (pe_and (pe_callB (C8.call_isC (ins_Family T)) (by rfl) (z_isinstance T) (by decide +kernel) (pa_cons (pv 1) (pa_cons (pe_glob (v := .ref (cFamily K)) rfl (g_Family T) rfl) pa_nil)))
    (pe_one (pe_cmpR (op_eqRules T hr (Nat.le_refl _)) (pe_fld (pv 0) rfl) (pe_fld (pv 1) rfl) (nomark _))))), ?_⟩
  refine ⟨_, rfl, p', d2, _, rfl, o2, true, rfl, iteT ?_⟩
  refine ⟨_, rfl, p, _, d1, _, _, rfl, o1, cl_Family T, no_Family_members T, ff_members, _, rfl, p', _, d2, _, _, rfl, o2, cl_Family T, no_Family_members T, ff_members, ?_⟩
  exact ⟨⟨m, m', _, _, rfl, rfl, l1, l2, prs_rules r1 r2⟩, fun H' e => k H' e⟩
def pm_fsets (K : PySem.W.Frag) : Pm := fun vs H Q => ∃ p m Rs, vs = [.ref p] ∧ FamAt K H p m Rs ∧ ∀ H' l qs, Same H H' → H l = none → H' l = some (.lst (qs.map V.ref)) → RulesL K H' qs Rs → Q (.ref l) H'
theorem ok_fsets (T : Txt K mg) : Ok P w K mg base 1 (a_Family_sets K) (pm_fsets K) := by
  refine ok_of (F_Family_sets T) cFamily_sets b_Family_sets (fun vs H Q h => ?_) (fun cdv A outer s H vs Q E hr h => ?_)
  · obtain ⟨p, m, Rs, rfl, _⟩ := h
    rfl
  obtain ⟨p, m, Rs, rfl, ⟨d1, qs, o1, l1, r1⟩, k⟩ := h
  refine ⟨_, pss_one (ps_ret (pe_callTy call_list_of (by rfl) (z_list T) (by decide +kernel) (pa_cons (pe_fld (pv 0) rfl) pa_nil))), ?_⟩
  refine ⟨_, rfl, p, _, d1, _, _, rfl, o1, cl_Family T, no_Family_members T, ff_members, ?_⟩
  exact ⟨m, _, rfl, .inl (SqL.of l1), fun l nl => k _ l qs (same_upd nl) nl upd_same (r1.gr (.of (same_upd nl)))⟩
def pm_fcontains (K : PySem.W.Frag) : Pm := fun vs H Q => ∃ p m Rs q R, vs = [.ref p, .ref q] ∧ FamAt K H p m Rs ∧ Rs.length ≤ 32 ∧ RulesAt K H q R ∧ ∀ H', Same H H' → Q (.bl (decide (R ∈ Rs))) H'
theorem ok_fcontains (T : Txt K mg) : Ok P w K mg base 3 (a_Family_contains K) (pm_fcontains K) := by
  have G : Ok P w K mg base 1 (a_Rules_eq K) (pm_req K) := ok_req T
  refine ok_of (F_Family_contains T) cFamily_contains b_Family_contains (fun vs H Q h => ?_) (fun cdv A outer s H vs Q E hr h => ?_)
  · obtain ⟨p, m, Rs, q, R, rfl, _⟩ := h
    rfl
  obtain ⟨p, m, Rs, q, R, rfl, ⟨d1, qs, o1, l1, r1⟩, hn, rq, k⟩ := h
  obtain ⟨zs, rfl, rfl, hz⟩ := r1.zs
  refine ⟨_, pss_one (ps_ret (pe_callB (cr_any rfl) (by rfl) (z_any T) (by decide +kernel) (pa_cons (pe_lc (own := [("member", 2)]) (g := gName 2) (tt := tYes) rfl cFamily_contains.nd (pi_list (pe_fld (pv 0) rfl))
    (blkOk_by (N := nFamily_contains) (sc := defScope sFamily_contains) (by decide +kernel)) (fun _ _ _ _ _ => pg_name (i := 2) cFamily_contains.nd rfl (Or.inl rfl)) (fun _ _ _ _ _ => pts_nil) (fun _ _ _ _ _ => pe_cmpR (o_eq G (m_Rules_eq T) hr (by decide)) (pv 2) (pv 1) (nomark _))) pa_nil))), ?_⟩
  refine ⟨_, rfl, p, _, d1, _, _, rfl, o1, cl_Family T, no_Family_members T, ff_members, m, rfl, ⟨_, SqL.of l1⟩, fun D hD => ?_⟩
  have hn' : zs.length ≤ 32 := by simpa using hn
  refine lc_pure (walk_list (K := K) (a := m) (xs := (zs.map (·.1)).map V.ref)) (zs.map fun z => some (.bl (decide (z.2 = R)))) (by simp) (by simp; omega) hD (fun H2 s2 => SqL.of (s2 _ _ l1)) ?_ ?_
  · intro i x o H2 R1 R0 hx ho s2 kR k0
    rw [List.map_map] at hx
    obtain ⟨z, e1, rfl⟩ := map_at' hx
    obtain ⟨z', e2, rfl⟩ := map_at' ho
    rw [e1] at e2
    cases e2
    have rz := (hz z (List.mem_of_getElem? e1)).gr (.of s2)
    have rq2 := rq.gr (.of s2)
    refine ⟨rfl, yes1 ?_⟩
    exact ⟨_, rfl, _, rfl, z.1, q, rfl, rfl, rz.is, rq2.is, z.1, q, z.2, R, rfl, rz, rq2, kR _ _ rfl (Same.refl _)⟩
  · intro H2 s2 h2
    rw [some_map'] at h2
    refine ⟨D, zs.map fun z => decide (z.2 = R), rfl, SqL.of ?_, ?_⟩
    · rw [h2, List.map_map]
      rfl
    have e : (zs.map fun z => decide (z.2 = R)).any id = decide (R ∈ zs.map (·.2)) := by
      rw [Bool.eq_iff_iff]
      simp only [List.any_map, List.any_eq_true, Function.comp_apply, id, decide_eq_true_eq, List.mem_map]
    rw [e]
    exact k _ s2
/-- whether a set contains another one of these -/
def overs (Rs : List RS) (R : RS) : Bool := Rs.any fun S => S.le R && !decide (S = R)
def pm_fabove (K : PySem.W.Frag) : Pm := fun vs H Q => ∃ p m Rs q R, vs = [.ref p, .ref q] ∧ FamAt K H p m Rs ∧ Rs.length ≤ 32 ∧ RulesAt K H q R ∧ ∀ H', Same H H' → Q (.bl (overs Rs R)) H'
theorem rf_within {v : V} : ([("letters", v)] : List (Str × V)).lookup ("within" : Str) = none := by kernel_rfl
theorem ok_fabove (T : Txt K mg) : Ok P w K mg base 3 (a_Family_above_another K) (pm_fabove K) := by
  have G : Ok P w K mg base 1 (a_Rules_eq K) (pm_req K) := ok_req T
  have G2 : Ok P w K mg base 1 (a_Rules_within K) (pm_within K) := ok_within T
  refine ok_of (F_Family_above_another T) cFamily_above_another b_Family_above_another (fun vs H Q h => ?_) (fun cdv A outer s H vs Q E hr h => ?_)
  · obtain ⟨p, m, Rs, q, R, rfl, _⟩ := h
    rfl
  obtain ⟨p, m, Rs, q, R, rfl, ⟨d1, qs, o1, l1, r1⟩, hn, rq, k⟩ := h
  obtain ⟨zs, rfl, rfl, hz⟩ := r1.zs
  refine ⟨_, pss_one (ps_ret (pe_callB (cr_any rfl) (by rfl) (z_any T) (by decide +kernel) (pa_cons (pe_lc (own := [("member", 2)]) (g := gName 2) (tt := tYes) rfl cFamily_above_another.nd (pi_list (pe_fld (pv 0) rfl))
    (blkOk_by (N := nFamily_above_another) (sc := defScope sFamily_above_another) (by decide +kernel)) (fun _ _ _ _ _ => pg_name (i := 2) cFamily_above_another.nd rfl (Or.inl rfl)) (fun _ _ _ _ _ => pts_nil)
    (fun _ _ _ _ _ => pe_and (e_meth (pv 2) (cl_Rules T) (m_Rules_within T) G2 hr (by decide) (pa_cons (pv 1) pa_nil)) (pe_one (pe_not (pe_cmpR (o_eq G (m_Rules_eq T) hr (by decide)) (pv 2) (pv 1) (nomark _)))))) pa_nil))), ?_⟩
  refine ⟨_, rfl, p, _, d1, _, _, rfl, o1, cl_Family T, no_Family_members T, ff_members, m, rfl, ⟨_, SqL.of l1⟩, fun D hD => ?_⟩
  have hn' : zs.length ≤ 32 := by simpa using hn
  refine lc_pure (walk_list (K := K) (a := m) (xs := (zs.map (·.1)).map V.ref)) (zs.map fun z => some (.bl (z.2.le R && !decide (z.2 = R)))) (by simp) (by simp; omega) hD (fun H2 s2 => SqL.of (s2 _ _ l1)) ?_ ?_
  · intro i x o H2 R1 R0 hx ho s2 kR k0
    rw [List.map_map] at hx
    obtain ⟨z, e1, rfl⟩ := map_at' hx
    obtain ⟨z', e2, rfl⟩ := map_at' ho
    rw [e1] at e2
    cases e2
    have rz := (hz z (List.mem_of_getElem? e1)).gr (.of s2)
    have rq2 := rq.gr (.of s2)
    obtain ⟨dz, oz⟩ := id rz
    refine ⟨rfl, yes1 ?_⟩
    refine ⟨_, rfl, z.1, dz, _, rfl, oz, rf_within, _, rfl, z.1, q, z.2, R, rfl, rz, rq2, fun H3 s3 => ⟨_, rfl, ?_⟩⟩
    cases hb : z.2.le R with
    | false => exact iteF (kR _ _ (by rw [hb]; rfl) s3)
    | true =>
      have rz3 := rz.gr (.of s3)
      have rq3 := rq2.gr (.of s3)
      exact iteT ⟨_, rfl, _, rfl, z.1, q, rfl, rfl, rz3.is, rq3.is, z.1, q, z.2, R, rfl, rz3, rq3, _, rfl, kR _ _ (by rw [hb]; rfl) s3⟩
  · intro H2 s2 h2
    rw [some_map'] at h2
    refine ⟨D, zs.map fun z => (z.2.le R && !decide (z.2 = R)), rfl, SqL.of ?_, ?_⟩
    · rw [h2, List.map_map]
      rfl
    have e : (zs.map fun z => (z.2.le R && !decide (z.2 = R))).any id = overs (zs.map (·.2)) R := by
      unfold overs
      rw [List.any_map, List.any_map]
      rfl
    rw [e]
    exact k _ s2
theorem ff_above {v : V} : ([("members", v)] : List (Str × V)).lookup ("above_another" : Str) = none := by kernel_rfl
theorem ff_sets {v : V} : ([("members", v)] : List (Str × V)).lookup ("sets" : Str) = none := by kernel_rfl
theorem ff_least {v : V} : ([("members", v)] : List (Str × V)).lookup ("least" : Str) = none := by kernel_rfl
/-- the sets that contain no other one of these -/
def leasts (Rs : List RS) : List RS := Rs.filter fun R => !overs Rs R
def pm_fleast (K : PySem.W.Frag) : Pm := fun vs H Q => ∃ p m Rs, vs = [.ref p] ∧ FamAt K H p m Rs ∧ Rs.length ≤ 32 ∧ ∀ H' l qs, Same H H' → H l = none → H' l = some (.lst (qs.map V.ref)) → RulesL K H' qs (leasts Rs) → Q (.ref l) H'
theorem ok_fleast (T : Txt K mg) : Ok P w K mg base 4 (a_Family_least K) (pm_fleast K) := by
  have G : Ok P w K mg base 3 (a_Family_above_another K) (pm_fabove K) := ok_fabove T
  refine ok_of (F_Family_least T) cFamily_least b_Family_least (fun vs H Q h => ?_) (fun cdv A outer s H vs Q E hr h => ?_)
  · obtain ⟨p, m, Rs, rfl, _⟩ := h
    rfl
  obtain ⟨p, m, Rs, rfl, hF, hn, k⟩ := h
  obtain ⟨d1, qs, o1, l1, r1⟩ := id hF
  obtain ⟨zs, rfl, rfl, hz⟩ := r1.zs
  refine ⟨_, pss_one (ps_ret (pe_lc (own := [("rules", 1)]) (g := gName 1) rfl cFamily_least.nd (pi_list (pe_fld (pv 0) rfl))
    (blkOk_by (N := nFamily_least) (sc := defScope sFamily_least) (by decide +kernel)) (fun _ _ _ _ _ => pg_name (i := 1) cFamily_least.nd rfl (Or.inl rfl))
    (fun _ _ _ _ _ => pts_one (pt_not (pt_val (e_meth (pv 0) (cl_Family T) (m_Family_above_another T) G hr (by decide) (pa_cons (pv 1) pa_nil))))) (fun _ _ _ _ _ => pv 1))), ?_⟩
  refine ⟨_, rfl, p, _, d1, _, _, rfl, o1, cl_Family T, no_Family_members T, ff_members, m, rfl, ⟨_, SqL.of l1⟩, fun D hD => ?_⟩
  have hn' : zs.length ≤ 32 := by simpa using hn
  refine lc_pure (walk_list (K := K) (a := m) (xs := (zs.map (·.1)).map V.ref)) (zs.map fun z => if (!overs (zs.map (·.2)) z.2) = true then some (.ref z.1) else none) (by simp) (by simp; omega) hD (fun H2 s2 => SqL.of (s2 _ _ l1)) ?_ ?_
  · intro i x o H2 R1 R0 hx ho s2 kR k0
    rw [List.map_map] at hx
    obtain ⟨z, e1, rfl⟩ := map_at' hx
    obtain ⟨z', e2, rfl⟩ := map_at' ho
    rw [e1] at e2
    cases e2
    have rz := (hz z (List.mem_of_getElem? e1)).gr (.of s2)
    refine ⟨rfl, ?_⟩
    refine ⟨_, rfl, p, d1, _, rfl, s2 _ _ o1, ff_above, _, rfl, p, m, _, z.1, z.2, rfl, hF.same s2, hn, rz, fun H3 s3 => ⟨_, rfl, ?_⟩⟩
    cases hb : overs (zs.map (·.2)) z.2 with
    | false => exact iteT ⟨_, rfl, kR _ _ (by rw [hb]; rfl) s3⟩
    | true => exact iteF (k0 _ (by rw [hb]; rfl) s3)
  · intro H2 s2 h2
    rw [filt_map (fun z : Addr × RS => !overs (zs.map (·.2)) z.2)] at h2
    refine k H2 D ((zs.filter fun z => !overs (zs.map (·.2)) z.2).map (·.1)) s2 hD (by rw [h2, List.map_map]; rfl) ?_
    have e : leasts (zs.map (·.2)) = (zs.filter fun z => !overs (zs.map (·.2)) z.2).map (·.2) := (map_filter2 (fun z : Addr × RS => z.2) (fun R => !overs (zs.map fun x : Addr × RS => x.2) R) zs).symm
    rw [e]
    exact Each.of_zs fun z h => (hz z (List.mem_filter.mp h).1).gr (.of s2)
end
end NL
set_option Elab.async false
set_option linter.all false
set_option maxRecDepth 100000
set_option maxHeartbeats 4000000
/-! Family.__init__; alike's and Family's binding. -/
namespace NL
open PySem PySem.Spec PyProof.Rows L2 SX LamX
/-! with K named, for a block's code -/
theorem c_any {X : Cx} {K : PySem.W.Frag} (hc : X.calm = true) (hK : X.K = K := by rfl) : CallR X (.builtin "any") (rAny K) := hK ▸ cr_any hc
theorem c_all {X : Cx} {K : PySem.W.Frag} (hc : X.calm = true) (hK : X.K = K := by rfl) : CallR X (.builtin "all") (rAll K) := hK ▸ cr_all hc
theorem i_tup {X : Cx} {K : PySem.W.Frag} {tg l : Expr} {tl : TE} (hl : PE X l tl) (hK : X.K = K := by rfl) : PI X tg l (iTup K tl) := hK ▸ pi_tup hl
theorem i_list {X : Cx} {K : PySem.W.Frag} {tg l : Expr} {tl : TE} (hl : PE X l tl) (hK : X.K = K := by rfl) : PI X tg l (iList K tl) := hK ▸ pi_list hl
/-- what stands at ds may change where it is no table and no code object -/
def Plain1 (H : Hp) (d : Addr) : Prop := ∃ u, H d = some u ∧ (∀ ps, u ≠ .tbl ps) ∧ ∀ φ, u ≠ .ext φ
theorem Tabs.sx {T : List (Addr × Str)} {H H' : Hp} {ds : List Addr} (t : Tabs T H) (x : Sx ds H H') (h : ∀ d ∈ ds, Plain1 H d) : Tabs T H' := by
  intro p hp
  obtain ⟨ps, h1, h2, h3⟩ := t p hp
  refine ⟨ps, x _ _ h1 fun z => ?_, h2, fun pos cv hc => ?_⟩
  · obtain ⟨u, e, n, _⟩ := h _ z
    rw [h1] at e
    exact n ps (Option.some.inj e).symm
  · obtain ⟨c, e1, e2⟩ := h3 pos cv hc
    refine ⟨c, e1, x _ _ e2 fun z => ?_⟩
    obtain ⟨u, e, _, n⟩ := h _ z
    rw [e2] at e
    exact n _ (Option.some.inj e).symm
theorem Plain1.lst {H : Hp} {d : Addr} {xs : List V} (h : H d = some (.lst xs)) : Plain1 H d := ⟨_, h, (fun ps z => nomatch z), (fun φ z => nomatch z)⟩
theorem Plain1.ins {H : Hp} {d C dx : Addr} {fs : List (Str × V)} (h : H d = some (.ins C dx fs)) : Plain1 H d := ⟨_, h, (fun ps z => nomatch z), (fun φ z => nomatch z)⟩
theorem RulesAt.ne {K : PySem.W.Frag} {H : Hp} {q p C dx : Addr} {R : RS} (h : RulesAt K H q R) (e : H p = some (.ins C dx [])) : q ≠ p := by
  obtain ⟨d, o⟩ := h
  intro z
  rw [z, e] at o
  injection o with o
  injection o with _ _ o
  cases o
theorem RulesAt.upd {K : PySem.W.Frag} {H : Hp} {q p : Addr} {u : HO} {R : RS} (h : RulesAt K H q R) (n : q ≠ p) : RulesAt K (upd H p u) q R := by
  obtain ⟨d, o⟩ := h
  exact ⟨d, by rw [upd_ne n]; exact o⟩
theorem cxUp0 : StX.CXUp CX0 := fun _ _ _ _ _ _ _ _ _ _ _ z => z.elim
section
variable {P : Program} {w : World} {K : PySem.W.Frag} {mg : Str → Option Value} {base : Heap} {name qual : Str} {st : Stmt} {f : Addr} {N ps : List Str} {k : Nat} {pm : Pm}
/-- a def with parameters ps and *pv -/
theorem ok_star {pv : Str} {kws : List (Str × V)} (F : ∃ fd, FunD K name qual (defArgs st) (defBody st) (defScope st) [] kws f fd) (S : FnScope N (ps ++ [pv]) (defScope st))
    (b : ∀ (kV doc pm : Value) (an : Option Addr) (cdv ct : Value) (us rest : List Value), us.length = ps.length →
      bindArgs (PySem.W.fnOf name qual (defArgs st) (defBody st) (defScope st) .none kV doc pm an cdv ct) ⟨us ++ rest, []⟩ = (newTuple rest >>= fun t => pure (ps.zip us ++ [(pv, t)])))
    (hbody : Bod P w K mg base N qual st f k pm) :
    Ok P w K mg base (k + 1) f (fun vs H Q => ∃ ws rest, vs = ws ++ rest ∧ ws.length = ps.length ∧ rest.length ≤ sizeLine ∧ ∀ p, H p = none → pm (ws ++ [V.ref p]) (upd H p (.tup rest)) Q) := by
  obtain ⟨fd, F⟩ := F
  obtain ⟨oc, od, dV, kV, doc, pm', an, cdv, ct, osl, rfl, lk, hcd, hD, hK⟩ := F.ex
  rcases hD with ⟨_, rfl⟩ | ⟨e, _⟩
  · exact FnR.imp (StX.fn_star (sp := fun vs H Q _ => pm vs H Q) lk hcd S cxUp0 (b kV doc pm' an cdv ct) fun A outer s H vs Q E hr h => by
      obtain ⟨t, ht, q⟩ := hbody cdv A outer s H vs Q E hr h
      exact ⟨t, ht.nox, q⟩) fun vs H Q E h => h
  · exact absurd rfl e
theorem rules_read (T : Txt K mg) : ClX.CRead K (cRules K) (.type "type") := by
  have h0 : PySem.W.readsIn K (cRules K) (.type "type") = true := T.ex 5 rfl
  refine ⟨h0, ?_⟩
  have h := h0
  unfold PySem.W.readsIn at h
  simp only [Bool.and_eq_true, beq_iff_eq] at h
  obtain ⟨⟨⟨⟨_, h2⟩, h3⟩, _⟩, _⟩ := h
  unfold PySem.W.specialIn
  rw [h2, Option.bind_some]
  exact h3
theorem rules_every (T : Txt K mg) : ClX.CMet K (cRules K) (.type "type") "every" (He.ma K (cRules K) "every") (a_Rules_every K) := He5.cmet_of (T.ex 6 rfl) (T.ex 7 rfl)
def pm_finit (K : PySem.W.Frag) : Pm := fun vs H Q => ∃ p dx t qs Rs, vs = [.ref p, .ref t] ∧ H p = some (.ins (cFamily K) dx []) ∧ H t = some (.tup (qs.map V.ref)) ∧ RulesL K H qs Rs ∧ Rs.length ≤ 4096 ∧ Tabs (TT K) H ∧
  ∀ H' m, Sn [p] H H' → Tabs (TT K) H' → Nu H m → FamAt K H' p m (ups Rs) → Q .non H'
theorem ok_finit0 (T : Txt K mg) (TB : TabB base mg (evC K) (evT K)) : Bod P w K mg base nFamily_init "Family.__init__" sFamily_init (a_Family_init K) 5 (pm_finit K) := by
  have G : Ok P w K mg base 3 (a_Rules_every K) (pm_every K) := ok_every T TB
  have G2 : Ok P w K mg base 1 (a_Rules_within K) (pm_within K) := ok_within T
  intro cdv A outer s H vs Q E hr h
  obtain ⟨p, dx, t, qs, Rs, rfl, hp, ht, hR, hn, hT, k⟩ := h
  obtain ⟨zs, rfl, rfl, hz⟩ := hR.zs
  refine ⟨_, pss_one (ps_fld (pv 0) (pe_lc (own := [("rules", 2)]) (g := gName 2) rfl cFamily_init.nd (pi_list (e_cmeth0 (pe_glob (v := .ref (cRules K)) rfl (g_Rules T) rfl) (rules_read T) (rules_every T) G hr (by decide)))
    (blkOk_by (N := nFamily_init) (sc := defScope sFamily_init) (by decide +kernel)) (fun _ _ _ _ _ => pg_name (i := 2) cFamily_init.nd rfl (Or.inr rfl))
    (fun _ _ _ _ _ => pts_one (pt_val (pe_callB (c_any (K := K) rfl) (by rfl) (z_any T) (by decide +kernel) (pa_cons (pe_lc (own := [("part", 3)]) (g := gName 3) (tt := tYes) rfl cFamily_init.nd (i_tup (K := K) (pv 1))
      (blkOk_by (N := nFamily_init) (by kernel_rfl)) (fun _ _ _ _ _ => pg_name (i := 3) cFamily_init.nd rfl (Or.inl rfl)) (fun _ _ _ _ _ => pts_nil) (fun _ _ _ _ _ => e_meth (pv 3) (cl_Rules T) (m_Rules_within T) G2 hr (by decide) (pa_cons (pv 2) pa_nil))) pa_nil)))) (fun _ _ _ _ _ => pv 2)) rfl), ?_⟩
  refine ⟨rfl, rfl, hT, fun H1 l0 rs x1 T1 n1 hl1 hR1 => ?_⟩
  have hp1 : H1 p = some (.ins (cFamily K) dx []) := x1 _ _ hp (fun ps z => nomatch z)
  have ht1 : H1 t = some (.tup ((zs.map (·.1)).map V.ref)) := x1 _ _ ht (fun ps z => nomatch z)
  have hz1 : ∀ z ∈ zs, RulesAt K H1 z.1 z.2 := fun z h => (hz z h).gr x1.gr
  obtain ⟨es, rfl, ee, he⟩ := hR1.zs
  have le : es.length = 32 := by
    have : (es.map (·.2)).length = everyR.length := by rw [ee]
    rw [every_len] at this
    simpa using this
  have lz : zs.length ≤ 4096 := by simpa using hn
  refine ⟨l0, rfl, ⟨_, SqL.of hl1⟩, fun D hD => ?_⟩
  refine lc_pure (walk_list (K := K) (a := l0) (xs := (es.map (·.1)).map V.ref)) (es.map fun e => if ((zs.map (·.2)).any fun S => S.le e.2) = true then some (.ref e.1) else none) (by simp) (by simp; omega) hD (fun H2 s2 => SqL.of (s2 _ _ hl1)) ?_ ?_
  · intro i x o H2 R1 R0 hx ho s2 kR k0
    rw [List.map_map] at hx
    obtain ⟨e, e1, rfl⟩ := map_at' hx
    obtain ⟨e', e2, rfl⟩ := map_at' ho
    rw [e1] at e2
    cases e2
    have re := (he e (List.mem_of_getElem? e1)).gr (.of s2)
    refine ⟨rfl, ?_⟩
    refine ⟨_, rfl, t, rfl, ⟨_, SqT.of (s2 _ _ ht1)⟩, fun D2 hD2 => ?_⟩
    refine lc_pure (walk_tup (K := K) (a := t) (xs := (zs.map (·.1)).map V.ref)) (zs.map fun z => some (.bl (z.2.le e.2))) (by simp) (by simp; omega) hD2 (fun H3 s3 => SqT.of (s3 _ _ (s2 _ _ ht1))) ?_ ?_
    · intro j x o H3 R1' R0' hx ho s3 kR' k0'
      rw [List.map_map] at hx
      obtain ⟨z, e3, rfl⟩ := map_at' hx
      obtain ⟨z', e4, rfl⟩ := map_at' ho
      rw [e3] at e4
      cases e4
      have rz := (hz1 z (List.mem_of_getElem? e3)).gr (.of (s2.trans s3))
      obtain ⟨dz, oz⟩ := id rz
      refine ⟨rfl, yes1 ?_⟩
      exact ⟨_, rfl, z.1, dz, _, rfl, oz, rf_within, _, rfl, z.1, e.1, z.2, e.2, rfl, rz, re.gr (.of s3), fun H4 s4 => kR' _ _ rfl s4⟩
    · intro H3 s3 h3
      rw [some_map'] at h3
      refine ⟨D2, zs.map fun z => z.2.le e.2, rfl, SqL.of (by rw [h3, List.map_map]; rfl), _, rfl, ?_⟩
      have eb : (zs.map fun z => z.2.le e.2).any id = ((zs.map (·.2)).any fun S => S.le e.2) := by
        rw [List.any_map, List.any_map]
        rfl
      rw [eb]
      cases hb : ((zs.map (·.2)).any fun S => S.le e.2) with
      | true => exact iteT ⟨_, rfl, kR _ _ (if_pos hb) s3⟩
      | false => exact iteF (k0 _ (if_neg (by rw [hb]; simp)) s3)
  · intro H2 s2 h2
    rw [filt_map (fun e : Addr × RS => (zs.map (·.2)).any fun S => S.le e.2)] at h2
    refine ⟨_, rfl, p, _, dx, _, rfl, s2 _ _ hp1, cl_Family T, no_Family_members T, by decide, ?_⟩
    have nD : D ≠ p := fun z => by
      rw [z, hp1] at hD
      cases hD
    refine k _ D (fun b u e n m => by rw [upd_ne (by simpa using n)]; exact s2 _ _ (x1 _ _ e m)) ?_ ((Nu.of hD).back x1) ?_
    · exact Tabs.sx (T1.ext s2) (Sx.set (a := p)) fun d hd => by
        rw [List.mem_singleton.mp hd]
        exact .ins (s2 _ _ hp1)
    · refine ⟨dx, ((es.filter fun e => (zs.map (·.2)).any fun S => S.le e.2).map (·.1)), upd_same, by rw [upd_ne nD, h2, List.map_map]; rfl, ?_⟩
      have e : ups (zs.map (·.2)) = (es.filter fun e => (zs.map (·.2)).any fun S => S.le e.2).map (·.2) := by
        unfold ups
        rw [ee]
        exact (map_filter2 (fun z : Addr × RS => z.2) (fun R => (zs.map fun x : Addr × RS => x.2).any fun S => S.le R) es).symm
      rw [e]
      exact Each.of_zs fun z h => (((he z (List.mem_filter.mp h).1).gr (.of s2))).upd (((he z (List.mem_filter.mp h).1).gr (.of s2)).ne (s2 _ _ hp1))
end
end NL
set_option Elab.async false
set_option linter.all false
set_option maxRecDepth 100000
set_option maxHeartbeats 4000000
/-! Sets of texts, as rules. -/
namespace NL
open PySem PySem.Spec PyProof.Rows L2 SX LamX
/-- a set of texts at a -/
def SetV (P : Program) (w : World) (a : Addr) (l : List Str) : HO := .ext fun h => SetAtX P w h a l
section
variable {X : Cx}
theorem setV_new {P : Program} {w : World} {H : Hp} {h : Heap} {a : Addr} {l : List Str} (x : SetAtX P w h a l) : ObjOk P w H h a (SetV P w a l) :=
  ⟨x, (let ⟨D, e, _⟩ := x; ⟨_, e⟩), fun h1 h2 x1 k => SetAtX.at x1 k⟩
theorem c_set (hc : X.calm = true) : CallR X (.type "set") (fun xs H Q => ∃ (p : Addr) (ys : List Str), xs = [.ref p] ∧ SqL X.K H p (ys.map V.str) ∧ ys.length ≤ 1000 ∧
    ∀ q l, H q = none → l.length ≤ ys.length → (∀ z, z ∈ l ↔ z ∈ ys) → l.Nodup → Q (.ref q) (upd H q (SetV X.prog X.w q l))) := by
  intro pins s σ H xs us Q I r h
  obtain ⟨p, ys, rfl, hq, hz, q⟩ := h
  obtain rfl := Vals.ref1 r
  obtain ⟨its, rv, hl, _⟩ := I.list hq
  refine set_list ys (I.ok.hd hc) hl.isList (by simpa using rv.strs) (Nat.lt_of_le_of_lt (Nat.succ_le_succ hz) (by decide)) fun h' tk m x nm em kp => ?_
  have n0 : H s.heap.objs.size = none := I.hok.fresh (Nat.le_refl _)
  exact ⟨.ref _, _, I.laid (t' := tk) kp (Nat.le_refl _) (setV_new x), rfl, q _ m n0 nm em (let ⟨D, _, z⟩ := x; z.nd)⟩
theorem c_lenSet : CallR X (.builtin "len") (fun xs H Q => ∃ (a : Addr) (l : List Str), xs = [.ref a] ∧ H a = some (SetV X.prog X.w a l) ∧ l.length ≤ 1000 ∧ Q (.int l.length) H) := by
  intro pins s σ H xs us Q I r h
  obtain ⟨a, l, rfl, ha, hz, q⟩ := h
  obtain rfl := Vals.ref1 r
  obtain ⟨⟨D, e, x⟩, _⟩ := I.hok a _ ha
  have sz : D.1.size = l.length := x.tx.sz
  exact call_len_set e ⟨rfl, rfl, rfl⟩ rfl x.tx.fit (by have := line63; rw [sz]; omega) ⟨.int l.length, H, I.tok _, ⟨_, by rw [sz]⟩, q⟩
theorem c_sortedSet {j : Nat} (hc : X.calm = true) (hr : Room j X.A) : CallR X (.builtin "sorted") (fun xs H Q => ∃ (a : Addr) (l : List Str), xs = [.ref a] ∧ H a = some (SetV X.prog X.w a l) ∧ l.length ≤ 1000 ∧
    ∀ (p : Addr) (m : List Str), H p = none → m.Perm l → (m.Pairwise fun a b => a.cps.toList ≤ b.cps.toList) → Q (.ref p) (upd H p (.lst (m.map V.str)))) := by
  intro pins s σ H xs us Q I r h
  obtain ⟨a, l, rfl, ha, hz, q⟩ := h
  obtain rfl := Vals.ref1 r
  obtain ⟨x, _⟩ := I.hok a _ ha
  refine set_sorted x (I.ok.hd hc) hz (by have := hr.units; omega) fun s' p out c m kp g1 o1 z1 hp sm pm sp => ?_
  have n0 : H p = none := I.hok.fresh z1
  have I2 : Inv X pins σ (upd H p (.lst (m.map V.str))) s' := by
    have lz : (m.map V.str).length ≤ sizeLine := by
      rw [List.length_map, pm.length_eq]
      exact small_len (by omega)
    obtain ⟨h2, g2, d2, t2, o2⟩ := s'
    obtain rfl : g2 = s.gens := g1
    obtain rfl : o2 = s.os := o1
    have new : ObjOk X.prog X.w (upd H p (.lst (m.map V.str))) h2 p (.lst (m.map V.str)) := ⟨lz, out, c, vals_of_strs sm, hp⟩
    exact I.call (ch := []) (Un.laid kp z1 n0) (I.hok.laid kp z1 new) I.bare fun _ z => nomatch z
  exact ⟨.ref p, _, I2, rfl, q p m n0 pm sp⟩
end
end NL
set_option Elab.async false
set_option linter.all false
set_option maxRecDepth 100000
set_option maxHeartbeats 4000000
/-! different, beginning, ending. -/
namespace NL
open PySem PySem.Spec PyProof.Rows L2 SX LamX
section
variable {P : Program} {w : World} {K : PySem.W.Frag} {mg : Str → Option Value} {base : Heap}
def lst (u : List L) : HO := .lst (u.map leafV)
def leafS (x : L) : Str := S [x.code]
theorem leafS_inj {x y : L} (h : leafS x = leafS y) : x = y := L.code_inj (by
  have := S_inj h
  simpa using this)
theorem leaf_map (u : List L) : (u.map leafS).map V.str = u.map leafV := by
  rw [List.map_map]
  rfl
theorem mem_leafS {u : List L} {x : L} : leafS x ∈ u.map leafS ↔ x ∈ u := by
  rw [List.mem_map]
  exact ⟨fun ⟨y, hy, e⟩ => leafS_inj e ▸ hy, fun h => ⟨x, h, rfl⟩⟩
theorem set_len {l : List Str} {u : List L} (nd : l.Nodup) (h : ∀ z, z ∈ l ↔ z ∈ u.map leafS) : l.length = dif u := by
  have p : l.Perm ((setL u).map leafS) := by
    refine (List.perm_ext_iff_of_nodup nd ?_).mpr fun z => ?_
    · refine List.Pairwise.map (R := fun a b => a ≠ b) _ (fun a b hab e => hab (leafS_inj e)) ?_
      unfold setL
      exact List.Pairwise.filter _ (show [L.a, L.b, L.e, L.z].Nodup from by decide)
    · rw [h, List.mem_map, List.mem_map]
      exact ⟨fun ⟨x, hx, e⟩ => ⟨x, (mem_setL u x).mpr hx, e⟩, fun ⟨x, hx, e⟩ => ⟨x, (mem_setL u x).mp hx, e⟩⟩
  have e := p.length_eq
  rwa [List.length_map] at e
def pm_different (K : PySem.W.Frag) : Pm := fun vs H Q => ∃ p u, vs = [.ref p] ∧ H p = some (lst u) ∧ u.length ≤ 100 ∧ ∀ H', Same H H' → Q (.int (dif u : Nat)) H'
theorem ok_different (T : Txt K mg) : Ok P w K mg base 1 (a_different K) (pm_different K) := by
  refine ok_of (F_different T) cdifferent b_different (fun vs H Q h => ?_) (fun cdv A outer s H vs Q E hr h => ?_)
  · obtain ⟨p, u, rfl, _⟩ := h
    rfl
  obtain ⟨p, u, rfl, hp, hz, k⟩ := h
  refine ⟨_, pss_one (ps_ret (pe_callB c_lenSet (by rfl) (z_len T) PySem.boot_len (pa_cons (pe_callTy (c_set rfl) (by rfl) (z_set T) (by decide +kernel) (pa_cons (pv 0) pa_nil)) pa_nil))), ?_⟩
  refine ⟨_, rfl, p, u.map leafS, rfl, SqL.of (by rw [leaf_map]; exact hp), by simp; omega, fun q l nq nl em nd => ?_⟩
  refine ⟨q, l, rfl, upd_same, by have : l.length ≤ u.length := by simpa using nl
                                  omega, ?_⟩
  rw [set_len nd em]
  exact k _ (same_upd nq)
theorem len_put {κ : Type} [DecidableEq κ] (kvs : List (κ × V)) (k : κ) (v : V) : (putK kvs k v).length = if (valV kvs k).isSome = true then kvs.length else kvs.length + 1 := by
  unfold putK
  rw [valV_any]
  split <;> simp
theorem cut_take {xs : List V} {i : Nat} (h : i ≤ xs.length) : cutV xs none (some (i : Int)) = xs.take i := by
  unfold cutV
  rw [HT.sIx_none, HT.sIx_nat, Nat.min_eq_left h]
  simp
theorem cut_drop {xs : List V} {i : Nat} (h : i ≤ xs.length) : cutV xs (some (i : Int)) none = xs.drop i := by
  unfold cutV
  rw [HT.sIx_none, HT.sIx_nat, Nat.min_eq_left h]
  exact List.take_of_length_le (by simp)
def kx (x : L) : Key := .inr (leafS x)
def pm_beginning (K : PySem.W.Frag) : Pm := fun vs H Q => ∃ p u, vs = [.ref p] ∧ H p = some (lst u) ∧ u ≠ [] ∧ u.length ≤ 100 ∧ ∀ H' t q a r, Same H H' → IsPre u r a → H' t = some (.tup [.ref q, leafV a]) → H' q = some (lst r) → Q (.ref t) H'
theorem ok_beginning (T : Txt K mg) : Ok P w K mg base 2 (a_beginning K) (pm_beginning K) := by
  have G : Ok P w K mg base 1 (a_different K) (pm_different K) := ok_different T
  refine ok_of (F_beginning T) cbeginning b_beginning (fun vs H Q h => ?_) (fun cdv A outer s H vs Q E hr h => ?_)
  · obtain ⟨p, u, rfl, _⟩ := h
    rfl
  obtain ⟨p, u, rfl, hp, hne, hz, k⟩ := h
  refine ⟨_, pss_cons (ps_set (i := 1) cbeginning.nd rfl (.inl rfl) (e_call G hr (by decide) (g_different T) (k_different T) (pa_cons (pv 0) pa_nil)))
    (pss_cons (ps_set (i := 2) cbeginning.nd rfl (.inl rfl) pe_dnewK)
    (pss_cons (ps_for PassesOwn.never rfl (pi_enum (by rfl) (z_enumerate T) (pa_cons (pv 0) pa_nil)) (pg_tup rfl (pgs_cons (pg_name (i := 3) cbeginning.nd rfl (.inl rfl)) (pgs_cons (pg_name (i := 4) cbeginning.nd rfl (.inl rfl)) pgs_nil)))
      (pss_cons (ps_dput (by have := hr.units; exact Nat.lt_of_le_of_lt (Nat.add_le_add_left (by decide) _) this) (pv 2) (pv 4) pe_bl rfl)
      (pss_one (ps_if (pt_cmpR op_eq (pe_callB call_lenD (by rfl) (z_len T) PySem.boot_len (pa_cons (pv 2) pa_nil)) (pv 1) (nomark _))
        (pss_one (ps_ret (pe_tup (pa_cons (pe_callTy call_list_of (by rfl) (z_list T) (by decide +kernel) (pa_cons (pe_slice sl_list (pv 0) po_none (po_some (pv 3))) pa_nil)) (pa_cons (pv 4) pa_nil))))) pss_nil))))
    (pss_one (ps_ret (pe_tup (pa_cons (pe_lst pa_nil) (pa_cons pe_str pa_nil))))))), ?_⟩
  refine ⟨_, rfl, p, u, rfl, hp, hz, fun H1 s1 d nd => ?_⟩
  have hp1 : H1 p = some (lst u) := s1 _ _ hp
  have n0 : p ≠ d := ne_of_none hp1 nd
  refine ⟨_, rfl, p, _, rfl, SqL.of (by rw [upd_ne n0]; exact hp1), ?_⟩
  have ld : dif u ≤ 4 := by
    unfold dif setL
    exact List.length_filter_le _ _
  refine for_it (walk_enum (K := K) (a := p) (xs := u.map leafV)) (fun i σ H' => Same H H' ∧ ∃ kvs va vl, σ = [some (.ref p), some (.int (dif u : Nat)), some (.ref d), va, vl] ∧ H' d = some (.dK kvs) ∧ kvs.length = dif (u.take i) ∧
    (∀ x, (valV kvs (kx x)).isSome = true ↔ x ∈ u.take i) ∧ ∀ j, j ≤ i → dif (u.take j) ≠ dif u)
    ⟨Same.upd s1 nd, [], _, _, rfl, upd_same, rfl, fun x => by simp [valV], fun j hj => by
      have : j = 0 := by omega
      subst this
      have := dif_pos hne
      show 0 ≠ dif u
      omega⟩ (fun i σ H' _ q => SqL.of (q.1 _ _ hp)) ?_ ?_
  · rintro i v σ H2 H3 hi ⟨s2, kvs, va, vl, rfl, hd, hk, hm, hj⟩ ⟨N, x, y, rfl, nN, rfl, hx, hy⟩
    cases hx
    obtain ⟨a, ha, rfl⟩ := map_at' hy
    have nNd : d ≠ N := ne_of_none hd nN
    have hp3 : ∀ H', Same H H' → H' p = some (lst u) := fun H' s => s _ _ hp
    have lk : kvs.length ≤ 4 := by
      rw [hk]
      unfold dif setL
      exact List.length_filter_le _ _
    refine ⟨N, _, rfl, SqT.of upd_same, rfl, _, _, rfl, _, _, rfl, rfl, ?_⟩
    have hd3 : (upd H2 N (.tup [.int (i : Nat), leafV a])) d = some (.dK kvs) := by rw [upd_ne nNd]; exact hd
    refine ⟨_, rfl, _, rfl, d, _, rfl, DPut.k (k := kx a) hd3 (small_len (by omega)), ?_⟩
    have e1 : u.take (i + 1) = u.take i ++ [a] := by
      rw [List.take_add_one, ha]
      rfl
    have lk2 : (putK kvs (kx a) (V.bl true)).length = dif (u.take (i + 1)) := by
      rw [len_put, e1, dif_snoc, hk]
      by_cases q : a ∈ u.take i
      · rw [if_pos ((hm a).mpr q), if_pos q]
      · rw [if_neg (fun z => q ((hm a).mp z)), if_neg q]
    refine ⟨_, rfl, d, _, rfl, upd_same, _, rfl, ?_⟩
    rw [lk2]
    refine ⟨rfl, _, rfl, ?_⟩
    have s4 : Same H (upd (upd H2 N (.tup [.int (i : Nat), leafV a])) d (.dK (putK kvs (kx a) (V.bl true)))) := fun b o e => by
      have b1 : b ≠ d := fun z => by
        rw [z, Same.none s1 nd] at e
        cases e
      have b2 : b ≠ N := ne_of_none (s2 _ _ e) nN
      rw [upd_ne b1, upd_ne b2]
      exact s2 _ _ e
    have ed : decide (V.int (dif (u.take (i + 1)) : Nat) = V.int (dif u : Nat)) = decide (dif (u.take (i + 1)) = dif u) := by
      refine decide_eq_decide.mpr ⟨fun z => ?_, fun z => by rw [z]⟩
      injection z with z
      omega
    rw [ed]
    by_cases hq : dif (u.take (i + 1)) = dif u
    · rw [decide_eq_true hq]
      refine iteT ?_
      have pr := pre_at ha (hj i (Nat.le_refl _)) hq
      refine ⟨_, rfl, _, rfl, i, rfl, p, _, rfl, SqL.of (hp3 _ s4), fun c nc => ?_⟩
      refine ⟨c, _, rfl, .inl (SqL.of upd_same), fun l nl => ?_⟩
      refine ⟨_, rfl, (by show 2 ≤ sizeLine; decide), fun t nt => ?_⟩
      refine k _ t l a (u.take i) ?_ pr upd_same ?_
      · exact Same.upd (Same.upd (Same.upd s4 nc) nl) nt
      · rw [upd_ne (ne_of_none (upd_same (o := _)) nt), upd_same, cut_take (by rw [List.length_map]; exact Nat.le_of_lt (by simpa using hi)), ← List.map_take]
        rfl
    · rw [decide_eq_false hq]
      refine iteF ⟨s4, _, _, _, rfl, upd_same, lk2, fun x => ?_, fun j hj' => ?_⟩
      · rw [valV_put, e1, List.mem_append, List.mem_singleton]
        by_cases q : kx x = kx a
        · rw [if_pos q]
          have : x = a := leafS_inj (by injection q)
          simp [this]
        · rw [if_neg q, hm]
          exact ⟨.inl, fun z => z.elim id fun z => absurd (by rw [z]) q⟩
      · rcases Nat.lt_or_ge j (i + 1) with z | z
        · exact hj j (by omega)
        · have : j = i + 1 := by omega
          rw [this]
          exact hq
  · rintro σ H2 ⟨s2, kvs, va, vl, rfl, hd, hk, hm, hj⟩
    exact absurd (by rw [List.length_map, List.take_length]) (hj _ (Nat.le_refl _))
def pm_ending (K : PySem.W.Frag) : Pm := fun vs H Q => ∃ p u, vs = [.ref p] ∧ H p = some (lst u) ∧ u ≠ [] ∧ u.length ≤ 100 ∧ ∀ H' t q a r, Same H H' → IsSuf u a r → H' t = some (.tup [leafV a, .ref q]) → H' q = some (lst r) → Q (.ref t) H'
theorem ok_ending (T : Txt K mg) : Ok P w K mg base 3 (a_ending K) (pm_ending K) := by
  have G : Ok P w K mg base 2 (a_beginning K) (pm_beginning K) := ok_beginning T
  refine ok_of (F_ending T) cending b_ending (fun vs H Q h => ?_) (fun cdv A outer s H vs Q E hr h => ?_)
  · obtain ⟨p, u, rfl, _⟩ := h
    rfl
  obtain ⟨p, u, rfl, hp, hne, hz, k⟩ := h
  refine ⟨_, pss_cons (ps_asg (e_call G hr (by decide) (g_beginning T) (k_beginning T) (pa_cons (pe_revL (pv 0)) pa_nil)) (pg_tup rfl (pgs_cons (pg_name (i := 1) cending.nd rfl (.inl rfl)) (pgs_cons (pg_name (i := 2) cending.nd rfl (.inl rfl)) pgs_nil))))
    (pss_one (ps_ret (pe_tup (pa_cons (pv 2) (pa_cons (pe_revL (pv 1)) pa_nil))))), ?_⟩
  refine ⟨_, rfl, p, _, rfl, SqL.of hp, fun c nc => ?_⟩
  refine ⟨c, u.reverse, rfl, by rw [upd_same, ← List.map_reverse]; rfl, by simpa using hne, by simpa using hz, fun H1 t q a r s1 hpre ht hq => ?_⟩
  refine ⟨t, _, rfl, SqT.of ht, rfl, _, _, rfl, _, _, rfl, rfl, ?_⟩
  refine ⟨_, rfl, _, rfl, q, _, rfl, SqL.of hq, fun d nd => ?_⟩
  refine ⟨(by show 2 ≤ sizeLine; decide), fun t' nt => ?_⟩
  refine k _ t' d a r.reverse ?_ (by simpa using hpre.rev) upd_same ?_
  · exact Same.upd (Same.upd (fun b o e => s1 _ _ (same_upd nc _ _ e)) nd) nt
  · rw [upd_ne (ne_of_none (upd_same (o := _)) nt), upd_same, ← List.map_reverse]
    rfl
end
end NL
set_option autoImplicit false
set_option linter.all false
namespace NL
open Tree
/-! Places of a way, deeds. Plain Lean. -/
def part : Tree → List Bool → Option Tree
  | t, [] => some t
  | .lf _, _ :: _ => none
  | .nd l r, b :: q => if b then part r q else part l q
def put : Tree → List Bool → Tree → Tree
  | _, [], u => u
  | .lf x, _ :: _, _ => .lf x
  | .nd l r, b :: q, u => if b then .nd l (put r q u) else .nd (put l q u) r
def places : Tree → List (List Bool)
  | .lf _ => [[]]
  | .nd l r => [] :: ((places l).map (false :: ·) ++ (places r).map (true :: ·))
theorem places_len : ∀ t : Tree, (places t).length + 1 = 2 * t.size
  | .lf _ => rfl
  | .nd l r => by
    have h1 := places_len l
    have h2 := places_len r
    simp only [places, size, List.length_cons, List.length_append, List.length_map]
    omega
theorem mem_places : ∀ (t : Tree) (q : List Bool), q ∈ places t ↔ ∃ u, part t q = some u
  | .lf x, [] => by simp [places, part]
  | .lf x, b :: q => by simp [places, part]
  | .nd l r, [] => by simp [places, part]
  | .nd l r, b :: q => by
    have h1 := mem_places l q
    have h2 := mem_places r q
    cases b <;> simp [places, part, h1, h2]
theorem part_put : ∀ {t : Tree} {q : List Bool} {u v : Tree}, part t q = some u → part (put t q v) q = some v
  | t, [], u, v, h => by simp [put, part]
  | .lf x, b :: q, u, v, h => by simp [part] at h
  | .nd l r, b :: q, u, v, h => by
    cases b
    · simp only [part, put] at h ⊢
      exact part_put (t := l) h
    · simp only [part, put] at h ⊢
      exact part_put (t := r) h
theorem part_size : ∀ {t : Tree} {q : List Bool} {u : Tree}, part t q = some u → u.size ≤ t.size
  | t, [], u, h => by
    simp [part] at h
    subst h
    exact Nat.le_refl _
  | .lf x, b :: q, u, h => by simp [part] at h
  | .nd l r, b :: q, u, h => by
    cases b
    · simp only [part] at h
      exact Nat.le_trans (part_size (t := l) h) (Nat.le_add_right _ _)
    · simp only [part] at h
      exact Nat.le_trans (part_size (t := r) h) (Nat.le_add_left _ _)
theorem put_size : ∀ {t : Tree} {q : List Bool} {u v : Tree}, part t q = some u → (put t q v).size + u.size = t.size + v.size
  | t, [], u, v, h => by
    simp [part] at h
    subst h
    simp [put, Nat.add_comm]
  | .lf x, b :: q, u, v, h => by simp [part] at h
  | .nd l r, b :: q, u, v, h => by
    cases b
    · simp only [part] at h
      have := put_size (v := v) (t := l) h
      show (Tree.nd (put l q v) r).size + u.size = (Tree.nd l r).size + v.size
      simp only [size]
      omega
    · simp only [part] at h
      have := put_size (v := v) (t := r) h
      show (Tree.nd l (put r q v)).size + u.size = (Tree.nd l r).size + v.size
      simp only [size]
      omega
theorem part_depth : ∀ {t : Tree} {q : List Bool} {u : Tree}, part t q = some u → q.length + u.depth ≤ t.depth
  | t, [], u, h => by
    simp [part] at h
    subst h
    simp
  | .lf x, b :: q, u, h => by simp [part] at h
  | .nd l r, b :: q, u, h => by
    cases b
    · simp only [part] at h
      have := part_depth (t := l) h
      simp only [depth, List.length_cons]
      omega
    · simp only [part] at h
      have := part_depth (t := r) h
      simp only [depth, List.length_cons]
      omega
theorem Cong.put {R : RS} {E : Tree → Tree → Prop} (c : Cong R E) : ∀ {t : Tree} {q : List Bool} {u v : Tree}, part t q = some u → E u v → E t (put t q v)
  | t, [], u, v, h, e => by
    simp [part] at h
    subst h
    cases t <;> exact e
  | .lf x, b :: q, u, v, h, e => by simp [part] at h
  | .nd l r, b :: q, u, v, h, e => by
    cases b
    · simp only [part] at h
      exact c.nd (c.put (t := l) h e) (c.refl r)
    · simp only [part] at h
      exact c.nd (c.refl l) (c.put (t := r) h e)
end NL
set_option Elab.async false
set_option linter.all false
set_option maxRecDepth 100000
set_option maxHeartbeats 4000000
/-! expected, end_of: where a way's text ends. -/
namespace NL
open PySem PySem.Spec PyProof.Rows L2 SX
section
variable {P : Program} {w : World} {K : PySem.W.Frag} {mg : Str → Option Value} {base : Heap}
theorem dec_ne_str (a b : List Nat) : (!decide (V.str (S a) = V.str (S b))) = !decide (a = b) := by rw [dec_S]
theorem at_S {u v : List Nat} {c : Nat} : (S (u ++ c :: v)).cps[u.length]? = some c := by
  show (u ++ c :: v).toArray[u.length]? = some c
  simp
theorem line62 {n : Nat} (h : n ≤ sizeLine) : (n : Int) < 2 ^ 63 := by
  have := line63
  omega
def pm_expected : Pm := fun vs H Q => ∃ (u v : List Nat) (c : Nat), vs = [.str (S (u ++ c :: v)), .int u.length, .str (S [c])] ∧ (u ++ c :: v).length ≤ sizeLine ∧ Q .non H
theorem ok_expected (T : Txt K mg) : Ok P w K mg base 1 (a_expected K) pm_expected := by
  refine ok_of (F_expected T) cexpected b_expected (fun vs H Q h => ?_) (fun cdv A outer s H vs Q E hr h => ?_)
  · obtain ⟨u, v, c, rfl, _⟩ := h
    rfl
  obtain ⟨u, v, c, rfl, hz, q⟩ := h
  refine ⟨_, pss_one (ps_if (PW.pt (pw_or (pt_cmpR op_eq (pv 1) (pe_callB call_len_str (by rfl) (z_len T) PySem.boot_len (pa_cons (pv 0) pa_nil)) (nomark _))
    (pw_or1 (pt_cmpR op_ne (pe_item_str (pv 0) (pv 1) (fun _ _ => rfl)) (pv 2) (nomark _))))) (pss_one ps_never) pss_nil), ?_⟩
  have hl : (S (u ++ c :: v)).length = u.length + (v.length + 1) := by rw [S_len]; simp
  refine ⟨_, rfl, _, rfl, _, rfl, by rw [S_len]; exact hz, rfl, _, rfl, ?_⟩
  have e1 : decide (V.int (u.length : Int) = V.int ((S (u ++ c :: v)).length : Nat)) = false := decide_eq_false fun e => by
    injection e with e
    rw [hl] at e
    omega
  rw [e1]
  refine iteF ⟨_, rfl, _, rfl, _, _, c, rfl, rfl, Int.natCast_nonneg _, line62 (Nat.le_trans (by simp) hz), by rw [hl]; omega, ?_, _, rfl, rfl, _, rfl, ?_⟩
  · show (S (u ++ c :: v)).cps[((u.length : Nat) : Int).toNat]? = some c
    rw [Int.toNat_natCast]
    exact at_S
  · have e2 : (!decide (V.str (S [c]) = V.str (S [c]))) = false := by simp
    show if (!decide (V.str (S [c]) = V.str (S [c]))) = true then _ else _
    rw [e2]
    exact iteF q

/-- what may stand behind a way's text -/
def Stop (v : List Nat) : Prop := v = [] ∨ ∃ c r, v = c :: r ∧ (c = 32 ∨ c = 41)
def pm_end (n : Nat) : Pm := fun vs H Q => ∃ (t : Tree) (u v : List Nat), vs = [.str (S (u ++ (t.txt ++ v))), .int u.length] ∧ (u ++ (t.txt ++ v)).length ≤ 4096 ∧ Stop v ∧ t.depth < n ∧ Q (.int ((u.length + t.txt.length : Nat) : Int)) H
theorem no_calls {k : Nat} {f : Addr} {pm : Pm} (h : ∀ vs H Q, ¬ pm vs H Q) : Ok P w K mg base k f pm := fun A outer s H us vs Q E _ _ _ q => absurd q (h vs H Q)
theorem letters_in (x : L) : x.code ∈ ("abcdefghijklmnopqrstuvwxyz" : Str).cps.toList := by cases x <;> decide +kernel
theorem letters_out {c : Nat} (h : c = 32 ∨ c = 41) : c ∉ ("abcdefghijklmnopqrstuvwxyz" : Str).cps.toList := by rcases h with rfl | rfl <;> decide +kernel
theorem get_S {a : List Nat} {i : Nat} {c : Nat} (h : a[i]? = some c) : (S a).cps[((i : Nat) : Int).toNat]? = some c := by
  rw [Int.toNat_natCast]
  show a.toArray[i]? = some c
  simpa using h
theorem q_int {Q : VK} {H : Hp} {i j : Int} (h : Q (.int i) H) (e : i = j) : Q (.int j) H := e ▸ h
theorem args2 {a b : List Nat} {i j : Int} (h1 : a = b) (h2 : i = j) : [V.str (S a), V.int i] = [V.str (S b), V.int j] := by rw [h1, h2]
theorem args3 {a b : List Nat} {i j : Int} {x y : Str} (h1 : a = b) (h2 : i = j) (h3 : x = y) : [V.str (S a), V.int i, V.str x] = [V.str (S b), V.int j, V.str y] := by rw [h1, h2, h3]
theorem ok_end (T : Txt K mg) : ∀ n : Nat, Ok P w K mg base (n + 1) (a_end_of K) (pm_end n)
  | 0 => no_calls fun vs H Q ⟨t, _, _, _, _, _, h, _⟩ => Nat.not_lt_zero _ h
  | n + 1 => by
    have G := ok_end T n
    have GX : Ok P w K mg base 1 (a_expected K) pm_expected := ok_expected T
    refine ok_of (F_end_of T) cend_of b_end_of (fun vs H Q h => ?_) (fun cdv A outer s H vs Q E hr h => ?_)
    · obtain ⟨t, u, v, rfl, _⟩ := h
      rfl
    obtain ⟨t, u, v, rfl, hz, hv, hd, q⟩ := h
    refine ⟨_, pss_cons (ps_if (pt_cmpR op_eq (pv 1) (pe_callB call_len_str (by rfl) (z_len T) PySem.boot_len (pa_cons (pv 0) pa_nil)) (nomark _)) (pss_one ps_never) pss_nil)
      (pss_cons (ps_if (pt_cmpR op_eq (pe_item_str (pv 0) (pv 1) (fun _ _ => rfl)) pe_str (nomark _))
        (pss_cons (ps_set (i := 2) cend_of.nd rfl (.inl rfl) (e_call G hr (Nat.le_refl _) (g_end_of T) (k_end_of T) (pa_cons (pv 0) (pa_cons (pe_op op_add (pv 1) pe_int) pa_nil))))
        (pss_cons (ps_expr (e_call GX hr (Nat.le_add_left 1 n) (g_expected T) (k_expected T) (pa_cons (pv 0) (pa_cons (pv 2) (pa_cons pe_str pa_nil)))))
        (pss_cons (ps_set (i := 3) cend_of.nd rfl (.inl rfl) (e_call G hr (Nat.le_refl _) (g_end_of T) (k_end_of T) (pa_cons (pv 0) (pa_cons (pe_op op_add (pv 2) pe_int) pa_nil))))
        (pss_cons (ps_expr (e_call GX hr (Nat.le_add_left 1 n) (g_expected T) (k_expected T) (pa_cons (pv 0) (pa_cons (pv 3) (pa_cons pe_str pa_nil)))))
        (pss_one (ps_ret (pe_op op_add (pv 3) pe_int)))))))
        pss_nil)
      (pss_cons (ps_set (i := 4) cend_of.nd rfl (.inl rfl) pe_int)
      (pss_cons (ps_while PassesOwn.never (PW.pt (pw_and (pt_cmpR op_lt (pe_op op_add (pv 1) (pv 4)) (pe_callB call_len_str (by rfl) (z_len T) PySem.boot_len (pa_cons (pv 0) pa_nil)) (nomark _))
        (pw_and (pt_cmpR op_in_sign (pe_item_str (pv 0) (pe_op op_add (pv 1) (pv 4)) (fun _ _ => rfl)) (C8.pe_gc (by rfl) (g_LETTERS_ways T)) (by rfl))
        (pw_and1 (pt_cmpR op_lt (pv 4) (C8.pe_gc (by rfl) (g_LONGEST_NAME T)) (nomark _))))))
        (pss_one (ps_aug (i := 4) cend_of.nd rfl (.inl rfl) pe_int ip_add)))
      (pss_cons (ps_if (pt_cmpR op_eq (pv 4) pe_int (nomark _)) (pss_one ps_never) pss_nil)
      (pss_one (ps_ret (pe_op op_add (pv 1) (pv 4)))))))), ?_⟩
    have hp := t.txt_pos
    have hl : (S (u ++ (t.txt ++ v))).length = u.length + (t.txt.length + v.length) := by rw [S_len]; simp
    have hz1 : (S (u ++ (t.txt ++ v))).length ≤ sizeLine := by rw [S_len]; exact small_len hz
    refine ⟨_, rfl, _, rfl, _, rfl, hz1, rfl, _, rfl, ?_⟩
    have e1 : decide (V.int (u.length : Int) = V.int ((S (u ++ (t.txt ++ v))).length : Nat)) = false := decide_eq_false fun e => by
      injection e with e
      rw [hl] at e
      omega
    rw [e1]
    refine iteF ?_
    cases t with
    | lf x =>
      have hx : (u ++ ((Tree.lf x).txt ++ v))[u.length]? = some x.code := by simp [Tree.txt]
      refine ⟨_, rfl, _, rfl, _, _, x.code, rfl, rfl, Int.natCast_nonneg _, line62 (Nat.le_trans (by simp) (small_len hz)), by rw [hl]; omega, get_S hx, rfl, _, rfl, ?_⟩
      have e2 : decide (V.str (⟨#[x.code]⟩ : Str) = V.str ("(" : Str)) = false := by cases x <;> decide +kernel
      rw [e2]
      refine iteF ?_
      refine ⟨fun m σ H' => m ≤ 1 ∧ H' = H ∧ σ = [some (.str (S (u ++ ((Tree.lf x).txt ++ v)))), some (.int u.length), none, none, some (.int ((1 - m : Nat) : Int))], ⟨1, Nat.le_refl _, rfl, rfl⟩, ?_⟩
      rintro m σ H' ⟨hm, rfl, rfl⟩
      have hb : (u ++ ((Tree.lf x).txt ++ v)).length = u.length + (1 + v.length) := by simp [Tree.txt]; omega
      refine ⟨_, rfl, _, rfl, _, _, rfl, rfl, _, rfl, _, rfl, hz1, _, _, rfl, rfl, _, rfl, ?_⟩
      rcases (show m = 1 ∨ m = 0 by omega) with rfl | rfl
      · -- the first turn
        have c1 : decide ((u.length : Int) + ((1 - 1 : Nat) : Int) < ((S (u ++ ((Tree.lf x).txt ++ v))).length : Nat)) = true := decide_eq_true (by rw [hl]; omega)
        rw [c1]
        refine iteT ⟨_, rfl, _, rfl, _, rfl, _, _, rfl, rfl, _, _, x.code, rfl, rfl, by omega, by have := line62 (small_len hz); omega, by rw [hl]; omega, ?_, x.code, _, rfl, rfl, _, rfl, ?_⟩
        · have e : ((u.length : Int) + ((1 - 1 : Nat) : Int)) = ((u.length : Nat) : Int) := by omega
          rw [e]
          exact get_S hx
        rw [decide_eq_true (letters_in x)]
        refine iteT ⟨_, rfl, _, _, rfl, rfl, _, rfl, ?_⟩
        have c3 : decide (((1 - 1 : Nat) : Int) < 6) = true := by decide
        rw [c3]
        refine iteT ⟨fun σ' H'' => H'' = H' ∧ σ' = [some (.str (S (u ++ ((Tree.lf x).txt ++ v)))), some (.int u.length), none, none, some (.int ((1 - 0 : Nat) : Int))], fun σ' H'' h => ⟨0, Nat.zero_lt_one, Nat.zero_le _, h.1, h.2⟩, ?_⟩
        exact ⟨_, rfl, _, _, rfl, rfl, rfl, rfl⟩
      · -- behind it
        rcases hv with rfl | ⟨c, r, rfl, hc⟩
        · have c1 : decide ((u.length : Int) + ((1 - 0 : Nat) : Int) < ((S (u ++ ((Tree.lf x).txt ++ []))).length : Nat)) = false := decide_eq_false (by rw [hl]; simp [Tree.txt])
          rw [c1]
          refine iteF ⟨_, rfl, rfl, _, rfl, ?_⟩
          rw [show decide (V.int (((1 - 0 : Nat) : Int)) = V.int 0) = false from by decide]
          refine iteF ⟨_, rfl, _, rfl, _, _, rfl, rfl, q_int q (by simp [Tree.txt])⟩
        · have c1 : decide ((u.length : Int) + ((1 - 0 : Nat) : Int) < ((S (u ++ ((Tree.lf x).txt ++ c :: r))).length : Nat)) = true := decide_eq_true (by rw [hl]; simp [Tree.txt]; omega)
          rw [c1]
          have hc' : (u ++ ((Tree.lf x).txt ++ c :: r))[u.length + 1]? = some c := by
            rw [List.getElem?_append_right (by omega)]
            simp [Tree.txt]
          refine iteT ⟨_, rfl, _, rfl, _, rfl, _, _, rfl, rfl, _, _, c, rfl, rfl, by omega, by have := line62 (small_len hz); omega, by rw [hl]; simp [Tree.txt]; omega, ?_, c, _, rfl, rfl, _, rfl, ?_⟩
          · have e : ((u.length : Int) + ((1 - 0 : Nat) : Int)) = ((u.length + 1 : Nat) : Int) := by omega
            rw [e]
            exact get_S hc'
          rw [decide_eq_false (letters_out hc)]
          refine iteF ⟨_, rfl, rfl, _, rfl, ?_⟩
          rw [show decide (V.int (((1 - 0 : Nat) : Int)) = V.int 0) = false from by decide]
          refine iteF ⟨_, rfl, _, rfl, _, _, rfl, rfl, q_int q (by simp [Tree.txt])⟩
    | nd l r =>
      have hx : (u ++ ((Tree.nd l r).txt ++ v))[u.length]? = some 40 := by simp [Tree.txt]
      refine ⟨_, rfl, _, rfl, _, _, 40, rfl, rfl, Int.natCast_nonneg _, line62 (Nat.le_trans (by simp) (small_len hz)), by rw [hl]; omega, get_S hx, rfl, _, rfl, ?_⟩
      have e2 : decide (V.str (⟨#[40]⟩ : Str) = V.str ("(" : Str)) = true := by decide +kernel
      rw [e2]
      refine iteT ?_
      have eT : u ++ ((Tree.nd l r).txt ++ v) = (u ++ [40]) ++ (l.txt ++ (32 :: (r.txt ++ 41 :: v))) := by simp [Tree.txt]
      have eT2 : u ++ ((Tree.nd l r).txt ++ v) = (u ++ (40 :: l.txt)) ++ 32 :: (r.txt ++ 41 :: v) := by simp [Tree.txt]
      have eT3 : u ++ ((Tree.nd l r).txt ++ v) = (u ++ (40 :: (l.txt ++ [32]))) ++ (r.txt ++ (41 :: v)) := by simp [Tree.txt]
      have eT4 : u ++ ((Tree.nd l r).txt ++ v) = (u ++ (40 :: (l.txt ++ (32 :: r.txt)))) ++ 41 :: v := by simp [Tree.txt]
      have hd' : max l.depth r.depth + 1 < n + 1 := hd
      refine ⟨_, rfl, _, rfl, _, _, rfl, rfl, l, u ++ [40], 32 :: (r.txt ++ 41 :: v), args2 eT (by simp), by rw [← eT]; exact hz, .inr ⟨32, _, rfl, .inl rfl⟩, by omega, ?_⟩
      refine ⟨_, rfl, _, rfl, u ++ (40 :: l.txt), r.txt ++ 41 :: v, 32, args3 eT2 (by simp; omega) (by decide +kernel), by rw [← eT2]; exact small_len hz, ?_⟩
      refine ⟨_, rfl, _, rfl, _, _, rfl, rfl, r, u ++ (40 :: (l.txt ++ [32])), 41 :: v, args2 eT3 (by simp; omega), by rw [← eT3]; exact hz, .inr ⟨41, _, rfl, .inr rfl⟩, by omega, ?_⟩
      refine ⟨_, rfl, _, rfl, u ++ (40 :: (l.txt ++ (32 :: r.txt))), v, 41, args3 eT4 (by simp; omega) (by decide +kernel), by rw [← eT4]; exact small_len hz, ?_⟩
      refine ⟨_, rfl, _, _, rfl, rfl, ?_⟩
      exact q_int q (by simp [Tree.txt]; omega)
end
end NL
set_option Elab.async false
set_option linter.all false
set_option maxRecDepth 100000
set_option maxHeartbeats 4000000
/-! Way: made of its text. -/
namespace NL
open PySem PySem.Spec PyProof.Rows L2 SX
theorem cut_mid (p q r : List Nat) : cutS (S (p ++ (q ++ r))) (some (p.length : Int)) (some ((p.length + q.length : Nat) : Int)) = S q := by
  unfold cutS
  have hl : (S (p ++ (q ++ r))).length = p.length + (q.length + r.length) := by rw [S_len]; simp
  have h1 : HT.sIx (S (p ++ (q ++ r))).length 0 (some (p.length : Int)) = p.length := by
    rw [hl]
    unfold HT.sIx
    simp
    omega
  have h2 : HT.sIx (S (p ++ (q ++ r))).length (S (p ++ (q ++ r))).length (some ((p.length + q.length : Nat) : Int)) = p.length + q.length := by
    rw [HT.sIx_nat, hl]
    omega
  rw [h1, h2]
  show S (((p ++ (q ++ r)).toArray.toList.drop p.length).take (p.length + q.length - p.length)) = S q
  congr 1
  simp
theorem cut_last (p q : List Nat) (c : Nat) : cutS (S (p ++ (q ++ [c]))) (some (p.length : Int)) (some (-1)) = S q := by
  unfold cutS
  have hl : (S (p ++ (q ++ [c]))).length = p.length + (q.length + 1) := by rw [S_len]; simp
  have h1 : HT.sIx (S (p ++ (q ++ [c]))).length 0 (some (p.length : Int)) = p.length := by
    rw [hl]
    unfold HT.sIx
    simp
    omega
  have h2 : HT.sIx (S (p ++ (q ++ [c]))).length (S (p ++ (q ++ [c]))).length (some (-1)) = p.length + q.length := by
    rw [hl]
    unfold HT.sIx
    simp
    omega
  rw [h1, h2]
  show S (((p ++ (q ++ [c])).toArray.toList.drop p.length).take (p.length + q.length - p.length)) = S q
  congr 1
  simp
theorem empty_S : ("" : Str) = S [] := by decide +kernel
section
variable {v1 v2 v3 v4 v5 v6 : V} {lt : Addr}
theorem wf_leaf : putF "leaves" (.ref lt) (putF "name" v5 (putF "right" v4 (putF "left" v3 (putF "name" v2 (putF "text" v1 []))))) = wayF v1 v5 v3 v4 lt := by kernel_rfl
theorem wf_node : putF "leaves" (.ref lt) (putF "right" v6 (putF "left" v5 (putF "right" v4 (putF "left" v3 (putF "name" v2 (putF "text" v1 [])))))) = wayF v1 v2 v5 v6 lt := by kernel_rfl
theorem wl_left : (putF "right" v6 (putF "left" v5 (putF "right" v4 (putF "left" v3 (putF "name" v2 (putF "text" v1 [])))))).lookup ("left" : Str) = some v5 := by kernel_rfl
theorem wl_right : (putF "right" v6 (putF "left" v5 (putF "right" v4 (putF "left" v3 (putF "name" v2 (putF "text" v1 [])))))).lookup ("right" : Str) = some v6 := by kernel_rfl
theorem wl1 : (putF "text" v1 []).length = 1 := by kernel_rfl
theorem wl2 : (putF "name" v2 (putF "text" v1 [])).length = 2 := by kernel_rfl
theorem wl3 : (putF "left" v3 (putF "name" v2 (putF "text" v1 []))).length = 3 := by kernel_rfl
theorem wlL : (putF "name" v5 (putF "right" v4 (putF "left" v3 (putF "name" v2 (putF "text" v1 []))))).length = 4 := by kernel_rfl
theorem wl4 : (putF "right" v4 (putF "left" v3 (putF "name" v2 (putF "text" v1 [])))).length = 4 := by kernel_rfl
theorem wl5 : (putF "left" v5 (putF "right" v4 (putF "left" v3 (putF "name" v2 (putF "text" v1 []))))).length = 4 := by kernel_rfl
theorem wl6 : (putF "right" v6 (putF "left" v5 (putF "right" v4 (putF "left" v3 (putF "name" v2 (putF "text" v1 [])))))).length = 4 := by kernel_rfl
theorem pf1 {f : Str} {v : V} {fs : List (Str × V)} {n : Nat} (h : fs.length ≤ n) : (putF f v fs).length ≤ n + 1 := Nat.le_trans (length_putF f v fs) (Nat.succ_le_succ h)
theorem pf_lt {fs : List (Str × V)} {n : Nat} (h : fs.length ≤ n) (hn : n < 1000) : fs.length < 1000 := Nat.lt_of_le_of_lt h hn
end
theorem Sx.put {p : Addr} {o : HO} {H H1 : Hp} (h : Sx [p] H H1) : Sx [p] H (upd H1 p o) := fun b u e n => by rw [upd_ne (by simpa using n)]; exact h b u e n
theorem Sx.new {ds : List Addr} {l : Addr} {o : HO} {H H1 : Hp} (h : Sx ds H H1) (hl : H1 l = none) : Sx ds H (upd H1 l o) := fun b u e n => by rw [upd_ne (ne_of_none (h b u e n) hl)]; exact h b u e n
/-- a new instance, made by an __init__ that leaves all else as it was -/
theorem same_made {H H1 : Hp} {x dx C : Addr} {o : HO} (nx : H x = none) (nd : H dx = none) (h : Sx [x] (upd (upd H dx (.own x)) x (.ins C dx [])) H1) : Same H H1 := fun b u e => by
  have h1 := ne_of_none e nx
  have h2 := ne_of_none e nd
  refine h b u ?_ (by simpa using h1)
  rw [upd_ne h1, upd_ne h2]
  exact e
/-- kept but for objects of a kind -/
theorem WayAt.grB {K : PySem.W.Frag} {H H' : Hp} {B : HO → Prop} (hw : ∀ dx a b c d e, ¬ B (.ins (cWay K) dx (wayF a b c d e))) (ht : ∀ xs, ¬ B (.tup xs)) (g : ∀ b o, H b = some o → ¬ B o → H' b = some o) :
    ∀ {t : Tree} {p : Addr}, WayAt K H p t → WayAt K H' p t
  | .lf x, p, ⟨dx, lt, e, e2⟩ => ⟨dx, lt, g _ _ e (hw _ _ _ _ _ _), g _ _ e2 (ht _)⟩
  | .nd l r, p, ⟨dx, lt, pl, pr, e, e2, hl, hr⟩ => ⟨dx, lt, pl, pr, g _ _ e (hw _ _ _ _ _ _), g _ _ e2 (ht _), WayAt.grB hw ht g hl, WayAt.grB hw ht g hr⟩
/-- .. where an instance with fewer attributes is changed -/
theorem WayAt.put {K : PySem.W.Frag} {H : Hp} {x C dx : Addr} {fs : List (Str × V)} {o : HO} (hx : H x = some (.ins C dx fs)) (hf : fs.length = 4) {t : Tree} {p : Addr} (h : WayAt K H p t) : WayAt K (upd H x o) p t :=
  WayAt.grB (B := fun u => ∃ C dx fs, u = .ins C dx fs ∧ fs.length = 4) (fun dx a b c d e ⟨_, _, _, q, hl⟩ => by injection q with _ _ q; rw [← q] at hl; exact absurd (show (5 : Nat) = 4 from hl) (by decide)) (fun xs ⟨_, _, _, q, _⟩ => nomatch q)
    (fun b u e n => by rw [upd_ne (fun z => by subst z; rw [hx] at e; exact n ⟨_, _, _, (Option.some.inj e).symm, hf⟩)]; exact e) h
section
variable {P : Program} {w : World} {K : PySem.W.Frag} {mg : Str → Option Value} {base : Heap}
def pm_winit (n : Nat) : Pm := fun vs H Q => ∃ (p dx : Addr) (t : Tree), vs = [.ref p, .str (S t.txt)] ∧ H p = some (.ins (cWay K) dx []) ∧ t.depth < n ∧ t.txt.length ≤ 4096 ∧
  ∀ H', Sx [p] H H' → WayAt K H' p t → Q .non H'
theorem ok_winit (T : Txt K mg) : ∀ n : Nat, Ok P w K mg base (2 * n + 2) (a_Way_init K) (pm_winit (K := K) n)
  | 0 => no_calls fun vs H Q ⟨_, _, t, _, _, h, _⟩ => Nat.not_lt_zero _ h
  | n + 1 => by
    have G := ok_winit T n
    have GE : Ok P w K mg base (n + 2) (a_end_of K) (pm_end (n + 1)) := ok_end T (n + 1)
    have M := mk_Way T
    refine ok_of (F_Way_init T) cWay_init b_Way_init (fun vs H Q h => ?_) (fun cdv A outer s H vs Q E hr h => ?_)
    · obtain ⟨p, dx, t, rfl, _⟩ := h
      rfl
    obtain ⟨p, dx, t, rfl, hp, hd, hz, q⟩ := h
    have cl := cl_Way T
    refine ⟨_, pss_cons (ps_set (i := 2) cWay_init.nd rfl (.inl rfl) (e_call GE hr (by omega) (g_end_of T) (k_end_of T) (pa_cons (pv 1) (pa_cons pe_int pa_nil))))
      (pss_cons (ps_if (pt_cmpR op_lt (pv 2) (pe_callB call_len_str (by rfl) (z_len T) PySem.boot_len (pa_cons (pv 1) pa_nil)) (nomark _)) (pss_cons ps_never pss_nil) pss_nil)
      (pss_cons (ps_fld (pv 0) (pv 1) rfl) (pss_cons (ps_fld (pv 0) pe_str rfl) (pss_cons (ps_fld (pv 0) pe_non rfl) (pss_cons (ps_fld (pv 0) pe_non rfl)
      (pss_one (ps_if (pt_cmpR op_eq (pe_item_str (pv 1) pe_int (fun _ _ => rfl)) pe_str (nomark _))
        (pss_cons (ps_set (i := 3) cWay_init.nd rfl (.inl rfl) (e_call GE hr (by omega) (g_end_of T) (k_end_of T) (pa_cons (pv 1) (pa_cons pe_int pa_nil))))
        (pss_cons (ps_fld (pv 0) (e_make M G hr (by omega) (g_Way T) (pa_cons (pe_slice sl_str (pv 1) (po_some pe_int) (po_some (pv 3))) pa_nil)) rfl)
        (pss_cons (ps_fld (pv 0) (e_make M G hr (by omega) (g_Way T) (pa_cons (pe_slice sl_str (pv 1) (po_some (pe_op op_add (pv 3) pe_int)) (po_some (pe_un un_neg pe_int))) pa_nil)) rfl)
        (pss_one (ps_fld (pv 0) (pe_op op_catT (pe_fld (pe_fld (pv 0) rfl) rfl) (pe_fld (pe_fld (pv 0) rfl) rfl)) rfl)))))
        (pss_cons (ps_fld (pv 0) (pv 1) rfl) (pss_one (ps_fld (pv 0) (pe_tup (pa_cons (pv 1) pa_nil)) rfl)))))))))), ?_⟩
    have hz1 : (S t.txt).length ≤ sizeLine := by rw [S_len]; exact small_len hz
    have hp0 := t.txt_pos
    refine ⟨_, rfl, t, [], [], args2 (by simp) rfl, by simpa using hz, .inl rfl, hd, ?_⟩
    refine ⟨_, rfl, _, rfl, _, rfl, hz1, _, _, rfl, rfl, _, rfl, ?_⟩
    have c1 : decide ((((([] : List Nat).length + t.txt.length : Nat)) : Int) < ((S t.txt).length : Nat)) = false := decide_eq_false (by rw [S_len]; simp)
    rw [c1]
    refine iteF ⟨_, rfl, _, rfl, p, _, dx, _, rfl, hp, cl, no_Way_text T, by decide, ?_⟩
    refine ⟨_, rfl, p, _, dx, _, rfl, upd_same, cl, no_Way_name T, by rw [wl1]; decide, ?_⟩
    refine ⟨_, rfl, p, _, dx, _, rfl, upd_same, cl, no_Way_left T, by rw [wl2]; decide, ?_⟩
    refine ⟨_, rfl, p, _, dx, _, rfl, upd_same, cl, no_Way_right T, by rw [wl3]; decide, ?_⟩
    have s4 : Sx [p] H (upd (upd (upd (upd H p (.ins (cWay K) dx (putF "text" (.str (S t.txt)) []))) p (.ins (cWay K) dx (putF "name" (.str "") (putF "text" (.str (S t.txt)) [])))) p
        (.ins (cWay K) dx (putF "left" .non (putF "name" (.str "") (putF "text" (.str (S t.txt)) []))))) p (.ins (cWay K) dx (putF "right" .non (putF "left" .non (putF "name" (.str "") (putF "text" (.str (S t.txt)) [])))))) := (Sx.set.put.put).put
    cases t with
    | lf x =>
      refine ⟨_, rfl, _, _, x.code, rfl, rfl, by decide, by decide, by rw [S_len]; omega, get_S (i := 0) (by simp [Tree.txt]), rfl, _, rfl, ?_⟩
      have e2 : decide (V.str (⟨#[x.code]⟩ : Str) = V.str ("(" : Str)) = false := by cases x <;> decide +kernel
      rw [e2]
      refine iteF ⟨_, rfl, _, rfl, p, _, dx, _, rfl, upd_same, cl, no_Way_name T, by rw [wl4]; decide, ?_⟩
      refine ⟨_, rfl, (by show 1 ≤ sizeLine; decide), fun lt hlt => ?_⟩
      refine ⟨_, rfl, p, _, dx, _, rfl, by rw [upd_ne (ne_of_none upd_same hlt)]; exact upd_same, cl, no_Way_leaves T, by rw [wlL]; decide, ?_⟩
      refine q _ ((s4.put.new hlt).put) ⟨dx, lt, ?_, ?_⟩
      · rw [upd_same, wf_leaf]
        rfl
      · rw [upd_ne (ne_of_none upd_same hlt).symm]
        exact upd_same
    | nd l r =>
      refine ⟨_, rfl, _, _, 40, rfl, rfl, by decide, by decide, by rw [S_len]; omega, get_S (i := 0) (by simp [Tree.txt]), rfl, _, rfl, ?_⟩
      have e2 : decide (V.str (⟨#[40]⟩ : Str) = V.str ("(" : Str)) = true := by decide +kernel
      rw [e2]
      have hd' : max l.depth r.depth + 1 < n + 1 := hd
      have hz' : (Tree.nd l r).txt.length = l.txt.length + r.txt.length + 3 := by simp [Tree.txt]; omega
      refine iteT ⟨_, rfl, l, [40], 32 :: (r.txt ++ [41]), args2 (by simp [Tree.txt]) rfl, by simp; omega, .inr ⟨32, _, rfl, .inl rfl⟩, by omega, ?_⟩
      refine ⟨_, rfl, _, rfl, _, rfl, _, rfl, _, rfl, hz1, fun z1 dz1 nz1 nd1 ne1 => ?_⟩
      have k1 : cutS (S (Tree.nd l r).txt) (some 1) (some ((([40] : List Nat).length + l.txt.length : Nat) : Int)) = S l.txt := cut_mid [40] l.txt (32 :: (r.txt ++ [41]))
      refine ⟨z1, dz1, l, by rw [k1], upd_same, by omega, by omega, fun H1 s1 w1 => ⟨rfl, ?_⟩⟩
      have g1 := same_made (o := .lst []) nz1 nd1 s1
      refine ⟨_, rfl, p, _, dx, _, rfl, g1 _ _ upd_same, cl, no_Way_left T, by rw [wl4]; decide, ?_⟩
      have w1' := w1.put (o := .ins (cWay K) dx (putF "left" (.ref z1) (putF "right" .non (putF "left" .non (putF "name" (.str "") (putF "text" (.str (S (Tree.nd l r).txt)) [])))))) (g1 _ _ upd_same) wl4
      refine ⟨_, rfl, _, rfl, _, _, rfl, rfl, _, rfl, _, rfl, _, rfl, _, rfl, hz1, fun z2 dz2 nz2 nd2 ne2 => ?_⟩
      have k2 : cutS (S (Tree.nd l r).txt) (some (((([40] : List Nat).length + l.txt.length : Nat) : Int) + 1)) (some (-1)) = S r.txt := by
        have k := cut_last (40 :: (l.txt ++ [32])) r.txt 41
        have e : (40 :: (l.txt ++ [32])) ++ (r.txt ++ [41]) = (Tree.nd l r).txt := by simp [Tree.txt]
        have e3 : ((40 :: (l.txt ++ [32])).length : Int) = ((([40] : List Nat).length + l.txt.length : Nat) : Int) + 1 := by simp; omega
        rw [e, e3] at k
        exact k
      refine ⟨z2, dz2, r, by rw [k2], upd_same, by omega, by omega, fun H2 s2 w2 => ⟨rfl, ?_⟩⟩
      have g2 := same_made (o := .lst []) nz2 nd2 s2
      refine ⟨_, rfl, p, _, dx, _, rfl, g2 _ _ upd_same, cl, no_Way_right T, by rw [wl5]; decide, ?_⟩
      have w2' := w2.put (o := .ins (cWay K) dx (putF "right" (.ref z2) (putF "left" (.ref z1) (putF "right" .non (putF "left" .non (putF "name" (.str "") (putF "text" (.str (S (Tree.nd l r).txt)) []))))))) (g2 _ _ upd_same) wl5
      have w1'' := (w1'.gr (.of g2)).put (o := .ins (cWay K) dx (putF "right" (.ref z2) (putF "left" (.ref z1) (putF "right" .non (putF "left" .non (putF "name" (.str "") (putF "text" (.str (S (Tree.nd l r).txt)) []))))))) (g2 _ _ upd_same) wl5
      obtain ⟨d1, t1, m1, a1, b1, o1, f1⟩ := w1''.obj
      obtain ⟨d2, t2, m2, a2, b2, o2, f2⟩ := w2'.obj
      refine ⟨_, rfl, p, _, dx, _, _, rfl, upd_same, cl, no_Way_left T, wl_left, z1, _, d1, _, _, rfl, o1, cl, no_Way_leaves T, wf_leaves, ?_⟩
      refine ⟨_, rfl, p, _, dx, _, _, rfl, upd_same, cl, no_Way_right T, wl_right, z2, _, d2, _, _, rfl, o2, cl, no_Way_leaves T, wf_leaves, ?_⟩
      have ll := Tree.leaves_len l
      have lr := Tree.leaves_len r
      have xl := Tree.txt_len l
      have xr := Tree.txt_len r
      refine ⟨t1, t2, _, _, rfl, rfl, .of f1, .of f2, by simp [Tree.leaves_ne], small_len (by rw [List.length_map, List.length_map]; omega), fun e => absurd e (by simp [Tree.leaves_ne]), fun _ lt hlt => ?_⟩
      refine ⟨_, rfl, p, _, dx, _, rfl, by rw [upd_ne (ne_of_none upd_same hlt)]; exact upd_same, cl, no_Way_leaves T, by rw [wl6]; decide, ?_⟩
      have nlt : lt ≠ p := (ne_of_none upd_same hlt).symm
      refine q _ ((((((s4.trans (.of g1)).put).trans (.of g2)).put).new hlt).put) ⟨dx, lt, z1, z2, ?_, ?_, ?_, ?_⟩
      · rw [upd_same, wf_node, empty_S]
      · rw [upd_ne nlt, upd_same, Tree.leaves, List.map_append]
      · exact (w1''.gr (.of (same_upd hlt))).put (by rw [upd_ne nlt.symm]; exact upd_same) wl6
      · exact (w2'.gr (.of (same_upd hlt))).put (by rw [upd_ne nlt.symm]; exact upd_same) wl6
end
end NL
set_option Elab.async false
set_option linter.all false
set_option maxRecDepth 100000
set_option maxHeartbeats 4000000
/-! Way's methods. -/
namespace NL
open PySem PySem.Spec PyProof.Rows L2 SX
section
variable {P : Program} {w : World} {K : PySem.W.Frag} {mg : Str → Option Value} {base : Heap}
/-- ways that the law comes to -/
abbrev Sm (t : Tree) : Prop := t.size ≤ 64
theorem Sm.depth {t : Tree} (h : Sm t) : t.depth < 64 := Nat.lt_of_lt_of_le t.depth_lt h
theorem Sm.txt {t : Tree} (h : Sm t) : t.txt.length ≤ 256 := by
  have := t.txt_len
  have : t.size ≤ 64 := h
  omega
theorem ins_Way (T : Txt K mg) : C8.InsC K (cWay K) := T.insC (cl_Way T) (T.ex 2 (b := insB K "Way") rfl)
theorem sf_Way (T : Txt K mg) : PySem.W.selfFirst K (cWay K) = true := T.ex 4 (b := PySem.W.selfFirst K (He.ga K "Way")) rfl
def pm_wstr (K : PySem.W.Frag) : Pm := fun vs H Q => ∃ p t, vs = [.ref p] ∧ WayAt K H p t ∧ Q (.str (S t.txt)) H
theorem ok_wstr (T : Txt K mg) : Ok P w K mg base 1 (a_Way_str K) (pm_wstr K) := by
  refine ok_of (F_Way_str T) cWay_str b_Way_str (fun vs H Q h => ?_) (fun cdv A outer s H vs Q E hr h => ?_)
  · obtain ⟨p, t, rfl, _⟩ := h
    rfl
  obtain ⟨p, t, rfl, hw, q⟩ := h
  obtain ⟨dx, lt, nm, l, r, o, f⟩ := hw.obj
  refine ⟨_, pss_one (ps_ret (pe_callTy SkE.call_str_str (by rfl) (z_str T) (by decide +kernel) (pa_cons (pe_fld (pv 0) rfl) pa_nil))), ?_⟩
  exact ⟨_, rfl, p, _, dx, _, _, rfl, o, cl_Way T, no_Way_text T, wf_text, _, rfl, q⟩
def pm_wlen (K : PySem.W.Frag) : Pm := fun vs H Q => ∃ p t, vs = [.ref p] ∧ WayAt K H p t ∧ Sm t ∧ Q (.int (t.size : Nat)) H
theorem ok_wlen (T : Txt K mg) : Ok P w K mg base 1 (a_Way_len K) (pm_wlen K) := by
  refine ok_of (F_Way_len T) cWay_len b_Way_len (fun vs H Q h => ?_) (fun cdv A outer s H vs Q E hr h => ?_)
  · obtain ⟨p, t, rfl, _⟩ := h
    rfl
  obtain ⟨p, t, rfl, hw, hs, q⟩ := h
  obtain ⟨dx, lt, nm, l, r, o, f⟩ := hw.obj
  refine ⟨_, pss_one (ps_ret (pe_callB call_len (by rfl) (z_len T) PySem.boot_len (pa_cons (pe_fld (pv 0) rfl) pa_nil))), ?_⟩
  refine ⟨_, rfl, p, _, dx, _, _, rfl, o, cl_Way T, no_Way_leaves T, wf_leaves, _, t.size, rfl, .inr ⟨_, SqT.of f, ?_⟩, q⟩
  rw [List.length_map, Tree.leaves_len]
def pm_weq (K : PySem.W.Frag) : Pm := fun vs H Q => ∃ p q s t, vs = [.ref p, .ref q] ∧ WayAt K H p s ∧ WayAt K H q t ∧ Q (.bl (decide (s = t))) H
theorem ok_weq (T : Txt K mg) : Ok P w K mg base 1 (a_Way_eq K) (pm_weq K) := by
  refine ok_of (F_Way_eq T) cWay_eq b_Way_eq (fun vs H Q h => ?_) (fun cdv A outer s H vs Q E hr h => ?_)
  · obtain ⟨p, q, s, t, rfl, _⟩ := h
    rfl
  obtain ⟨p, q, s, t, rfl, hp, hq, k⟩ := h
  obtain ⟨d1, t1, m1, a1, b1, o1, f1⟩ := hp.obj
  obtain ⟨d2, t2, m2, a2, b2, o2, f2⟩ := hq.obj
  refine ⟨_, pss_one (ps_ret (pe_and (pe_callB (C8.call_isC (ins_Way T)) (by rfl) (z_isinstance T) (by decide +kernel) (pa_cons (pv 1) (pa_cons (pe_glob (v := .ref (cWay K)) rfl (g_Way T) rfl) pa_nil)))
    (pe_one (pe_cmpR op_eq (pe_fld (pv 0) rfl) (pe_fld (pv 1) rfl) (nomark _))))), ?_⟩
  refine ⟨_, rfl, q, d2, _, rfl, o2, true, rfl, iteT ?_⟩
  refine ⟨_, rfl, p, _, d1, _, _, rfl, o1, cl_Way T, no_Way_text T, wf_text, _, rfl, q, _, d2, _, _, rfl, o2, cl_Way T, no_Way_text T, wf_text, rfl, ?_⟩
  have e : decide (V.str (S s.txt) = V.str (S t.txt)) = decide (s = t) := by
    rw [dec_S]
    exact decide_eq_decide.mpr Tree.txt_iff
  rw [← e] at k
  exact k
def pm_wmul (K : PySem.W.Frag) : Pm := fun vs H Q => ∃ p q s t, vs = [.ref p, .ref q] ∧ WayAt K H p s ∧ WayAt K H q t ∧ Sm (.nd s t) ∧ ∀ z H', Same H H' → WayAt K H' z (.nd s t) → Q (.ref z) H'
theorem ok_way (T : Txt K mg) : Ok P w K mg base 130 (a_Way_init K) (pm_winit (K := K) 64) := ok_winit T 64
/-- Way(text), the text of a way -/
theorem made_way {H : Hp} {t : Tree} (ht : Sm t) {R : V → Hp → Prop} (q : ∀ z H', Same H H' → WayAt K H' z t → R (.ref z) H') {z dz : Addr} (nz : H z = none) (nd : H dz = none) (ne : dz ≠ z) {x : Str} (hx : x = S t.txt) :
    pm_winit (K := K) 64 [.ref z, .str x] (upd (upd H dz (.own z)) z (.ins (cWay K) dz [])) fun v H2 => v = .non ∧ R (.ref z) H2 :=
  ⟨z, dz, t, by rw [hx], upd_same, ht.depth, Nat.le_trans ht.txt (by decide), fun H1 s1 w1 => ⟨rfl, q z H1 (same_made (o := .lst []) nz nd s1) w1⟩⟩
theorem ok_wmul (T : Txt K mg) : Ok P w K mg base 132 (a_Way_mul K) (pm_wmul K) := by
  have G : Ok P w K mg base 130 (a_Way_init K) (pm_winit (K := K) 64) := ok_way T
  refine ok_of (F_Way_mul T) cWay_mul b_Way_mul (fun vs H Q h => ?_) (fun cdv A outer s H vs Q E hr h => ?_)
  · obtain ⟨p, q, s, t, rfl, _⟩ := h
    rfl
  obtain ⟨p, q, s, t, rfl, hp, hq, hs, k⟩ := h
  obtain ⟨d1, t1, m1, a1, b1, o1, f1⟩ := hp.obj
  obtain ⟨d2, t2, m2, a2, b2, o2, f2⟩ := hq.obj
  refine ⟨_, pss_one (ps_ret (e_make (mk_Way T) G hr (by decide) (g_Way T) (pa_cons (pe_joined (.cons pe_str (.cons (pe_fmt (pe_fld (pv 0) rfl)) (.cons pe_str (.cons (pe_fmt (pe_fld (pv 1) rfl)) (.cons pe_str .nil)))))) pa_nil))), ?_⟩
  have hz := hs.txt
  have e1 : Str.empty ++ ("(" : Str) = S [40] := by decide +kernel
  have e2 : (" " : Str) = S [32] := by decide +kernel
  have e3 : (")" : Str) = S [41] := by decide +kernel
  have hl : (Tree.nd s t).txt.length = s.txt.length + t.txt.length + 3 := by simp [Tree.txt]; omega
  refine ⟨_, rfl, by decide, ?_⟩
  rw [e1]
  refine ⟨_, rfl, p, _, d1, _, _, rfl, o1, cl_Way T, no_Way_text T, wf_text, .inl ⟨_, rfl, by rw [S_len]; exact small_len (by omega), _, rfl, ?_, ?_⟩⟩
  · rw [S_cat, S_len]
    exact small_len (by simp; omega)
  rw [S_cat, e2]
  refine ⟨_, rfl, by rw [S_cat, S_len]; exact small_len (by simp; omega), ?_⟩
  rw [S_cat]
  refine ⟨_, rfl, q, _, d2, _, _, rfl, o2, cl_Way T, no_Way_text T, wf_text, .inl ⟨_, rfl, by rw [S_len]; exact small_len (by omega), _, rfl, by rw [S_cat, S_len]; exact small_len (by simp; omega), ?_⟩⟩
  rw [S_cat, e3]
  refine ⟨_, rfl, by rw [S_cat, S_len]; exact small_len (by simp; omega), ?_⟩
  rw [S_cat]
  intro z dz nz nd ne
  exact made_way (t := .nd s t) hs k nz nd ne (by simp [Tree.txt])
end
end NL
set_option Elab.async false
set_option linter.all false
set_option maxRecDepth 100000
set_option maxHeartbeats 4000000
/-! Way.places, part, put. -/
namespace NL
open PySem PySem.Spec PyProof.Rows L2 SX
section
variable {P : Program} {w : World} {K : PySem.W.Frag} {mg : Str → Option Value} {base : Heap} {t n l r : V} {lt : Addr}
theorem wf_places : (wayF t n l r lt).lookup ("places" : Str) = none := by kernel_rfl
theorem wf_part : (wayF t n l r lt).lookup ("part" : Str) = none := by kernel_rfl
theorem wf_put : (wayF t n l r lt).lookup ("put" : Str) = none := by kernel_rfl
def plV (q : List Bool) : V := .str (S (pth q))
theorem some_map {α β : Type} (f : α → β) (l : List α) : (l.map fun x => some (f x)).filterMap id = l.map f := by
  induction l with
  | nil => rfl
  | cons a l ih => simp
theorem map_at {α β : Type} {f : α → β} {l : List α} {i : Nat} {y : β} (h : (l.map f)[i]? = some y) : ∃ x, l[i]? = some x ∧ y = f x := by
  rw [List.getElem?_map] at h
  cases e : l[i]? with
  | none => rw [e] at h; cases h
  | some x => rw [e] at h; exact ⟨x, rfl, (Option.some.inj h).symm⟩
theorem pth_len (q : List Bool) : (pth q).length = q.length := by simp [pth]
theorem sg0 : ("0" : Str) = S [48] := by decide +kernel
theorem sg1 : ("1" : Str) = S [49] := by decide +kernel
def pm_places (K : PySem.W.Frag) (n : Nat) : Pm := fun vs H Q => ∃ p t, vs = [.ref p] ∧ WayAt K H p t ∧ Sm t ∧ t.depth < n ∧ ∀ l H', Same H H' → H l = none → H' l = some (.lst ((places t).map plV)) → Q (.ref l) H'
theorem places_small {t : Tree} (h : Sm t) : (places t).length ≤ 127 := by
  have := places_len t
  have : t.size ≤ 64 := h
  omega
theorem place_small {t : Tree} (h : Sm t) {q : List Bool} (hq : q ∈ places t) : q.length ≤ 63 := by
  obtain ⟨u, e⟩ := (mem_places t q).mp hq
  have := part_depth e
  have := h.depth
  omega
theorem same_put {H H1 : Hp} {l : Addr} {o : HO} (n : H l = none) (s : Same H H1) : Same H (upd H1 l o) := fun b u e => by rw [upd_ne (ne_of_none e n)]; exact s b u e
theorem ok_places (T : Txt K mg) : ∀ n : Nat, Ok P w K mg base (n + 1) (a_Way_places K) (pm_places K n)
  | 0 => no_calls fun vs H Q ⟨p, t, _, _, _, h, _⟩ => Nat.not_lt_zero _ h
  | n + 1 => by
    have G := ok_places T n
    have cl := cl_Way T
    refine ok_of (F_Way_places T) cWay_places b_Way_places (fun vs H Q h => ?_) (fun cdv A outer s H vs Q E hr h => ?_)
    · obtain ⟨p, t, rfl, _⟩ := h
      rfl
    obtain ⟨p, t, rfl, hw, hs, hd, q⟩ := h
    refine ⟨_, pss_cons (ps_set (i := 1) cWay_places.nd rfl (.inl rfl) (pe_lst (pa_cons pe_str pa_nil)))
      (pss_cons (ps_if (pt_cmpR op_notN (pe_fld (pv 0) rfl) pe_non (nomark _))
        (pss_cons (ps_aug (i := 1) cWay_places.nd rfl (.inl rfl) (pe_lc (own := [("path", 2)]) (g := gName 2) (tt := tYes) rfl cWay_places.nd (pi_list (e_meth0 (pe_fld (pv 0) rfl) cl (m_Way_places T) G hr (Nat.le_refl _)))
          (blkOk_by (N := nWay_places) (sc := defScope sWay_places) (by decide +kernel)) (fun _ _ _ _ _ => pg_name (i := 2) cWay_places.nd rfl (Or.inl rfl)) (fun _ _ _ _ _ => pts_nil) (fun _ _ _ _ _ => pe_op op_add_str pe_str (pv 2))) iop_ext)
        (pss_one (ps_aug (i := 1) cWay_places.nd rfl (.inl rfl) (pe_lc (own := [("path", 2)]) (g := gName 2) (tt := tYes) rfl cWay_places.nd (pi_list (e_meth0 (pe_fld (pv 0) rfl) cl (m_Way_places T) G hr (Nat.le_refl _)))
          (blkOk_by (N := nWay_places) (sc := defScope sWay_places) (by decide +kernel)) (fun _ _ _ _ _ => pg_name (i := 2) cWay_places.nd rfl (Or.inl rfl)) (fun _ _ _ _ _ => pts_nil) (fun _ _ _ _ _ => pe_op op_add_str pe_str (pv 2))) iop_ext)))
        pss_nil)
      (pss_one (ps_ret (pv 1)))), ?_⟩
    refine ⟨(by show 1 ≤ sizeLine; decide), fun l0 n0 => ?_⟩
    have npl : p ≠ l0 := by
      obtain ⟨dx, lt, nm, a, b, o, f⟩ := hw.obj
      exact ne_of_none o n0
    have g0 : Same H (upd H l0 (.lst [.str ""])) := same_upd n0
    cases t with
    | lf x =>
      obtain ⟨dx, lt, o, f⟩ := hw
      refine ⟨_, rfl, p, _, dx, _, _, rfl, g0 _ _ o, cl, no_Way_left T, wf_left, rfl, _, rfl, ?_⟩
      refine iteF ⟨_, rfl, ?_⟩
      exact q l0 _ g0 n0 (by rw [upd_same, empty_S]; rfl)
    | nd a b =>
      obtain ⟨dx, lt, pl, pr, o, f, wl, wr⟩ := hw
      have hd' : max a.depth b.depth + 1 < n + 1 := hd
      have hs' : a.size + b.size ≤ 64 := hs
      have sa : Sm a := by show a.size ≤ 64; omega
      have sb : Sm b := by show b.size ≤ 64; omega
      obtain ⟨d1, t1, m1, a1, b1, o1, f1⟩ := wl.obj
      obtain ⟨d2, t2, m2, a2, b2, o2, f2⟩ := wr.obj
      refine ⟨_, rfl, p, _, dx, _, _, rfl, g0 _ _ o, cl, no_Way_left T, wf_left, rfl, _, rfl, ?_⟩
      refine iteT ⟨_, rfl, ?_⟩
      refine ⟨_, rfl, p, _, dx, _, _, rfl, g0 _ _ o, cl, no_Way_left T, wf_left, pl, d1, _, rfl, g0 _ _ o1, wf_places, pl, a, rfl, wl.gr (.of g0), sa, by omega, fun lL H1 s1 nL hL => ?_⟩
      refine ⟨lL, rfl, ⟨_, SqL.of hL⟩, fun D hD => ?_⟩
      refine lc_pure (walk_list (K := K) (a := lL) (xs := (places a).map plV)) ((places a).map fun x => some (plV (false :: x))) (by simp) (by have := places_small sa; simp; omega) hD (fun H2 s2 => SqL.of (s2 _ _ hL)) ?_ ?_
      · intro i x o' H2 R R0 hx ho s2 kR k0
        obtain ⟨u, e1, rfl⟩ := map_at hx
        obtain ⟨u', e2, rfl⟩ := map_at ho
        rw [e1] at e2
        cases e2
        have hu := place_small sa (List.mem_of_getElem? e1)
        refine ⟨rfl, yes1 ?_⟩
        refine ⟨_, rfl, _, _, rfl, rfl, ?_, ?_⟩
        · rw [sg0, S_len, S_len, pth_len]
          exact small_len (by simp; omega)
        · refine kR _ _ ?_ (Same.refl _)
          rw [sg0, S_cat]
          rfl
      intro H2 s2 hD2
      rw [some_map] at hD2
      have g2 : Same (upd H l0 (.lst [.str ""])) H2 := s1.trans s2
      refine ⟨l0, D, _, _, rfl, rfl, g2 _ _ upd_same, hD2, small_len (by have := places_small sa; simp; omega), ?_⟩
      have g3 : Same H (upd H2 l0 (.lst ([.str ""] ++ (places a).map fun x => plV (false :: x)))) := same_put n0 (g0.trans g2)
      refine ⟨_, rfl, _, rfl, p, _, dx, _, _, rfl, g3 _ _ o, cl, no_Way_right T, wf_right, pr, d2, _, rfl, g3 _ _ o2, wf_places, pr, b, rfl, wr.gr (.of g3), sb, by omega, fun lR H3 s3 nR hR => ?_⟩
      refine ⟨lR, rfl, ⟨_, SqL.of hR⟩, fun D' hD' => ?_⟩
      refine lc_pure (walk_list (K := K) (a := lR) (xs := (places b).map plV)) ((places b).map fun x => some (plV (true :: x))) (by simp) (by have := places_small sb; simp; omega) hD' (fun H4 s4 => SqL.of (s4 _ _ hR)) ?_ ?_
      · intro i x o' H4 R R0 hx ho s4 kR k0
        obtain ⟨u, e1, rfl⟩ := map_at hx
        obtain ⟨u', e2, rfl⟩ := map_at ho
        rw [e1] at e2
        cases e2
        have hu := place_small sb (List.mem_of_getElem? e1)
        refine ⟨rfl, yes1 ?_⟩
        refine ⟨_, rfl, _, _, rfl, rfl, ?_, ?_⟩
        · rw [sg1, S_len, S_len, pth_len]
          exact small_len (by simp; omega)
        · refine kR _ _ ?_ (Same.refl _)
          rw [sg1, S_cat]
          rfl
      intro H4 s4 hD4
      rw [some_map] at hD4
      have g4 := s3.trans s4
      refine ⟨l0, D', _, _, rfl, rfl, g4 _ _ upd_same, hD4, small_len (by have := places_small sa; have := places_small sb; simp; omega), ?_⟩
      refine ⟨_, rfl, q l0 _ (same_put n0 (g3.trans g4)) n0 ?_⟩
      rw [upd_same, empty_S]
      simp [places, plV, pth, List.map_map, Function.comp_def]
end
end NL
set_option Elab.async false
set_option linter.all false
set_option maxRecDepth 100000
set_option maxHeartbeats 4000000
/-! Way.part, Way.put. -/
namespace NL
open PySem PySem.Spec PyProof.Rows L2 SX
section
variable {P : Program} {w : World} {K : PySem.W.Frag} {mg : Str → Option Value} {base : Heap}
def bitC (b : Bool) : Nat := if b then 49 else 48
theorem pth_cons (b : Bool) (q : List Bool) : pth (b :: q) = bitC b :: pth q := rfl
theorem sg_bits (b : Bool) : bitC b ∈ ("01" : Str).cps.toList := by cases b <;> decide +kernel
theorem sg_zero (b : Bool) : decide (V.str (S [bitC b]) = V.str ("0" : Str)) = !b := by cases b <;> decide +kernel
def pm_part (K : PySem.W.Frag) : Pm := fun vs H Q => ∃ p t q u, vs = [.ref p, .str (S (pth q))] ∧ WayAt K H p t ∧ part t q = some u ∧ ∀ z, WayAt K H z u → Q (.ref z) H
theorem ok_part (T : Txt K mg) : Ok P w K mg base 1 (a_Way_part K) (pm_part K) := by
  refine ok_of (F_Way_part T) cWay_part b_Way_part (fun vs H Q h => ?_) (fun cdv A outer s H vs Q E hr h => ?_)
  · obtain ⟨p, t, q, u, rfl, _⟩ := h
    rfl
  obtain ⟨p, t, q, u, rfl, hw, hu, k⟩ := h
  have cl := cl_Way T
  refine ⟨_, pss_cons (ps_set (i := 2) cWay_part.nd rfl (.inl rfl) (pv 0))
    (pss_cons (ps_for PassesOwn.never rfl (pi_str (pv 1)) (pg_name (i := 3) cWay_part.nd rfl (.inl rfl))
      (pss_cons (ps_if (PW.pt (pw_or (pt_cmpR op_isN (pe_fld (pv 2) rfl) pe_non (nomark _)) (pw_or1 (pt_cmpR op_notIn_sign (pv 3) pe_str (by rfl))))) (pss_one ps_never) pss_nil)
      (pss_one (ps_set (i := 2) cWay_part.nd rfl (.inl rfl) (pe_ifExp (pt_cmpR op_eq (pv 3) pe_str (nomark _)) (pe_fld (pv 2) rfl) (pe_fld (pv 2) rfl))))))
    (pss_one (ps_ret (pv 2)))), ?_⟩
  refine ⟨_, rfl, _, rfl, _, rfl, ?_⟩
  refine for_it (walk_signs (pth q)) (fun i σ H' => H' = H ∧ ∃ z u' v, WayAt K H z u' ∧ part u' (q.drop i) = some u ∧ σ = [some (.ref p), some (.str (S (pth q))), some (.ref z), v]) ⟨rfl, p, t, none, hw, hu, rfl⟩ (fun _ _ _ _ _ => trivial) ?_ ?_
  · rintro i x σ H1 H2 hi ⟨rfl, z, u', v, wz, hp, rfl⟩ ⟨rfl, hx⟩
    obtain ⟨c, hc, rfl⟩ := map_at hx
    obtain ⟨b, hb, rfl⟩ := map_at (f := fun (b : Bool) => if b then 49 else 48) hc
    obtain ⟨hlt, hbq⟩ := List.getElem?_eq_some_iff.mp hb
    have ed : q.drop i = b :: q.drop (i + 1) := by rw [List.drop_eq_getElem_cons hlt, hbq]
    rw [ed] at hp
    cases u' with
    | lf x => simp [part] at hp
    | nd l r =>
      obtain ⟨dx, lt, pl, pr, o, f, wl, wr⟩ := wz
      refine ⟨_, rfl, z, _, dx, _, _, rfl, o, cl, no_Way_left T, wf_left, rfl, _, rfl, ?_⟩
      refine iteF ⟨_, rfl, bitC b, _, rfl, rfl, _, rfl, ?_⟩
      rw [decide_eq_true (sg_bits b)]
      refine iteF ⟨_, rfl, rfl, _, rfl, ?_⟩
      have e1 : decide (V.str (S [bitC b]) = V.str ("0" : Str)) = !b := sg_zero b
      cases b with
      | false =>
        refine (if_pos (by rw [show (if false = true then 49 else 48) = bitC false from rfl]; exact e1)).mpr ?_
        exact ⟨_, rfl, z, _, dx, _, _, rfl, o, cl, no_Way_left T, wf_left, rfl, pl, l, _, wl, hp, rfl⟩
      | true =>
        refine (if_neg (by rw [show (if true = true then 49 else 48) = bitC true from rfl, e1]; decide)).mpr ?_
        exact ⟨_, rfl, z, _, dx, _, _, rfl, o, cl, no_Way_right T, wf_right, rfl, pr, r, _, wr, hp, rfl⟩
  · rintro σ H1 ⟨rfl, z, u', v, wz, hp, rfl⟩
    have e : q.drop (signs (pth q)).length = [] := List.drop_eq_nil_of_le (by simp [signs, pth])
    rw [e] at hp
    simp [part] at hp
    subst hp
    exact ⟨_, rfl, k z wz⟩
def pm_put (K : PySem.W.Frag) (n : Nat) : Pm := fun vs H Q => ∃ p t q u o v, vs = [.ref p, .str (S (pth q)), .ref o] ∧ WayAt K H p t ∧ WayAt K H o v ∧ part t q = some u ∧ Sm t ∧ Sm (put t q v) ∧ q.length < n ∧
  ∀ z H', Same H H' → WayAt K H' z (put t q v) → Q (.ref z) H'
theorem ok_put (T : Txt K mg) : ∀ n : Nat, Ok P w K mg base (n + 133) (a_Way_put K) (pm_put K n)
  | 0 => no_calls fun vs H Q ⟨_, _, _, _, _, _, _, _, _, _, _, _, h, _⟩ => Nat.not_lt_zero _ h
  | n + 1 => by
    have G := ok_put T n
    have GP : Ok P w K mg base 1 (a_Way_part K) (pm_part K) := ok_part T
    have GM : Ok P w K mg base 132 (a_Way_mul K) (pm_wmul K) := ok_wmul T
    have cl := cl_Way T
    refine ok_of (F_Way_put T) cWay_put b_Way_put (fun vs H Q h => ?_) (fun cdv A outer s H vs Q E hr h => ?_)
    · obtain ⟨p, t, q, u, o, v, rfl, _⟩ := h
      rfl
    obtain ⟨p, t, q, u, o, v, rfl, hw, ho, hu, st, sp, hn, k⟩ := h
    refine ⟨_, pss_cons (ps_expr (e_meth (pv 0) cl (m_Way_part T) GP hr (by omega) (pa_cons (pv 1) pa_nil)))
      (pss_cons (ps_if (pt_cmpR op_eq (pv 1) pe_str (nomark _)) (pss_one (ps_ret (pv 2))) pss_nil)
      (pss_cons (ps_if (pt_cmpR op_eq (pe_item_str (pv 1) pe_int (fun _ _ => rfl)) pe_str (nomark _))
        (pss_one (ps_ret (pe_op (o_mul GM (m_Way_mul T) (sf_Way T) hr (by omega)) (e_meth (pe_fld (pv 0) rfl) cl (m_Way_put T) G hr (Nat.le_refl _) (pa_cons (pe_slice C8.sl_txt (pv 1) (po_some pe_int) po_none) (pa_cons (pv 2) pa_nil))) (pe_fld (pv 0) rfl))))
        pss_nil)
      (pss_one (ps_ret (pe_op (o_mul GM (m_Way_mul T) (sf_Way T) hr (by omega)) (pe_fld (pv 0) rfl) (e_meth (pe_fld (pv 0) rfl) cl (m_Way_put T) G hr (Nat.le_refl _) (pa_cons (pe_slice C8.sl_txt (pv 1) (po_some pe_int) po_none) (pa_cons (pv 2) pa_nil))))))))
      , ?_⟩
    obtain ⟨d0, t0, m0, a0, b0, o0, f0⟩ := hw.obj
    have hq : (S (pth q)).length ≤ sizeLine := by rw [S_len, pth_len]; exact small_len (by have := part_depth hu; have := st.depth; omega)
    refine ⟨_, rfl, p, d0, _, rfl, o0, wf_part, _, rfl, p, t, q, u, rfl, hw, hu, fun _ _ => ?_⟩
    refine ⟨_, rfl, rfl, _, rfl, ?_⟩
    have e0 : decide (V.str (S (pth q)) = V.str ("" : Str)) = decide (q = []) := by
      rw [empty_S, dec_S]
      refine decide_eq_decide.mpr ⟨fun e => ?_, fun e => by rw [e]; rfl⟩
      exact List.length_eq_zero_iff.mp (by rw [← pth_len, e]; rfl)
    rw [e0]
    cases q with
    | nil =>
      refine iteT ⟨_, rfl, k o _ (Same.refl _) ?_⟩
      cases t <;> exact ho
    | cons b q =>
      refine iteF ?_
      cases t with
      | lf x => simp [part] at hu
      | nd l r =>
        obtain ⟨dx, lt, pl, pr, o1, f1, wl, wr⟩ := hw
        have st' : l.size + r.size ≤ 64 := st
        have sl : Sm l := by show l.size ≤ 64; omega
        have sr : Sm r := by show r.size ≤ 64; omega
        obtain ⟨d1, t1, m1, a1, b1, ol, fl⟩ := wl.obj
        obtain ⟨d2, t2, m2, a2, b2, or, fr⟩ := wr.obj
        have hn' : q.length < n := by simpa using hn
        have es : Txt.slice (S (pth (b :: q))) (some 1) none = S (pth q) := from_app [bitC b] (pth q) rfl
        refine ⟨_, rfl, _, _, bitC b, rfl, rfl, by decide, by decide, by rw [S_len, pth_len]; simp, get_S (i := 0) (by simp [pth_cons]), rfl, _, rfl, ?_⟩
        have e1 : decide (V.str (⟨#[bitC b]⟩ : Str) = V.str ("0" : Str)) = !b := sg_zero b
        rw [e1]
        cases b with
        | false =>
          have hu' : part l q = some u := hu
          have sp' : (put l q v).size + r.size ≤ 64 := sp
          refine iteT ⟨_, rfl, p, _, dx, _, _, rfl, o1, cl, no_Way_left T, wf_left, pl, d1, _, rfl, ol, wf_put, ?_⟩
          refine ⟨_, rfl, _, rfl, _, rfl, hq, _, rfl, pl, l, q, u, o, v, by rw [es], wl, ho, hu', sl, by show (put l q v).size ≤ 64; omega, hn', fun z1 H1 s1 w1 => ?_⟩
          refine ⟨_, rfl, p, _, dx, _, _, rfl, s1 _ _ o1, cl, no_Way_right T, wf_right, z1, pr, rfl, rfl, w1.is, (wr.gr (.of s1)).is, ?_⟩
          exact ⟨z1, pr, _, _, rfl, w1, wr.gr (.of s1), sp, fun z2 H2 s2 w2 => k z2 H2 (s1.trans s2) w2⟩
        | true =>
          have hu' : part r q = some u := hu
          have sp' : l.size + (put r q v).size ≤ 64 := sp
          refine iteF ⟨_, rfl, p, _, dx, _, _, rfl, o1, cl, no_Way_left T, wf_left, ?_⟩
          refine ⟨_, rfl, p, _, dx, _, _, rfl, o1, cl, no_Way_right T, wf_right, pr, d2, _, rfl, or, wf_put, ?_⟩
          refine ⟨_, rfl, _, rfl, _, rfl, hq, _, rfl, pr, r, q, u, o, v, by rw [es], wr, ho, hu', sr, by show (put r q v).size ≤ 64; omega, hn', fun z1 H1 s1 w1 => ?_⟩
          refine ⟨pl, z1, rfl, rfl, (wl.gr (.of s1)).is, w1.is, ?_⟩
          exact ⟨pl, z1, _, _, rfl, wl.gr (.of s1), w1, sp, fun z2 H2 s2 w2 => k z2 H2 (s1.trans s2) w2⟩
end
end NL
set_option Elab.async false
set_option linter.all false
set_option maxRecDepth 100000
set_option maxHeartbeats 4000000
/-! merged, band_form. -/
namespace NL
open PySem PySem.Spec PyProof.Rows L2 SX LamX
/-- texts in a list, as data -/
def dTx (l : List Str) : PyData := .list (l.map PyData.str)
theorem dpAll_str {K : PySem.W.Frag} {H : Hp} : ∀ l : List Str, DpAll K H (l.map V.str) (l.map PyData.str)
  | [] => .nil
  | x :: l => .cons (.str x) (dpAll_str l)
theorem dp_tx {K : PySem.W.Frag} {H : Hp} {p : Addr} {l : List Str} (h : SqL K H p (l.map V.str)) : Dp K H (.ref p) (dTx l) := .lst h (dpAll_str l)
theorem eqv_tx : ∀ l m : List Str, PyData.eqv (dTx l) (dTx m) = decide (l = m) := by
  have h : ∀ l m : List Str, PyData.eqvAll (l.map PyData.str) (m.map PyData.str) = decide (l = m) := by
    intro l
    induction l with
    | nil =>
      intro m
      cases m <;> simp [PyData.eqvAll]
    | cons x l ih =>
      intro m
      cases m with
      | nil => simp [PyData.eqvAll]
      | cons y m =>
        rw [List.map_cons, List.map_cons, PyData.eqvAll, ih]
        simp only [PyData.eqv]
        by_cases h1 : x = y <;> by_cases h2 : l = m <;> simp [h1, h2]
  intro l m
  unfold dTx
  rw [PyData.eqv]
  exact h l m
theorem shaped_tx {l : List Str} (h : ∀ x ∈ l, PyData.canLay0 (.str x) = true) : SeqAt.shaped (dTx l) = true := by
  have c : ∀ l : List Str, (∀ x ∈ l, PyData.canLay0 (.str x) = true) → PyData.canLayAll0 (l.map PyData.str) = true ∧ PyData.depthAll (l.map PyData.str) = 0 := by
    intro l
    induction l with
    | nil => exact fun _ => ⟨rfl, rfl⟩
    | cons x l ih =>
      intro h
      obtain ⟨h1, h2⟩ := ih fun y hy => h y (by simp [hy])
      rw [List.map_cons, PyData.canLayAll0, PyData.depthAll, h1, h2, h x (by simp)]
      exact ⟨rfl, rfl⟩
  obtain ⟨h1, h2⟩ := c l h
  unfold SeqAt.shaped dTx
  rw [PyData.canLay0, PyData.depth, h1, h2]
  rfl
theorem lay_leaf (x : L) : PyData.canLay0 (.str (leafS x)) = true := by
  cases x <;> decide +kernel
theorem shaped_leaf (u : List L) : SeqAt.shaped (dTx (u.map leafS)) = true := shaped_tx fun x hx => by
  obtain ⟨y, _, rfl⟩ := List.mem_map.mp hx
  exact lay_leaf y
section
variable {P : Program} {w : World} {K : PySem.W.Frag} {mg : Str → Option Value} {base : Heap}
theorem leafS_map_inj : ∀ {u v : List L}, u.map leafS = v.map leafS → u = v
  | [], [], _ => rfl
  | [], _ :: _, h => by simp at h
  | _ :: _, [], h => by simp at h
  | x :: u, y :: v, h => by
    simp only [List.map_cons, List.cons.injEq] at h
    rw [leafS_inj h.1, leafS_map_inj h.2]
def pm_merged (K : PySem.W.Frag) : Pm := fun vs H Q => ∃ p q u v, vs = [.ref p, .ref q] ∧ H p = some (lst u) ∧ H q = some (lst v) ∧ u.length ≤ 200 ∧ v.length ≤ 200 ∧ ∀ H' t, Same H H' → H t = none → H' t = some (lst (merged u v)) → Q (.ref t) H'
theorem ok_merged (T : Txt K mg) : Ok P w K mg base 1 (a_merged K) (pm_merged K) := by
  refine ok_of (F_merged T) cmerged b_merged (fun vs H Q h => ?_) (fun cdv A outer s H vs Q E hr h => ?_)
  · obtain ⟨p, q, u, v, rfl, _⟩ := h
    rfl
  obtain ⟨p, q, u, v, rfl, hp, hq, lu, lv, k⟩ := h
  refine ⟨_, pss_cons (ps_for PassesOwn.never rfl (pi_revR (by rfl) (z_reversed T) (prg_1 (by rfl) (z_range T) (pe_add (pe_callB (call_min2 rfl) (by rfl) (z_min T) (by decide +kernel) (pa_cons (pe_callB call_len_seq (by rfl) (z_len T) PySem.boot_len (pa_cons (pv 0) pa_nil)) (pa_cons (pe_callB call_len_seq (by rfl) (z_len T) PySem.boot_len (pa_cons (pv 1) pa_nil)) pa_nil))) pe_int))) (pg_name (i := 2) cmerged.nd rfl (.inl rfl))
      (pss_one (ps_if (pt_cmpR (op_eqD hr.units) (pe_slice sl_list (pv 0) (po_some (pe_sub (pe_callB call_len_seq (by rfl) (z_len T) PySem.boot_len (pa_cons (pv 0) pa_nil)) (pv 2))) po_none) (pe_slice sl_list (pv 1) po_none (po_some (pv 2))) (nomark _))
        (pss_one (ps_ret (pe_op op_cat (pv 0) (pe_slice sl_list (pv 1) (po_some (pv 2)) po_none)))) pss_nil)))
    (pss_one (ps_ret (pe_op op_cat (pv 0) (pv 1)))), ?_⟩
  have lu' : (u.map leafV).length = u.length := by simp
  have lv' : (v.map leafV).length = v.length := by simp
  refine ⟨_, rfl, p, _, rfl, .inl (SqL.of hp), _, rfl, q, _, rfl, .inl (SqL.of hq), _, _, rfl, _, _, rfl, rfl, _, rfl, ?_⟩
  rw [lu', lv']
  have em : (if (v.length : Int) < (u.length : Int) then (v.length : Int) else (u.length : Int)) = ((min u.length v.length : Nat) : Int) := by
    split <;> omega
  rw [em]
  generalize hm : min u.length v.length = m
  have mu : m ≤ u.length := by omega
  have mv : m ≤ v.length := by omega
  have e0 : merged u v = mergeK u v m := by
    unfold merged
    rw [hm]
  refine ⟨by omega, by omega, by omega, by omega, ?_⟩
  refine for_it walk_rangeC (fun i σ H' => Same H H' ∧ i ≤ m ∧ merged u v = mergeK u v (m - i) ∧ ∃ x, σ = [some (.ref p), some (.ref q), x]) ⟨Same.refl H, Nat.zero_le _, e0, _, rfl⟩ (fun _ _ _ _ _ => trivial) ?_ ?_
  · rintro i x σ H0 H1 hi ⟨s1, im, ek, x0, rfl⟩ ⟨rfl, hx⟩
    have hp1 := s1 _ _ hp
    have hq1 := s1 _ _ hq
    generalize hk : m - i = j at ek
    have ex : (0 : Int) + ((((m : Int) + 1 - 0).toNat : Nat) : Int) - 1 + (i : Int) * (-1) = (j : Int) := by omega
    have hx : x = V.int (j : Int) := hx.trans (congrArg V.int ex)
    subst hx
    have ju : j ≤ u.length := by omega
    have jv : j ≤ v.length := by omega
    refine ⟨_, rfl, _, rfl, p, _, rfl, .inl (SqL.of hp1), _, rfl, _, _, rfl, rfl, _, rfl, p, _, rfl, SqL.of hp1, fun c nc => ?_⟩
    have hq2 : ∀ o, (upd H1 c o) q = some (lst v) := fun o => by rw [upd_ne (ne_of_none hq1 nc)]; exact hq1
    refine ⟨_, rfl, _, rfl, _, rfl, q, _, rfl, SqL.of (hq2 _), fun d nd => ?_⟩
    rw [lu', show ((u.length : Int) - (j : Int)) = ((u.length - j : Nat) : Int) by omega, cut_drop (by rw [lu']; omega), cut_take (by rw [lv']; exact jv), ← List.map_drop, ← List.map_take, ← leaf_map, ← leaf_map]
    rw [lu', show ((u.length : Int) - (j : Int)) = ((u.length - j : Nat) : Int) by omega, cut_drop (by rw [lu']; omega), ← List.map_drop, ← leaf_map] at nd
    refine ⟨_, _, dp_tx (SqL.of (by rw [upd_ne (ne_of_none (upd_same (o := _)) nd), upd_same])), dp_tx (SqL.of upd_same), shaped_leaf _, shaped_leaf _, _, rfl, ?_⟩
    rw [eqv_tx]
    have ed : decide ((u.drop (u.length - j)).map leafS = (v.take j).map leafS) = decide (u.drop (u.length - j) = v.take j) := decide_eq_decide.mpr ⟨leafS_map_inj, fun z => by rw [z]⟩
    rw [ed]
    have s3 : ∀ H', Same H1 H' → Same H H' := fun H' s => s1.trans s
    generalize hH : upd (upd H1 c _) d _ = H3
    have s4 : Same H1 H3 := by
      rw [← hH]
      exact Same.upd (same_upd nc) nd
    by_cases hb : u.drop (u.length - j) = v.take j
    · rw [decide_eq_true hb]
      refine iteT ?_
      refine ⟨_, rfl, _, rfl, _, rfl, _, rfl, q, _, rfl, SqL.of (s4 _ _ hq1), fun e ne => ?_⟩
      refine ⟨p, e, u.map leafV, _, rfl, rfl, ?_, upd_same, ?_, fun t nt => ?_⟩
      · rw [upd_ne (ne_of_none (s4 _ _ hp1) ne)]
        exact s4 _ _ hp1
      · rw [lu', cut_drop (by rw [lv']; exact jv), List.length_drop, lv']
        exact small_len (by omega)
      · have em : merged u v = u ++ v.drop j := by
          rw [ek]
          cases j with
          | zero => simp [mergeK]
          | succ j => rw [mergeK, if_pos hb]
        refine k _ t (fun b o x => Same.upd (same_upd ne) nt b o (s4 b o (s1 b o x))) ?_ ?_
        · exact Same.none s1 (Same.none (fun b o x => same_upd ne b o (s4 b o x)) nt)
        · rw [upd_same, em, cut_drop (by rw [lv']; exact jv), ← List.map_drop, ← List.map_append]
          rfl
    · rw [decide_eq_false hb]
      cases j with
      | zero => exact absurd (by simp) hb
      | succ j =>
        refine iteF ⟨fun b o e => s4 _ _ (s1 _ _ e), by omega, ?_, _, rfl⟩
        rw [ek, mergeK, if_neg hb]
        congr 1
        omega
  · rintro σ H1 ⟨s1, im, ek, x0, rfl⟩
    have : ((m : Int) + 1 - 0).toNat = m + 1 := by omega
    omega
def pm_band (K : PySem.W.Frag) (n : Nat) : Pm := fun vs H Q => ∃ p u, vs = [.ref p] ∧ H p = some (lst u) ∧ u ≠ [] ∧ u.length < n ∧ u.length ≤ 100 ∧ ∀ H' t, Same H H' → H t = none → H' t = some (lst (band u)) → Q (.ref t) H'
theorem ok_band (T : Txt K mg) : ∀ n : Nat, Ok P w K mg base (n + 4) (a_band_form K) (pm_band K n)
  | 0 => no_calls fun vs H Q ⟨p, u, _, _, _, h, _⟩ => Nat.not_lt_zero _ h
  | n + 1 => by
    have G := ok_band T n
    have G1 : Ok P w K mg base 1 (a_different K) (pm_different K) := ok_different T
    have G2 : Ok P w K mg base 2 (a_beginning K) (pm_beginning K) := ok_beginning T
    have G3 : Ok P w K mg base 3 (a_ending K) (pm_ending K) := ok_ending T
    have G4 : Ok P w K mg base 1 (a_merged K) (pm_merged K) := ok_merged T
    refine ok_of (F_band_form T) cband_form b_band_form (fun vs H Q h => ?_) (fun cdv A outer s H vs Q E hr h => ?_)
    · obtain ⟨p, u, rfl, _⟩ := h
      rfl
    obtain ⟨p, u, rfl, hp, hne, hn, hz, k⟩ := h
    refine ⟨_, pss_cons (ps_if (pt_cmpR op_eq (e_call G1 hr (by omega) (g_different T) (k_different T) (pa_cons (pv 0) pa_nil)) pe_int (nomark _)) (pss_one (ps_ret (pe_lst (pa_cons (pe_ix ix_list (pv 0) pe_int (fun _ _ => rfl)) pa_nil)))) pss_nil)
      (pss_cons (ps_asg (e_call G2 hr (by omega) (g_beginning T) (k_beginning T) (pa_cons (pv 0) pa_nil)) (pg_tup rfl (pgs_cons (pg_name (i := 1) cband_form.nd rfl (.inl rfl)) (pgs_cons (pg_name (i := 2) cband_form.nd rfl (.inl rfl)) pgs_nil))))
      (pss_cons (ps_asg (e_call G3 hr (by omega) (g_ending T) (k_ending T) (pa_cons (pv 0) pa_nil)) (pg_tup rfl (pgs_cons (pg_name (i := 3) cband_form.nd rfl (.inl rfl)) (pgs_cons (pg_name (i := 4) cband_form.nd rfl (.inl rfl)) pgs_nil))))
      (pss_one (ps_ret (e_call G4 hr (by omega) (g_merged T) (k_merged T) (pa_cons (pe_op op_cat (e_call G hr (by omega) (g_band_form T) (k_band_form T) (pa_cons (pv 1) pa_nil)) (pe_lst (pa_cons (pv 2) pa_nil)))
        (pa_cons (pe_op op_cat (pe_lst (pa_cons (pv 3) pa_nil)) (e_call G hr (by omega) (g_band_form T) (k_band_form T) (pa_cons (pv 4) pa_nil))) pa_nil))))))), ?_⟩
    refine ⟨_, rfl, p, u, rfl, hp, hz, fun H1 s1 => ⟨rfl, _, rfl, ?_⟩⟩
    have ed : decide (V.int (dif u : Nat) = V.int 1) = decide (dif u = 1) := by
      refine decide_eq_decide.mpr ⟨fun z => ?_, fun z => by rw [z]; rfl⟩
      injection z with z
      omega
    rw [ed]
    have hp1 := s1 _ _ hp
    by_cases h1 : dif u = 1
    · rw [decide_eq_true h1]
      obtain ⟨x, hx⟩ : ∃ x, u[0]? = some x := ⟨_, List.getElem?_eq_getElem (List.length_pos_iff.mpr hne)⟩
      refine iteT ⟨_, rfl, p, _, 0, leafV x, rfl, rfl, SqL.of hp1, ?_, ?_⟩
      · exact atI_nat (j := 0) (by rw [List.getElem?_map, hx]; rfl)
      · refine ⟨(by show 1 ≤ sizeLine; decide), fun t nt => k _ t (Same.upd s1 nt) (Same.none s1 nt) ?_⟩
        rw [upd_same, band_one h1 hx]
        rfl
    rw [decide_eq_false h1]
    refine iteF ⟨_, rfl, p, u, rfl, hp1, hne, hz, fun H2 t q a r s2 hpre ht hq => ?_⟩
    refine ⟨t, _, rfl, SqT.of ht, rfl, _, _, rfl, _, _, rfl, rfl, ?_⟩
    have hp2 := s2 _ _ hp1
    refine ⟨_, rfl, p, u, rfl, hp2, hne, hz, fun H3 t3 q3 b c s3 hsuf ht3 hq3 => ?_⟩
    refine ⟨t3, _, rfl, SqT.of ht3, rfl, _, _, rfl, _, _, rfl, rfl, ?_⟩
    have lr := hpre.len
    have lc := hsuf.len
    refine ⟨_, rfl, q, r, rfl, s3 _ _ hq, pre_ne hpre h1, by omega, by omega, fun H4 f s4 nf hf => ?_⟩
    have b1 := band_len30 r
    have b2 := band_len30 c
    have l1 : ((band r).map leafV).length = (band r).length := by simp
    have l2 : ((band c).map leafV).length = (band c).length := by simp
    refine ⟨_, rfl, (by show 1 ≤ sizeLine; decide), fun g ng => ?_⟩
    have nfg : f ≠ g := ne_of_none hf ng
    refine ⟨f, g, _, _, rfl, rfl, by rw [upd_ne nfg]; exact hf, upd_same, by rw [l1]; exact small_len (by simp; omega), fun h0 nh0 => ?_⟩
    refine ⟨_, rfl, (by show 1 ≤ sizeLine; decide), fun g2 ng2 => ?_⟩
    have s6 : Same H4 (upd (upd (upd H4 g (.lst [leafV a])) h0 (.lst ((band r).map leafV ++ [leafV a]))) g2 (.lst [leafV b])) := Same.upd (Same.upd (same_upd ng) nh0) ng2
    refine ⟨_, rfl, q3, c, rfl, s6 _ _ (s4 _ _ hq3), suf_ne hsuf h1, by omega, by omega, fun H5 f2 s5 nf2 hf2 => ?_⟩
    have hg2 : H5 g2 = some (.lst [leafV b]) := s5 _ _ upd_same
    have hh0 : H5 h0 = some (lst (band r ++ [a])) := s5 _ _ (by
      rw [upd_ne (ne_of_none (upd_same (o := _)) ng2), upd_same]
      simp [lst])
    refine ⟨g2, f2, _, _, rfl, rfl, hg2, hf2, by rw [l2]; exact small_len (by simp; omega), fun h2 nh2 => ?_⟩
    refine ⟨h0, h2, band r ++ [a], b :: band c, rfl, by rw [upd_ne (ne_of_none hh0 nh2)]; exact hh0, by rw [upd_same]; rfl, by simp; omega, by simp; omega, fun H6 t' s7 nt' ht' => ?_⟩
    have e : band u = merged (band r ++ [a]) (b :: band c) := band_eq hpre hsuf
    have sA : Same H H4 := fun x o z => s4 x o (s3 x o (s2 x o (s1 x o z)))
    have sB : Same H (upd H5 h2 (.lst ([leafV b] ++ (band c).map leafV))) := Same.upd (fun x o z => s5 x o (s6 x o (sA x o z))) nh2
    rw [← e] at ht'
    exact k H6 t' (fun x o z => s7 x o (sB x o z)) (Same.none sB nt') ht'
end
end NL
set_option Elab.async false
set_option linter.all false
set_option maxRecDepth 100000
set_option maxHeartbeats 4000000
/-! tree_form. -/
namespace NL
open PySem PySem.Spec PyProof.Rows L2 SX LamX
theorem cA : ("A" : Str) = S [65] := by decide +kernel
theorem cC : ("C" : Str) = S [67] := by decide +kernel
theorem cI : ("I" : Str) = S [73] := by decide +kernel
theorem cU : ("U" : Str) = S [85] := by decide +kernel
theorem cZ : ("Z" : Str) = S [90] := by decide +kernel
theorem ce : ("e" : Str) = S (Tree.lf L.e).txt := by decide +kernel
theorem cz : ("z" : Str) = S (Tree.lf L.z).txt := by decide +kernel
section
variable (R : RS)
theorem has_a : decide (65 ∈ R.txt) = R.a := by obtain ⟨a, c, i, u, z⟩ := R; cases a <;> cases c <;> cases i <;> cases u <;> cases z <;> decide
theorem has_c : decide (67 ∈ R.txt) = R.c := by obtain ⟨a, c, i, u, z⟩ := R; cases a <;> cases c <;> cases i <;> cases u <;> cases z <;> decide
theorem has_i : decide (73 ∈ R.txt) = R.i := by obtain ⟨a, c, i, u, z⟩ := R; cases a <;> cases c <;> cases i <;> cases u <;> cases z <;> decide
theorem has_u : decide (85 ∈ R.txt) = R.u := by obtain ⟨a, c, i, u, z⟩ := R; cases a <;> cases c <;> cases i <;> cases u <;> cases z <;> decide
theorem has_z : decide (90 ∈ R.txt) = R.z := by obtain ⟨a, c, i, u, z⟩ := R; cases a <;> cases c <;> cases i <;> cases u <;> cases z <;> decide
end
theorem suff {N G : Prop} (f : N → G) (h : N) : G := f h
theorem joinF_size (R : RS) (f g : Tree) : (joinF R f g).size ≤ f.size + g.size := by
  have := f.size_pos
  have := g.size_pos
  unfold joinF
  split
  · simp only [Tree.size]; omega
  split
  · omega
  split
  · omega
  split
  · omega
  split
  · simp only [Tree.size]; omega
  · simp only [Tree.size]; omega
theorem tform_size (R : RS) : ∀ t : Tree, (tform R t).size ≤ t.size
  | .lf x => Nat.le_refl _
  | .nd l r => Nat.le_trans (joinF_size R _ _) (Nat.add_le_add (tform_size R l) (tform_size R r))
theorem tx_eq {s t : Tree} : decide (V.str (S s.txt) = V.str (S t.txt)) = decide (s = t) := decide_eq_decide.mpr ⟨fun h => Tree.txt_inj (V_str_inj h), fun h => by rw [h]⟩
section
variable {P : Program} {w : World} {K : PySem.W.Frag} {mg : Str → Option Value} {base : Heap}
/-- "A" in rules -/
theorem t_has {H : Hp} {r : Addr} {R : RS} {c : Nat} {b : Bool} {x : Str} {Q : VK} (hr : RulesAt K H r R) (hx : x = S [c]) (hb : decide (c ∈ R.txt) = b) (q : Q (.bl b) H) :
    ∃ a, V.ref r = .ref a ∧ Is (cRules K) H a ∧ pm_rcontains K [.ref a, .str x] H fun z H' => ∃ c, z = .bl c ∧ Q (.bl c) H' :=
  ⟨r, rfl, hr.is, r, c, R, by rw [hx], hr, _, rfl, by rw [hb]; exact q⟩
def pm_tf (K : PySem.W.Frag) (n : Nat) : Pm := fun vs H Q => ∃ p r t R, vs = [.ref p, .ref r] ∧ WayAt K H p t ∧ RulesAt K H r R ∧ Sm t ∧ t.depth < n ∧ Q (.str (S (tform R t).txt)) H
theorem ok_tf (T : Txt K mg) : ∀ n : Nat, Ok P w K mg base (n + 2) (a_tree_form K) (pm_tf K n)
  | 0 => no_calls fun vs H Q ⟨p, r, t, R, _, _, _, _, h, _⟩ => Nat.not_lt_zero _ h
  | n + 1 => by
    have G := ok_tf T n
    have GC : Ok P w K mg base 1 (a_Rules_contains K) (pm_rcontains K) := ok_rcontains T
    have mc := m_Rules_contains T
    refine ok_of (F_tree_form T) ctree_form b_tree_form (fun vs H Q h => ?_) (fun cdv A outer s H vs Q E hr h => ?_)
    · obtain ⟨p, r, t, R, rfl, _⟩ := h
      rfl
    obtain ⟨p, r, t, R, rfl, hw, hR, hs, hd, k⟩ := h
    refine ⟨_, pss_cons (ps_if (pt_cmpR op_isN (pe_fld (pv 0) rfl) pe_non (nomark _)) (pss_one (ps_ret (pe_fld (pv 0) rfl))) pss_nil)
      (pss_cons (ps_set (i := 2) ctree_form.nd rfl (.inl rfl) (e_call G hr (by omega) (g_tree_form T) (k_tree_form T) (pa_cons (pe_fld (pv 0) rfl) (pa_cons (pv 1) pa_nil))))
      (pss_cons (ps_set (i := 3) ctree_form.nd rfl (.inl rfl) (e_call G hr (by omega) (g_tree_form T) (k_tree_form T) (pa_cons (pe_fld (pv 0) rfl) (pa_cons (pv 1) pa_nil))))
      (pss_cons (ps_if (PW.pt (pw_and (pt_cmpR (o_in GC mc hr (by omega)) pe_str (pv 1) (by rfl)) (pw_and1 (PW.pt (pw_or (pt_cmpR op_eq (pv 2) pe_str (nomark _)) (pw_or1 (pt_cmpR op_eq (pv 3) pe_str (nomark _)))))))) (pss_one (ps_ret pe_str)) pss_nil)
      (pss_cons (ps_if (PW.pt (pw_and (pt_cmpR (o_in GC mc hr (by omega)) pe_str (pv 1) (by rfl)) (pw_and1 (pt_cmpR op_eq (pv 2) pe_str (nomark _))))) (pss_one (ps_ret (pv 3))) pss_nil)
      (pss_cons (ps_if (PW.pt (pw_and (pt_cmpR (o_in GC mc hr (by omega)) pe_str (pv 1) (by rfl)) (pw_and1 (pt_cmpR op_eq (pv 3) pe_str (nomark _))))) (pss_one (ps_ret (pv 2))) pss_nil)
      (pss_cons (ps_if (PW.pt (pw_and (pt_cmpR (o_in GC mc hr (by omega)) pe_str (pv 1) (by rfl)) (pw_and1 (pt_cmpR op_eq (pv 2) (pv 3) (nomark _))))) (pss_one (ps_ret (pv 2))) pss_nil)
      (pss_cons (ps_if (PW.pt (pw_and (pt_cmpR (o_in GC mc hr (by omega)) pe_str (pv 1) (by rfl)) (pw_and1 (pt_cmpR op_lt_str (pv 3) (pv 2) (nomark _))))) (pss_one (ps_ret (pe_joined (.cons pe_str (.cons (pe_fmt (pv 3)) (.cons pe_str (.cons (pe_fmt (pv 2)) (.cons pe_str .nil)))))))) pss_nil)
      (pss_one (ps_ret (pe_joined (.cons pe_str (.cons (pe_fmt (pv 2)) (.cons pe_str (.cons (pe_fmt (pv 3)) (.cons pe_str .nil))))))))))))))), ?_⟩
    cases t with
    | lf x =>
      obtain ⟨dx, lt, o, f⟩ := hw
      refine ⟨_, rfl, p, _, dx, _, _, rfl, o, cl_Way T, no_Way_left T, wf_left, rfl, _, rfl, ?_⟩
      exact iteT ⟨_, rfl, p, _, dx, _, _, rfl, o, cl_Way T, no_Way_name T, wf_name, k⟩
    | nd a b =>
      obtain ⟨dx, lt, pl, pr, o, f, wl, wr⟩ := hw
      refine ⟨_, rfl, p, _, dx, _, _, rfl, o, cl_Way T, no_Way_left T, wf_left, rfl, _, rfl, ?_⟩
      have hd' : max a.depth b.depth + 1 < n + 1 := hd
      have hs' : a.size + b.size ≤ 64 := hs
      have sa : Sm a := by show a.size ≤ 64; omega
      have sb : Sm b := by show b.size ≤ 64; omega
      refine iteF ⟨_, rfl, p, _, dx, _, _, rfl, o, cl_Way T, no_Way_left T, wf_left, _, rfl, pl, r, a, R, rfl, wl, hR, sa, by omega, ?_⟩
      refine ⟨_, rfl, p, _, dx, _, _, rfl, o, cl_Way T, no_Way_right T, wf_right, _, rfl, pr, r, b, R, rfl, wr, hR, sb, by omega, ?_⟩
      have fs := tform_size R a
      have gs := tform_size R b
      have kk : Q (.str (S (joinF R (tform R a) (tform R b)).txt)) H := k
      clear k
      generalize tform R a = f at fs kk ⊢
      generalize tform R b = g at gs kk ⊢
      have lf := f.txt_len
      have lg := g.txt_len
      unfold joinF at kk
      have dz : ∀ t : Tree, decide (V.str (S t.txt) = V.str ("z" : Str)) = decide (t = .lf .z) := fun t => by rw [cz, tx_eq]
      have de : ∀ t : Tree, decide (V.str (S t.txt) = V.str ("e" : Str)) = decide (t = .lf .e) := fun t => by rw [ce, tx_eq]
      refine ⟨_, rfl, r, rfl, hR.is, r, 90, R, by rw [cZ], hR, _, rfl, _, rfl, ?_⟩
      rw [has_z]
      by_cases h1 : R.z = true ∧ (f = .lf .z ∨ g = .lf .z)
      · rw [if_pos h1, ← cz] at kk
        rw [h1.1]
        refine iteT ⟨_, rfl, rfl, _, rfl, ?_⟩
        rw [dz]
        by_cases q1 : f = .lf .z
        · rw [decide_eq_true q1]
          exact iteT (iteT kk)
        · rw [decide_eq_false q1]
          refine iteF ⟨_, rfl, rfl, _, rfl, ?_⟩
          rw [dz, decide_eq_true (h1.2.resolve_left q1)]
          exact iteT kk
      rw [if_neg h1] at kk
      refine' suff (fun hN => ?goA) ?goB
      case goA =>
        cases hz : R.z with
        | false => exact iteF (iteF hN)
        | true =>
          refine iteT ⟨_, rfl, rfl, _, rfl, ?_⟩
          rw [dz, decide_eq_false fun q => h1 ⟨hz, .inl q⟩]
          refine iteF ⟨_, rfl, rfl, _, rfl, ?_⟩
          rw [dz, decide_eq_false fun q => h1 ⟨hz, .inr q⟩]
          exact iteF hN
      case goB =>
      refine ⟨_, rfl, r, rfl, hR.is, r, 85, R, by rw [cU], hR, _, rfl, _, rfl, ?_⟩
      rw [has_u]
      by_cases h2 : R.u = true ∧ f = .lf .e
      · rw [if_pos h2] at kk
        rw [h2.1]
        refine iteT ⟨_, rfl, rfl, _, rfl, ?_⟩
        rw [de, decide_eq_true h2.2]
        exact iteT ⟨_, rfl, kk⟩
      rw [if_neg h2] at kk
      refine' suff (fun hN => ?goA) ?goB
      case goA =>
        cases hz : R.u with
        | false => exact iteF (iteF hN)
        | true =>
          refine iteT ⟨_, rfl, rfl, _, rfl, ?_⟩
          rw [de, decide_eq_false fun q => h2 ⟨hz, q⟩]
          exact iteF hN
      case goB =>
      refine ⟨_, rfl, r, rfl, hR.is, r, 85, R, by rw [cU], hR, _, rfl, _, rfl, ?_⟩
      rw [has_u]
      by_cases h3 : R.u = true ∧ g = .lf .e
      · rw [if_pos h3] at kk
        rw [h3.1]
        refine iteT ⟨_, rfl, rfl, _, rfl, ?_⟩
        rw [de, decide_eq_true h3.2]
        exact iteT ⟨_, rfl, kk⟩
      rw [if_neg h3] at kk
      refine' suff (fun hN => ?goA) ?goB
      case goA =>
        cases hz : R.u with
        | false => exact iteF (iteF hN)
        | true =>
          refine iteT ⟨_, rfl, rfl, _, rfl, ?_⟩
          rw [de, decide_eq_false fun q => h3 ⟨hz, q⟩]
          exact iteF hN
      case goB =>
      refine ⟨_, rfl, r, rfl, hR.is, r, 73, R, by rw [cI], hR, _, rfl, _, rfl, ?_⟩
      rw [has_i]
      by_cases h4 : R.i = true ∧ f = g
      · rw [if_pos h4] at kk
        rw [h4.1]
        refine iteT ⟨_, rfl, _, rfl, rfl, _, rfl, ?_⟩
        rw [tx_eq, decide_eq_true h4.2]
        exact iteT ⟨_, rfl, kk⟩
      rw [if_neg h4] at kk
      refine' suff (fun hN => ?goA) ?goB
      case goA =>
        cases hz : R.i with
        | false => exact iteF (iteF hN)
        | true =>
          refine iteT ⟨_, rfl, _, rfl, rfl, _, rfl, ?_⟩
          rw [tx_eq, decide_eq_false fun q => h4 ⟨hz, q⟩]
          exact iteF hN
      case goB =>
      have join : ∀ (a b : Tree) (σ : L2.St), a.size + b.size ≤ 64 → True := fun _ _ _ _ => trivial
      refine ⟨_, rfl, r, rfl, hR.is, r, 67, R, by rw [cC], hR, _, rfl, _, rfl, ?_⟩
      rw [has_c]
      have ec : decide ((S g.txt).cps.toList < (S f.txt).cps.toList) = ltx g f := by
        rw [S_cps, S_cps]
        rfl
      have e1 : Str.empty ++ ("(" : Str) = S [40] := by decide +kernel
      have e2 : (" " : Str) = S [32] := by decide +kernel
      have e3 : (")" : Str) = S [41] := by decide +kernel
      by_cases h5 : R.c = true ∧ ltx g f = true
      · rw [if_pos h5] at kk
        rw [h5.1]
        refine iteT ⟨_, rfl, _, rfl, _, _, rfl, rfl, _, rfl, ?_⟩
        rw [ec, h5.2]
        refine iteT ?_
        refine ⟨_, rfl, by decide, ?_⟩
        rw [e1]
        refine ⟨_, rfl, .inl ⟨_, rfl, by rw [S_len]; exact small_len (by omega), _, rfl, by rw [S_cat, S_len]; exact small_len (by simp; omega), ?_⟩⟩
        rw [S_cat, e2]
        refine ⟨_, rfl, by rw [S_cat, S_len]; exact small_len (by simp; omega), ?_⟩
        rw [S_cat]
        refine ⟨_, rfl, .inl ⟨_, rfl, by rw [S_len]; exact small_len (by omega), _, rfl, by rw [S_cat, S_len]; exact small_len (by simp; omega), ?_⟩⟩
        rw [S_cat, e3]
        refine ⟨_, rfl, by rw [S_cat, S_len]; exact small_len (by simp; omega), ?_⟩
        rw [S_cat]
        rw [show ([40] ++ g.txt ++ [32] ++ f.txt ++ [41] : List Nat) = (Tree.nd g f).txt by simp [Tree.txt]]
        exact kk
      rw [if_neg h5] at kk
      refine' suff (fun hN => ?goA) ?goB
      case goA =>
        cases hz : R.c with
        | false => exact iteF (iteF hN)
        | true =>
          refine iteT ⟨_, rfl, _, rfl, _, _, rfl, rfl, _, rfl, ?_⟩
          rw [ec]
          cases hl : ltx g f with
          | true => exact absurd ⟨hz, hl⟩ h5
          | false => exact iteF hN
      case goB =>
        refine ⟨_, rfl, by decide, ?_⟩
        rw [e1]
        refine ⟨_, rfl, .inl ⟨_, rfl, by rw [S_len]; exact small_len (by omega), _, rfl, by rw [S_cat, S_len]; exact small_len (by simp; omega), ?_⟩⟩
        rw [S_cat, e2]
        refine ⟨_, rfl, by rw [S_cat, S_len]; exact small_len (by simp; omega), ?_⟩
        rw [S_cat]
        refine ⟨_, rfl, .inl ⟨_, rfl, by rw [S_len]; exact small_len (by omega), _, rfl, by rw [S_cat, S_len]; exact small_len (by simp; omega), ?_⟩⟩
        rw [S_cat, e3]
        refine ⟨_, rfl, by rw [S_cat, S_len]; exact small_len (by simp; omega), ?_⟩
        rw [S_cat]
        rw [show ([40] ++ f.txt ++ [32] ++ g.txt ++ [41] : List Nat) = (Tree.nd f g).txt by simp [Tree.txt]]
        exact kk
end
end NL
set_option Elab.async false
set_option linter.all false
set_option maxRecDepth 100000
set_option maxHeartbeats 4000000
/-! word_form, plain. -/
namespace NL
open PySem PySem.Spec PyProof.Rows L2 SX LamX
/-! ### sorted words -/
def leS (a b : Str) : Prop := a.cps.toList ≤ b.cps.toList
theorem leS_anti {a b : Str} (h1 : leS a b) (h2 : leS b a) : a = b := by
  have e : a.cps.toList = b.cps.toList := List.le_antisymm h1 h2
  obtain ⟨x⟩ := a
  obtain ⟨y⟩ := b
  have : x = y := Array.toList_inj.mp e
  rw [this]
theorem sorted_uniq {l m : List Str} (h1 : l.Pairwise leS) (h2 : m.Pairwise leS) (p : l.Perm m) : l = m := List.Perm.eq_of_pairwise (fun a b _ _ => leS_anti) h1 h2 p
theorem rising : ∀ {l : List Str}, sortedS l = true → l.Pairwise leS := by
  have h : ∀ (l : List Str) (p : Str), risingS p l = true → (∀ x ∈ l, leS p x) ∧ l.Pairwise leS := by
    intro l
    induction l with
    | nil => exact fun p _ => ⟨by simp, .nil⟩
    | cons x l ih =>
      intro p hp
      unfold risingS at hp
      simp only [Bool.and_eq_true, Bool.not_eq_true'] at hp
      obtain ⟨h1, h2⟩ := ih x hp.2
      have h3 : leS p x := by
        have : ltCps x.cps.toList p.cps.toList = false := hp.1
        rw [ltCps_eq] at this
        exact List.not_lt.mp (of_decide_eq_false this)
      refine ⟨fun y hy => ?_, List.pairwise_cons.mpr ⟨h1, h2⟩⟩
      rcases List.mem_cons.mp hy with z | z
      · exact z ▸ h3
      · exact List.le_trans h3 (h1 y z)
  intro l hl
  cases l with
  | nil => exact .nil
  | cons x l =>
    obtain ⟨h1, h2⟩ := h l x hl
    exact List.pairwise_cons.mpr ⟨h1, h2⟩
theorem leaf_le {x y : L} (h : x.code ≤ y.code) : leS (leafS x) (leafS y) := by
  unfold leS leafS
  rw [S_cps, S_cps]
  cases x <;> cases y <;> first | decide | exact absurd h (by decide)
theorem setL_sorted (u : List L) : ((setL u).map leafS).Pairwise leS := by
  refine List.Pairwise.map (R := fun a b => a.code ≤ b.code) _ (fun a b h => leaf_le h) ?_
  unfold setL
  exact List.Pairwise.filter _ (by decide)
theorem sortL_sorted (u : List L) : ((sortL u).map leafS).Pairwise leS := by
  refine List.Pairwise.map (R := fun a b => a.code ≤ b.code) _ (fun a b h => leaf_le h) ?_
  unfold sortL
  have rp : ∀ (n : Nat) (x : L), (List.replicate n x).Pairwise fun a b => a.code ≤ b.code := fun n x => by
    rw [List.pairwise_replicate]
    exact .inr (Nat.le_refl _)
  have mm : ∀ {n : Nat} {x y : L}, y ∈ List.replicate n x → y = x := fun h => (List.mem_replicate.mp h).2
  refine List.pairwise_append.mpr ⟨rp _ _, List.pairwise_append.mpr ⟨rp _ _, List.pairwise_append.mpr ⟨rp _ _, rp _ _, ?_⟩, ?_⟩, ?_⟩
  · intro a ha b hb
    rw [mm ha, mm hb]
    decide
  · intro a ha b hb
    rw [mm ha]
    rcases List.mem_append.mp hb with h | h <;> rw [mm h] <;> decide
  · intro a ha b hb
    rw [mm ha]
    rcases List.mem_append.mp hb with h | h
    · rw [mm h]; decide
    · rcases List.mem_append.mp h with h | h <;> rw [mm h] <;> decide
theorem to_setL {m : List Str} {l : List Str} {u : List L} (h : m.Pairwise leS) (p : m.Perm l) (nd : l.Nodup) (e : ∀ z, z ∈ l ↔ z ∈ u.map leafS) : m = (setL u).map leafS := by
  refine sorted_uniq h (setL_sorted u) (p.trans ?_)
  refine (List.perm_ext_iff_of_nodup nd ?_).mpr fun z => ?_
  · refine List.Pairwise.map (R := fun a b => a ≠ b) _ (fun a b hab e => hab (leafS_inj e)) ?_
    unfold setL
    exact List.Pairwise.filter _ (show [L.a, L.b, L.e, L.z].Nodup from by decide)
  · rw [e, List.mem_map, List.mem_map]
    exact ⟨fun ⟨x, hx, e⟩ => ⟨x, (mem_setL u x).mpr hx, e⟩, fun ⟨x, hx, e⟩ => ⟨x, (mem_setL u x).mp hx, e⟩⟩
theorem to_sortL {m : List Str} {u : List L} (h : m.Pairwise leS) (p : m.Perm (u.map leafS)) : m = (sortL u).map leafS :=
  sorted_uniq h (sortL_sorted u) (p.trans ((perm_sortL u).map leafS))
/-- the words with blanks between -/
def jn (u : List L) : List Nat := TL.joinL [32] (u.map fun x => [x.code])
section
variable {P : Program} {w : World} {K : PySem.W.Frag} {mg : Str → Option Value} {base : Heap}
theorem any_tx {l : List Str} {x : Str} : ((l.map PyData.str).any fun z => PyData.eqv z (.str x)) = decide (x ∈ l) := by
  rw [List.any_map, Bool.eq_iff_iff, List.any_eq_true, decide_eq_true_eq]
  constructor
  · rintro ⟨y, hy, e⟩
    have e : (y == x) = true := by simpa [PyData.eqv] using e
    exact beq_iff_eq.mp e ▸ hy
  · exact fun h => ⟨x, h, by simp [PyData.eqv]⟩
theorem has_leaf {H : Hp} {p : Addr} {v : List L} {x : L} {y : Str} {Q : VK} (hp : H p = some (lst v)) (hy : y = leafS x) (q : Q (.bl (decide (x ∈ v))) H) : ∃ z, some (some (V.ref p)) = some (some z) ∧ rInD K (.str y) z H Q := by
  refine ⟨_, rfl, .str y, (v.map leafS).map PyData.str, .str y, .lst (xs := (v.map leafS).map V.str) (SqL.of (by rw [leaf_map]; exact hp)) (dpAll_str _), ?_, shaped_leaf v, ?_⟩
  · rw [hy]
    cases x <;> decide +kernel
  · rw [any_tx, hy, show decide (leafS x ∈ v.map leafS) = decide (x ∈ v) from decide_eq_decide.mpr mem_leafS]
    exact q
def pm_wf (K : PySem.W.Frag) : Pm := fun vs H Q => ∃ p r u R, vs = [.ref p, .ref r] ∧ H p = some (lst u) ∧ RulesAt K H r R ∧ u ≠ [] ∧ u.length ≤ 60 ∧ ∀ H' t, Same H H' → H' t = some (lst (wform R u)) → Q (.ref t) H'
theorem ok_wf (T : Txt K mg) : Ok P w K mg base 67 (a_word_form K) (pm_wf K) := by
  have GC : Ok P w K mg base 1 (a_Rules_contains K) (pm_rcontains K) := ok_rcontains T
  have GB : Ok P w K mg base 65 (a_band_form K) (pm_band K 61) := ok_band T 61
  have mc := m_Rules_contains T
  refine ok_of (F_word_form T) cword_form b_word_form (fun vs H Q h => ?_) (fun cdv A outer s H vs Q E hr h => ?_)
  · obtain ⟨p, r, u, R, rfl, _⟩ := h
    rfl
  obtain ⟨p, r, u, R, rfl, hp, hR, hne, hz, k⟩ := h
  have hu : (cxOf CX0 P w K mg base nword_form "word_form" (defScope sword_form) (a_word_form K) cdv A outer s H E).nox.A.units + 65 < cLine := by
    have := hr.un
    exact Nat.lt_of_le_of_lt (Nat.add_le_add_left (by omega) _) (Nat.lt_of_le_of_lt (Nat.le_of_eq (Nat.add_assoc _ _ _).symm) this)
  refine ⟨_, pss_cons (ps_if (PW.pt (pw_and (pt_cmpR (o_in GC mc hr (by omega)) pe_str (pv 1) (by rfl)) (pw_and1 (pt_cmpR (op_inD hu) pe_str (pv 0) (by rfl))))) (pss_one (ps_ret (pe_lst (pa_cons pe_str pa_nil)))) pss_nil)
    (pss_cons (ps_if (pt_cmpR (o_in GC mc hr (by omega)) pe_str (pv 1) (by rfl))
      (pss_cons (ps_setLc (i := 0) (own := [("leaf", 2)]) (g := gName 2) rfl cword_form.nd rfl rfl rfl (pi_list (pv 0)) (blkOk_by (N := nword_form) (sc := defScope sword_form) (by decide +kernel))
        (fun _ _ _ _ _ => pg_name (i := 2) cword_form.nd rfl (Or.inl rfl)) (fun _ _ _ _ _ => pts_one (pt_cmpR op_ne (pv 2) pe_str (nomark _))) (fun _ _ _ _ _ => pv 2))
      (pss_one (ps_if (pt_cmpR (op_eqD hr.units) (pv 0) (pe_lst pa_nil) (nomark _)) (pss_one (ps_ret (pe_lst (pa_cons pe_str pa_nil)))) pss_nil))) pss_nil)
    (pss_cons (ps_if (PW.pt (pw_and (pt_cmpR (o_in GC mc hr (by omega)) pe_str (pv 1) (by rfl)) (pw_and1 (pt_cmpR (o_in GC mc hr (by omega)) pe_str (pv 1) (by rfl)))))
      (pss_one (ps_ret (pe_callB (c_sortedSet rfl hr) (by rfl) (z_sorted T) (by decide +kernel) (pa_cons (pe_callTy (c_set rfl) (by rfl) (z_set T) (by decide +kernel) (pa_cons (pv 0) pa_nil)) pa_nil)))) pss_nil)
    (pss_cons (ps_if (pt_cmpR (o_in GC mc hr (by omega)) pe_str (pv 1) (by rfl)) (pss_one (ps_ret (pe_callB cr_sortedS (by rfl) (z_sorted T) (by decide +kernel) (pa_cons (pv 0) pa_nil)))) pss_nil)
    (pss_cons (ps_if (pt_cmpR (o_in GC mc hr (by omega)) pe_str (pv 1) (by rfl)) (pss_one (ps_ret (e_call GB hr (by omega) (g_band_form T) (k_band_form T) (pa_cons (pv 0) pa_nil)))) pss_nil)
    (pss_one (ps_ret (pv 0))))))), ?_⟩
  have sz : ("z" : Str) = leafS .z := by decide +kernel
  have se : ("e" : Str) = leafS .e := by decide +kernel
  have sm : ∀ {H' : Hp} {p' : Addr} {v : List L}, H' p' = some (lst v) → SqL K H' p' ((v.map leafS).map V.str) := fun h => SqL.of (by rw [leaf_map]; exact h)
  /- the end: the words in a list at p' -/
  have fin : ∀ (H' : Hp) (p' : Addr) (v : List L), Same H H' → H' p' = some (lst v) → v ≠ [] → v.length ≤ 60 → (∀ H2 t, Same H H2 → H2 t = some (lst (core R v)) → Q (.ref t) H2) → True := fun _ _ _ _ _ _ _ _ => trivial
  refine ⟨_, rfl, r, rfl, hR.is, r, 90, R, by rw [cZ], hR, _, rfl, _, rfl, ?_⟩
  rw [has_z]
  by_cases h1 : R.z = true ∧ L.z ∈ u
  · rw [h1.1]
    refine iteT (has_leaf hp sz ⟨_, rfl, ?_⟩)
    rw [decide_eq_true h1.2]
    refine iteT ⟨(by show 1 ≤ sizeLine; decide), fun t nt => k _ t (same_upd nt) ?_⟩
    rw [upd_same, sz]
    unfold wform
    rw [if_pos h1]
    rfl
  have kk : ∀ H' t, Same H H' → H' t = some (lst (if R.u = true then (if noE u = [] then [.e] else core R (noE u)) else core R u)) → Q (.ref t) H' := fun H' t s1 ht => k H' t s1 (by unfold wform; rw [if_neg h1]; exact ht)
  refine' suff (fun hN => ?goA) ?goB
  case goA =>
    cases hz : R.z with
    | false => exact iteF (iteF hN)
    | true =>
      refine iteT (has_leaf hp sz ⟨_, rfl, ?_⟩)
      rw [decide_eq_false fun q => h1 ⟨hz, q⟩]
      exact iteF hN
  case goB =>
  refine ⟨_, rfl, r, rfl, hR.is, r, 85, R, by rw [cU], hR, _, rfl, _, rfl, ?_⟩
  rw [has_u]
  cases hu' : R.u with
  | true =>
    rw [hu'] at kk
    refine iteT ⟨_, rfl, p, rfl, ⟨_, SqL.of hp⟩, fun D hD => ?_⟩
    refine lc_pure (walk_list (K := K) (a := p) (xs := u.map leafV)) (u.map fun x => if decide (x ≠ L.e) = true then some (leafV x) else none) (by simp) (by simp; omega) hD (fun H2 s2 => SqL.of (s2 _ _ hp)) ?_ ?_
    · intro i x o H2 R1 R0 hx ho s2 kR k0
      obtain ⟨y, e1, rfl⟩ := map_at' hx
      obtain ⟨y', e2, rfl⟩ := map_at' ho
      rw [e1] at e2
      cases e2
      refine ⟨rfl, _, rfl, rfl, _, rfl, ?_⟩
      have e : (!decide (leafV y = V.str ("e" : Str))) = decide (y ≠ L.e) := by
        rw [se]
        cases y <;> decide +kernel
      rw [e]
      cases hb : decide (y ≠ L.e) with
      | true => exact iteT ⟨_, rfl, kR _ _ (if_pos hb) (Same.refl _)⟩
      | false => exact iteF (k0 _ (if_neg (by rw [hb]; simp)) (Same.refl _))
    intro H2 s2 h2
    rw [filt_map (fun x : L => decide (x ≠ L.e))] at h2
    have h2 : H2 D = some (lst (noE u)) := h2
    have hR2 := hR.gr (.of s2)
    have kz : (noE u).length ≤ u.length := List.length_filter_le _ _
    refine ⟨_, rfl, Nat.zero_le _, fun c nc => ?_⟩
    have hD3 : (upd H2 c (.lst [])) D = some (lst (noE u)) := by
      rw [upd_ne (ne_of_none h2 nc)]
      exact h2
    refine ⟨_, _, dp_tx (sm hD3), dp_tx (l := []) (SqL.of upd_same), shaped_leaf _, by decide +kernel, _, rfl, ?_⟩
    rw [eqv_tx]
    have s3 : Same H (upd H2 c (.lst [])) := Same.upd s2 nc
    have hR3 := hR.gr (.of s3)
    by_cases hn : noE u = []
    · rw [if_pos rfl, if_pos hn] at kk
      rw [hn]
      refine iteT ⟨(by show 1 ≤ sizeLine; decide), fun t nt => kk _ t (Same.upd s3 nt) ?_⟩
      rw [upd_same, se]
      rfl
    rw [if_pos rfl, if_neg hn] at kk
    have kt : ∀ H' t, Same (upd H2 c (.lst [])) H' → H' t = some (lst (core R (noE u))) → Q (.ref t) H' := fun H' t s4 ht => kk H' t (fun b o x => s4 b o (s3 b o x)) ht
    rw [decide_eq_false (by simpa using hn)]
    refine iteF ?_
    refine ⟨_, rfl, r, rfl, hR3.is, r, 67, R, by rw [cC], hR3, _, rfl, _, rfl, ?_⟩
    rw [has_c]
    by_cases h5 : R.c = true ∧ R.i = true
    · rw [h5.1]
      refine iteT ⟨_, rfl, r, rfl, hR3.is, r, 73, R, by rw [cI], hR3, _, rfl, _, rfl, ?_⟩
      rw [has_i, h5.2]
      refine iteT ⟨_, rfl, D, (noE u).map leafS, rfl, sm hD3, by rw [List.length_map]; omega, fun a l na nl em nd => ?_⟩
      refine ⟨a, l, rfl, upd_same, by rw [List.length_map] at nl; omega, fun t m nt pm pw => ?_⟩
      refine kt _ t (Same.upd (same_upd na) nt) ?_
      rw [upd_same, to_setL (u := noE u) pw pm nd em, leaf_map]
      unfold core
      rw [if_pos h5]
      rfl
    refine' suff (fun hN => ?goA) ?goB
    case goA =>
      cases hz : R.c with
      | false => exact iteF (iteF hN)
      | true =>
        refine iteT ⟨_, rfl, r, rfl, hR3.is, r, 73, R, by rw [cI], hR3, _, rfl, _, rfl, ?_⟩
        rw [has_i]
        cases hi : R.i with
        | true => exact absurd ⟨hz, hi⟩ h5
        | false => exact iteF hN
    case goB =>
    refine ⟨_, rfl, r, rfl, hR3.is, r, 67, R, by rw [cC], hR3, _, rfl, _, rfl, ?_⟩
    rw [has_c]
    by_cases h6 : R.c = true
    · rw [h6]
      refine iteT ⟨_, rfl, D, (noE u).map leafS, rfl, sm hD3, by rw [List.length_map]; omega, fun m t pm so nt => ?_⟩
      refine kt _ t (same_upd nt) ?_
      rw [upd_same, to_sortL (u := noE u) (rising so) pm, leaf_map]
      unfold core
      rw [if_neg h5, if_pos h6]
      rfl
    rw [Bool.eq_false_iff.mpr h6]
    refine iteF ⟨_, rfl, r, rfl, hR3.is, r, 73, R, by rw [cI], hR3, _, rfl, _, rfl, ?_⟩
    rw [has_i]
    by_cases h7 : R.i = true
    · rw [h7]
      refine iteT ⟨_, rfl, D, noE u, rfl, hD3, hn, by omega, by omega, fun H3 t s3 nt ht => ?_⟩
      refine kt _ t s3 ?_
      rw [ht]
      unfold core
      rw [if_neg h5, if_neg h6, if_pos h7]
    rw [Bool.eq_false_iff.mpr h7]
    refine iteF ⟨_, rfl, ?_⟩
    refine kt _ D (Same.refl _) ?_
    rw [hD3]
    unfold core
    rw [if_neg h5, if_neg h6, if_neg h7]
  | false =>
    rw [hu'] at kk
    rw [if_neg (by simp)] at kk
    refine iteF ?_
    refine ⟨_, rfl, r, rfl, hR.is, r, 67, R, by rw [cC], hR, _, rfl, _, rfl, ?_⟩
    rw [has_c]
    by_cases h5 : R.c = true ∧ R.i = true
    · rw [h5.1]
      refine iteT ⟨_, rfl, r, rfl, hR.is, r, 73, R, by rw [cI], hR, _, rfl, _, rfl, ?_⟩
      rw [has_i, h5.2]
      refine iteT ⟨_, rfl, p, (u).map leafS, rfl, sm hp, by rw [List.length_map]; omega, fun a l na nl em nd => ?_⟩
      refine ⟨a, l, rfl, upd_same, by rw [List.length_map] at nl; omega, fun t m nt pm pw => ?_⟩
      refine kk _ t (Same.upd (same_upd na) nt) ?_
      rw [upd_same, to_setL (u := u) pw pm nd em, leaf_map]
      unfold core
      rw [if_pos h5]
      rfl
    refine' suff (fun hN => ?goA) ?goB
    case goA =>
      cases hz : R.c with
      | false => exact iteF (iteF hN)
      | true =>
        refine iteT ⟨_, rfl, r, rfl, hR.is, r, 73, R, by rw [cI], hR, _, rfl, _, rfl, ?_⟩
        rw [has_i]
        cases hi : R.i with
        | true => exact absurd ⟨hz, hi⟩ h5
        | false => exact iteF hN
    case goB =>
    refine ⟨_, rfl, r, rfl, hR.is, r, 67, R, by rw [cC], hR, _, rfl, _, rfl, ?_⟩
    rw [has_c]
    by_cases h6 : R.c = true
    · rw [h6]
      refine iteT ⟨_, rfl, p, (u).map leafS, rfl, sm hp, by rw [List.length_map]; omega, fun m t pm so nt => ?_⟩
      refine kk _ t (same_upd nt) ?_
      rw [upd_same, to_sortL (u := u) (rising so) pm, leaf_map]
      unfold core
      rw [if_neg h5, if_pos h6]
      rfl
    rw [Bool.eq_false_iff.mpr h6]
    refine iteF ⟨_, rfl, r, rfl, hR.is, r, 73, R, by rw [cI], hR, _, rfl, _, rfl, ?_⟩
    rw [has_i]
    by_cases h7 : R.i = true
    · rw [h7]
      refine iteT ⟨_, rfl, p, u, rfl, hp, hne, by omega, by omega, fun H3 t s3 nt ht => ?_⟩
      refine kk _ t s3 ?_
      rw [ht]
      unfold core
      rw [if_neg h5, if_neg h6, if_pos h7]
    rw [Bool.eq_false_iff.mpr h7]
    refine iteF ⟨_, rfl, ?_⟩
    refine kk _ p (Same.refl _) ?_
    rw [hp]
    unfold core
    rw [if_neg h5, if_neg h6, if_neg h7]
end
end NL
set_option Elab.async false
set_option linter.all false
set_option maxRecDepth 100000
set_option maxHeartbeats 4000000
/-! plain, alike, needed. -/
namespace NL
open PySem PySem.Spec PyProof.Rows L2 SX LamX
/-- the text of the plain form -/
def ptxt (R : RS) (t : Tree) : List Nat := if R.a = true then jn (wform R t.leaves) else (tform R t).txt
theorem jn_inj : ∀ {u v : List L}, jn u = jn v → u = v := by
  have c : ∀ x : L, x.code ≠ 32 := fun x => by cases x <;> decide
  have one : ∀ (x : L) (r : List L), jn (x :: r) = x.code :: (match r with | [] => [] | y :: q => 32 :: jn (y :: q)) := by
    intro x r
    cases r with
    | nil => rfl
    | cons y q => rfl
  intro u
  induction u with
  | nil =>
    intro v h
    cases v with
    | nil => rfl
    | cons y r =>
      rw [one] at h
      cases h
  | cons x u ih =>
    intro v h
    cases v with
    | nil =>
      rw [one] at h
      cases h
    | cons y v =>
      rw [one, one] at h
      injection h with h1 h2
      have e1 := L.code_inj h1
      subst e1
      cases u with
      | nil =>
        cases v with
        | nil => rfl
        | cons z v => cases h2
      | cons a u =>
        cases v with
        | nil => cases h2
        | cons z v =>
          injection h2 with _ h2
          rw [ih h2]
theorem ptxt_iff {R : RS} {s t : Tree} : ptxt R s = ptxt R t ↔ Alike R s t := by
  unfold ptxt Alike AlikeW
  split
  · exact ⟨jn_inj, fun h => by rw [h]⟩
  · exact ⟨Tree.txt_inj, fun h => by rw [h]⟩
theorem core_len {R : RS} {u : List L} (h : u.length ≤ 60) : (core R u).length ≤ 60 := by
  unfold core
  split
  · refine Nat.le_trans (show (setL u).length ≤ 4 from ?_) (by decide)
    unfold setL
    exact List.length_filter_le _ _
  split
  · rw [← (perm_sortL u).length_eq]
    exact h
  split
  · exact Nat.le_trans (band_len30 u) (by decide)
  · exact h
theorem wform_len {R : RS} {u : List L} (h : u.length ≤ 60) : (wform R u).length ≤ 60 := by
  unfold wform
  split
  · simp
  split
  · split
    · simp
    · exact core_len (Nat.le_trans (List.length_filter_le _ _) h)
  · exact core_len h
theorem jn_len (u : List L) : (jn u).length ≤ 2 * u.length := by
  induction u with
  | nil => exact Nat.le_refl 0
  | cons x u ih =>
    cases u with
    | nil => simp [jn, TL.joinL]
    | cons y u =>
      have e : jn (x :: y :: u) = x.code :: 32 :: jn (y :: u) := rfl
      rw [e]
      simp only [List.length_cons] at ih ⊢
      omega
theorem join_leaf (u : List L) : Txt.join (" " : Str) (u.map leafS) = S (jn u) := by
  have e : u.map leafS = (u.map fun x => [x.code]).map S := by
    rw [List.map_map]
    rfl
  have e2 : (" " : Str) = S [32] := by decide +kernel
  rw [e, e2, join_S]
  rfl
section
variable {P : Program} {w : World} {K : PySem.W.Frag} {mg : Str → Option Value} {base : Heap}
def pm_plain (K : PySem.W.Frag) : Pm := fun vs H Q => ∃ p r t R, vs = [.ref p, .ref r] ∧ WayAt K H p t ∧ RulesAt K H r R ∧ t.size ≤ 60 ∧ ∀ H', Same H H' → Q (.str (S (ptxt R t))) H'
theorem ok_plain (T : Txt K mg) : OkK P w K mg base 69 (a_plain K) ["rules"] (fun vs zs H Q => vs.length = 1 ∧ pm_plain K (vs ++ zs) H Q) := by
  have GC : Ok P w K mg base 1 (a_Rules_contains K) (pm_rcontains K) := ok_rcontains T
  have GT : Ok P w K mg base 66 (a_tree_form K) (pm_tf K 64) := ok_tf T 64
  have GW : Ok P w K mg base 67 (a_word_form K) (pm_wf K) := ok_wf T
  have mc := m_Rules_contains T
  refine okK_of (F_plain T) cplain b_plain (fun vs H Q h => ?_) (fun cdv A outer s H vs Q E hr h => ?_)
  · obtain ⟨p, r, t, R, rfl, _⟩ := h
    rfl
  obtain ⟨p, r, t, R, rfl, hw, hR, hs, k⟩ := h
  refine ⟨_, pss_cons (ps_if (pt_cmpR (o_in GC mc hr (by omega)) pe_str (pv 1) (by rfl))
      (pss_one (ps_ret (pe_join pe_str (e_call GW hr (by omega) (g_word_form T) (k_word_form T) (pa_cons (pe_callTy call_list_of (by rfl) (z_list T) (by decide +kernel) (pa_cons (pe_fld (pv 0) rfl) pa_nil)) (pa_cons (pv 1) pa_nil)))))) pss_nil)
    (pss_one (ps_ret (e_call GT hr (by omega) (g_tree_form T) (k_tree_form T) (pa_cons (pv 0) (pa_cons (pv 1) pa_nil))))), ?_⟩
  refine ⟨_, rfl, r, rfl, hR.is, r, 65, R, by rw [cA], hR, _, rfl, _, rfl, ?_⟩
  rw [has_a]
  cases ha : R.a with
  | false =>
    refine iteF ⟨_, rfl, _, rfl, p, r, t, R, rfl, hw, hR, by show t.size ≤ 64; omega, by have := t.depth_lt; omega, ?_⟩
    have := k H (Same.refl H)
    unfold ptxt at this
    rw [if_neg (by rw [ha]; simp)] at this
    exact this
  | true =>
    obtain ⟨dx, lt, nm, l, q, o, f⟩ := hw.obj
    have ll := t.leaves_len
    refine iteT ⟨⟨_, rfl⟩, _, rfl, p, _, dx, _, _, rfl, o, cl_Way T, no_Way_leaves T, wf_leaves, ?_⟩
    refine ⟨lt, _, rfl, .inr (SqT.of f), fun c nc => ?_⟩
    refine ⟨_, rfl, c, r, t.leaves, R, rfl, upd_same, hR.gr (.of (same_upd nc)), t.leaves_ne, by omega, fun H2 d s2 hd => ?_⟩
    have lw := wform_len (R := R) (u := t.leaves) (by omega)
    refine ⟨_, d, (wform R t.leaves).map leafS, rfl, rfl, .inl (SqL.of (by rw [leaf_map]; exact hd)), ?_, ?_⟩
    · have e : ∀ v : List L, ((v.map leafS).map (·.length)).sum = v.length := fun v => by
        induction v with
        | nil => rfl
        | cons x v ih => rw [List.map_cons, List.map_cons, List.sum_cons, ih]; show (leafS x).length + _ = _; rw [show (leafS x).length = 1 from by unfold leafS; rw [S_len]; rfl]; simp; omega
      have e1 : (" " : Str).length = 1 := by decide +kernel
      rw [e, e1, List.length_map]
      omega
    · rw [join_leaf]
      have := k H2 (fun b o e => s2 b o (same_upd nc b o e))
      unfold ptxt at this
      rw [if_pos ha] at this
      exact this
/-- a def with one parameter, *pv and one keyword-only parameter -/
theorem okK_star {name qual : Str} {st : Stmt} {f : Addr} {N : List Str} {k : Nat} {pm : Pm} {p1 pk pv : Str} {kws : List (Str × V)} (F : ∃ fd, FunD K name qual (defArgs st) (defBody st) (defScope st) [] kws f fd) (S : FnScope N [p1, pk, pv] (defScope st))
    (b : ∀ (kV doc pm : Value) (an : Option Addr) (cdv ct : Value) (a b : Value) (rest : List Value),
      ∃ g : Value → List (Str × Value), bindArgs (PySem.W.fnOf name qual (defArgs st) (defBody st) (defScope st) .none kV doc pm an cdv ct) ⟨a :: rest, [(pk, b)]⟩ = (newTuple rest >>= fun t => pure (g t)) ∧ ∀ t, g t = [p1, pk, pv].zip [a, b, t])
    (hbody : Bod P w K mg base N qual st f k pm) :
    OkK P w K mg base (k + 1) f [pk] (fun vs zs H Q => ∃ x rest y, vs = x :: rest ∧ zs = [y] ∧ rest.length ≤ sizeLine ∧ ∀ p, H p = none → pm [x, y, V.ref p] (upd H p (.tup rest)) Q) := by
  obtain ⟨fd, F⟩ := F
  obtain ⟨oc, od, dV, kV, doc, pm', an, cdv, ct, osl, rfl, lk, hcd, hD, hK⟩ := F.ex
  rcases hD with ⟨_, rfl⟩ | ⟨e, _⟩
  · intro A outer s H us ws vs zs Q E hr e0 r rz hl ⟨x, rest, y, ev, ez, hz, hq⟩
    subst ev
    subst ez
    obtain ⟨uy, rfl, ry⟩ := vals1 rz
    cases r with
    | cons rx rr =>
      rename_i ux urest
      have hn : H s.heap.objs.size = none := e0.hok.fresh (Nat.le_refl _)
      have hl2 : urest.length ≤ sizeLine := by rw [← rr.length]; exact hz
      obtain ⟨g, hg, eg⟩ := b kV doc pm' an cdv ct ux uy urest
      refine StX.run_bnd (E := E) lk hcd S hr e0 (G := fun xs H2 => ∃ p, H p = none ∧ xs = [x, y, V.ref p] ∧ H2 = upd H p (.tup rest)) (fun A' Ex Q' h => ?_) fun s2 H2 xs ⟨p, hp, ex, eH⟩ hr' => ?_
      · show wpAny _ _ (bindArgs _ ⟨ux :: urest, [(pk, uy)]⟩) _ _ _
        rw [hg]
        refine wpAny_bind (wpAny_newTuple (wpAny_pure ?_) hl2)
        have new : ObjOk P w (upd H s.heap.objs.size (.tup rest)) (s.heap.push ({ cls := .type "tuple", data := .seq urest.toArray } : Obj)) s.heap.objs.size (.tup rest) := ⟨hz, urest, rr, ⟨_, Heap.get?_push_size _ rfl, rfl, _, rfl⟩⟩
        have un := StX.un_laid (fs := frs outer) (s := s) (o := ({ cls := .type "tuple", data := .seq urest.toArray } : Obj)) (u := .tup rest) hn
        rw [eg]
        exact h _ _ [x, y, V.ref s.heap.objs.size] [ux, uy, Value.ref s.heap.objs.size] (StX.env0_laid e0 new) un rfl (fun e s' => cxUp0 outer s H _ _ E e s' un (fun b o q => Heap.get?_push_of_some _ q) rfl) (.cons rx (.cons ry (.cons rfl .nil))) rfl ⟨_, hn, rfl, rfl⟩
      · subst ex eH
        obtain ⟨t, ht, q⟩ := hbody cdv A outer s2 _ _ Q E hr' (hq p hp)
        exact ⟨t, ht.nox, q⟩
  · exact absurd rfl e
def pm_alike (K : PySem.W.Frag) : Pm := fun vs H Q => ∃ p r q o s t R, vs = [.ref p, .ref r, .ref o] ∧ H o = some (.tup [.ref q]) ∧ WayAt K H p s ∧ WayAt K H q t ∧ RulesAt K H r R ∧ s.size ≤ 60 ∧ t.size ≤ 60 ∧ ∀ H', Same H H' → Q (.bl (decide (Alike R s t))) H'
theorem ok_alike0 (T : Txt K mg) : Bod P w K mg base nalike "alike" salike (a_alike K) 70 (pm_alike K) := by
  have G := ok_plain (P := P) (w := w) (base := base) T
  intro cdv A outer s H vs Q E hr h
  obtain ⟨p, r, q, o, s, t, R, rfl, ho, ws, wt, hR, zs, zt, k⟩ := h
  refine ⟨_, pss_cons (ps_set (i := 3) calike.nd rfl (.inr rfl) (e_callK G hr (by omega) (g_plain T) (k_plain T) (pa_cons (pv 0) pa_nil) (pk_cons (pv 1) pk_nil)))
    (pss_one (ps_ret (pe_callB (cr_all rfl) (by rfl) (z_all T) (by decide +kernel) (pa_cons (pe_lc (own := [("other", 4)]) (g := gName 4) (tt := tYes) rfl calike.nd (pi_tup (pv 2))
      (blkOk_by (N := nalike) (sc := defScope salike) (by decide +kernel)) (fun _ _ _ _ _ => pg_name (i := 4) calike.nd rfl (Or.inl rfl)) (fun _ _ _ _ _ => pts_nil)
      (fun _ _ _ _ _ => pe_cmpR op_eq (e_callK G hr (by omega) (g_plain T) (k_plain T) (pa_cons (pv 4) pa_nil) (pk_cons (pv 1) pk_nil)) (pv 3) (nomark _))) pa_nil)))), ?_⟩
  refine ⟨_, rfl, _, rfl, rfl, rfl, p, r, s, R, rfl, ws, hR, zs, fun H1 s1 => ?_⟩
  refine ⟨_, rfl, o, rfl, ⟨_, SqT.of (s1 _ _ ho)⟩, fun D hD => ?_⟩
  refine lc_pure (walk_tup (K := K) (a := o) (xs := [.ref q])) [some (.bl (decide (ptxt R t = ptxt R s)))] rfl (by show 1 ≤ 4096; decide) hD (fun H2 s2 => SqT.of (s2 _ _ (s1 _ _ ho))) ?_ ?_
  · intro i x o' H2 R1 R0 hx ho' s2 kR k0
    cases i with
    | succ i => cases hx
    | zero =>
      cases hx
      cases ho'
      refine ⟨rfl, yes1 ?_⟩
      have s12 : Same H H2 := fun b u e => s2 b u (s1 b u e)
      refine ⟨_, rfl, _, rfl, rfl, rfl, q, r, t, R, rfl, wt.gr (.of s12), hR.gr (.of s12), zt, fun H3 s3 => ⟨_, rfl, rfl, ?_⟩⟩
      rw [dec_S]
      exact kR _ _ rfl s3
  · intro H2 s2 h2
    refine ⟨D, [decide (ptxt R t = ptxt R s)], rfl, SqL.of h2, ?_⟩
    have e : [decide (ptxt R t = ptxt R s)].all id = decide (Alike R s t) := by
      simp only [List.all_cons, List.all_nil, Bool.and_true, id]
      exact decide_eq_decide.mpr ⟨fun z => ptxt_iff.mp z.symm, fun z => (ptxt_iff.mpr z).symm⟩
    rw [e]
    exact k _ fun b u x => s2 b u (s1 b u x)
theorem b_alike (kV doc pm : Value) (an : Option Addr) (cdv ct a b : Value) (rest : List Value) : bindArgs (PySem.W.fnOf "alike" "alike" (defArgs salike) (defBody salike) (defScope salike) .none kV doc pm an cdv ct) ⟨a :: rest, [("rules", b)]⟩ =
    (newTuple rest >>= fun t => pure ((["first", "rules", "others"] : List Str).zip [a, b, t])) :=
  match rest with
  | [] => rfl
  | _ :: _ => rfl
theorem ok_alike (T : Txt K mg) : OkK P w K mg base 71 (a_alike K) ["rules"] (fun vs zs H Q => ∃ p q r s t R, vs = [.ref p, .ref q] ∧ zs = [.ref r] ∧ WayAt K H p s ∧ WayAt K H q t ∧ RulesAt K H r R ∧ s.size ≤ 60 ∧ t.size ≤ 60 ∧ ∀ H', Same H H' → Q (.bl (decide (Alike R s t))) H') := by
  have G := okK_star (F_alike T) calike (fun kV doc pm an cdv ct a b rest => ⟨_, b_alike kV doc pm an cdv ct a b rest, fun t => rfl⟩) (ok_alike0 (P := P) (w := w) (base := base) T)
  intro A outer s H us ws vs zs Q E hr e0 r rz hl ⟨p, q, r', s', t, R, e1, e2, wp, wq, hR, z1, z2, k⟩
  refine G A outer s H us ws vs zs Q E hr e0 r rz hl ⟨.ref p, [.ref q], .ref r', e1, e2, by show 1 ≤ sizeLine; decide, fun o ho => ?_⟩
  have so := same_upd (o := .tup [V.ref q]) ho
  exact ⟨p, r', q, o, s', t, R, rfl, upd_same, wp.gr (.of so), wq.gr (.of so), hR.gr (.of so), z1, z2, fun H' s2 => k H' fun b u x => s2 b u (so b u x)⟩
end
end NL
set_option Elab.async false
set_option linter.all false
set_option maxRecDepth 100000
set_option maxHeartbeats 4000000
/-! needed. -/
namespace NL
open PySem PySem.Spec PyProof.Rows L2 SX LamX
/-- the sets under which two ways are alike -/
def need (s t : Tree) : List RS := everyR.filter fun R => decide (Alike R s t)
theorem le_refl (R : RS) : R.le R = true := RS.le_iff.mpr ⟨id, id, id, id, id⟩
theorem need_ups (s t : Tree) : ups (need s t) = need s t := by
  unfold ups need
  refine List.filter_congr fun R hR => ?_
  rw [Bool.eq_iff_iff, List.any_eq_true, decide_eq_true_eq]
  constructor
  · rintro ⟨S, hS, e⟩
    exact Alike.mono e (of_decide_eq_true (List.mem_filter.mp hS).2)
  · exact fun h => ⟨R, List.mem_filter.mpr ⟨hR, decide_eq_true h⟩, le_refl R⟩
theorem mem_need {s t : Tree} {R : RS} : R ∈ need s t ↔ Alike R s t := by
  unfold need
  rw [List.mem_filter, decide_eq_true_eq]
  exact ⟨fun h => h.2, fun h => ⟨every_mem R, h⟩⟩
theorem need_len (s t : Tree) : (need s t).length ≤ 32 := Nat.le_trans (List.length_filter_le _ _) (Nat.le_of_eq every_len)
section
variable {P : Program} {w : World} {K : PySem.W.Frag} {mg : Str → Option Value} {base : Heap}
theorem b_finit (kV doc pm : Value) (an : Option Addr) (cdv ct : Value) (us rest : List Value) (h : us.length = (["self"] : List Str).length) : bindArgs (PySem.W.fnOf "__init__" "Family.__init__" (defArgs sFamily_init) (defBody sFamily_init) (defScope sFamily_init) .none kV doc pm an cdv ct) ⟨us ++ rest, []⟩ =
    (newTuple rest >>= fun t => pure ((["self"] : List Str).zip us ++ ([("sets", t)] : List (Str × Value)))) :=
  match us, h, rest with
  | [_], _, [] => rfl
  | [_], _, _ :: _ => rfl
theorem ok_finit (T : Txt K mg) (TB : TabB base mg (evC K) (evT K)) : Ok P w K mg base 6 (a_Family_init K) (fun vs H Q => ∃ p dx qs Rs, vs = .ref p :: qs.map V.ref ∧ H p = some (.ins (cFamily K) dx []) ∧ RulesL K H qs Rs ∧ Rs.length ≤ 4096 ∧ Tabs (TT K) H ∧
    ∀ H' m, Sn [p] H H' → Tabs (TT K) H' → Nu H m → FamAt K H' p m (ups Rs) → Q .non H') := by
  refine (ok_star (ps := ["self"]) (pv := "sets") (F_Family_init T) cFamily_init b_finit (ok_finit0 T TB)).imp fun vs H Q h => ?_
  obtain ⟨p, dx, qs, Rs, rfl, hp, hR, hn, hT, k⟩ := h
  refine ⟨[.ref p], qs.map V.ref, rfl, rfl, ?_, fun t ht => ?_⟩
  · rw [List.length_map, hR.1]
    exact small_len hn
  have st := same_upd (o := .tup (qs.map V.ref)) ht
  refine ⟨p, dx, t, qs, Rs, rfl, st _ _ hp, upd_same, hR.gr (.of st), hn, hT.ext st, fun H' m x1 T1 n1 f1 => ?_⟩
  refine k H' m (fun b o e n n2 => x1 b o (st b o e) n n2) T1 ?_ f1
  exact fun o e => n1 o (st _ _ e)
def pm_needed (K : PySem.W.Frag) : Pm := fun vs H Q => ∃ p q s t, vs = [.ref p, .ref q] ∧ WayAt K H p s ∧ WayAt K H q t ∧ s.size ≤ 60 ∧ t.size ≤ 60 ∧ Tabs (TT K) H ∧
  ∀ H' f m, Ex H H' → Tabs (TT K) H' → Nu H m → FamAt K H' f m (need s t) → Q (.ref f) H'
theorem ok_needed (T : Txt K mg) (TB : TabB base mg (evC K) (evT K)) : Ok P w K mg base 73 (a_needed K) (pm_needed K) := by
  have G := ok_alike (P := P) (w := w) (base := base) T
  have GE : Ok P w K mg base 3 (a_Rules_every K) (pm_every K) := ok_every T TB
  have GF := ok_finit (P := P) (w := w) T TB
  refine ok_of (F_needed T) cneeded b_needed (fun vs H Q h => ?_) (fun cdv A outer s H vs Q E hr h => ?_)
  · obtain ⟨p, q, s, t, rfl, _⟩ := h
    rfl
  obtain ⟨p, q, s, t, rfl, ws, wt, zs, zt, hT, k⟩ := h
  refine ⟨_, pss_cons (ps_setLc (i := 2) (own := [("rules", 3)]) (g := gName 3) rfl cneeded.nd rfl rfl rfl (pi_list (e_cmeth0 (pe_glob (v := .ref (cRules K)) rfl (g_Rules T) rfl) (rules_read T) (rules_every T) GE hr (by omega)))
      (blkOk_by (N := nneeded) (sc := defScope sneeded) (by decide +kernel)) (fun _ _ _ _ _ => pg_name (i := 3) cneeded.nd rfl (Or.inl rfl))
      (fun _ _ _ _ _ => pts_one (pt_val (e_callK G hr (by omega) (g_alike T) (k_alike T) (pa_cons (pv 0) (pa_cons (pv 1) pa_nil)) (pk_cons (pv 3) pk_nil)))) (fun _ _ _ _ _ => pv 3))
    (pss_one (ps_ret (e_makeS (mk_Family T) GF hr (by omega) (g_Family T) (pv 2)))), ?_⟩
  refine ⟨rfl, rfl, hT, fun H1 l rs x1 T1 n1 hl hR => ?_⟩
  obtain ⟨es, rfl, ee, he⟩ := hR.zs
  have le : es.length = 32 := by
    have : (es.map (·.2)).length = everyR.length := by rw [ee]
    rw [every_len] at this
    simpa using this
  have w1 := ws.gr x1.gr
  have w2 := wt.gr x1.gr
  refine ⟨l, rfl, ⟨_, SqL.of hl⟩, fun D hD => ?_⟩
  refine lc_pure (walk_list (K := K) (a := l) (xs := (es.map (·.1)).map V.ref)) (es.map fun e => if decide (Alike e.2 s t) = true then some (.ref e.1) else none) (by simp) (by simp; omega) hD (fun H2 s2 => SqL.of (s2 _ _ hl)) ?_ ?_
  · intro i x o H2 R1 R0 hx ho s2 kR k0
    rw [List.map_map] at hx
    obtain ⟨e, e1, rfl⟩ := map_at' hx
    obtain ⟨e', e2, rfl⟩ := map_at' ho
    rw [e1] at e2
    cases e2
    have re := (he e (List.mem_of_getElem? e1)).gr (.of s2)
    refine ⟨rfl, _, rfl, _, rfl, _, rfl, rfl, p, q, e.1, s, t, e.2, rfl, rfl, w1.gr (.of s2), w2.gr (.of s2), re, zs, zt, fun H3 s3 => ⟨_, rfl, ?_⟩⟩
    cases hb : decide (Alike e.2 s t) with
    | true => exact iteT ⟨_, rfl, kR _ _ (if_pos hb) s3⟩
    | false => exact iteF (k0 _ (if_neg (by rw [hb]; simp)) s3)
  · intro H2 s2 h2
    rw [filt_map (fun e : Addr × RS => decide (Alike e.2 s t))] at h2
    have en : need s t = (es.filter fun e => decide (Alike e.2 s t)).map (·.2) := by
      unfold need
      rw [ee]
      exact (map_filter2 (fun z : Addr × RS => z.2) (fun R => decide (Alike R s t)) es).symm
    refine ⟨_, rfl, D, _, rfl, .inr (SqL.of h2), fun f df nf nd ne => ?_⟩
    have sm : Same H2 (upd (upd H2 df (.own f)) f (.ins (cFamily K) df [])) := Same.upd (same_upd nd) (by rw [upd_ne ne.symm]; exact nf)
    have rl : RulesL K (upd (upd H2 df (.own f)) f (.ins (cFamily K) df [])) ((es.filter fun e => decide (Alike e.2 s t)).map (·.1)) (need s t) := by
      rw [en]
      exact Each.of_zs fun z h => ((he z (List.mem_filter.mp h).1).gr (.of s2)).gr (.of sm)
    refine ⟨f, df, _, need s t, ?_, upd_same, rl, Nat.le_trans (need_len s t) (by decide), (T1.ext s2).ext sm, fun H3 m x3 T3 n3 f3 => ⟨rfl, ?_⟩⟩
    · rw [List.map_map]
      rfl
    rw [need_ups] at f3
    have x0 : Ex H H3 := fun b o e n => x3 b o (sm b o (s2 b o (x1 b o e n))) (by
      have : H2 b = some o := s2 b o (x1 b o e n)
      simp
      exact ne_of_none this nf) n
    exact k H3 f m x0 T3 (fun o e => by
      by_cases ht : ∃ ps, o = .tbl ps
      · exact ht
      · exact n3 o (sm _ _ (s2 _ _ (x1 _ _ e fun ps z => ht ⟨ps, z⟩)))) f3
end
end NL
set_option Elab.async false
set_option linter.all false
set_option maxRecDepth 100000
set_option maxHeartbeats 4000000
/-! Board: made, now, part_at, pair_at, change. -/
namespace NL
open PySem PySem.Spec PyProof.Rows L2 SX LamX
/-- the way behind the deeds -/
def cur (first : Tree) (ds : List Deed) : Tree := (ds.getLast?.map (·.to)).getD first
theorem cur_nil (t : Tree) : cur t [] = t := rfl
theorem cur_snoc (t : Tree) (ds : List Deed) (d : Deed) : cur t (ds ++ [d]) = d.to := by simp [cur]
/-- all ways are small -/
def Low (first : Tree) (ds : List Deed) : Prop := first.size ≤ 20 ∧ ∀ d ∈ ds, d.to.size ≤ 20
theorem Low.cur {first : Tree} {ds : List Deed} (h : Low first ds) : (cur first ds).size ≤ 20 := by
  unfold NL.cur
  cases e : ds.getLast? with
  | none => exact h.1
  | some d => exact h.2 d (List.mem_of_getLast? e)
section
variable {P : Program} {w : World} {K : PySem.W.Frag} {mg : Str → Option Value} {base : Heap}
theorem bf_now {v u : V} : ([("first", v), ("deeds", u)] : List (Str × V)).lookup ("now" : Str) = none := by kernel_rfl
theorem bf_part_at {v u : V} : ([("first", v), ("deeds", u)] : List (Str × V)).lookup ("part_at" : Str) = none := by kernel_rfl
theorem bf_pair_at {v u : V} : ([("first", v), ("deeds", u)] : List (Str × V)).lookup ("pair_at" : Str) = none := by kernel_rfl
theorem bf_change {v u : V} : ([("first", v), ("deeds", u)] : List (Str × V)).lookup ("change" : Str) = none := by kernel_rfl
def pm_binit (K : PySem.W.Frag) : Pm := fun vs H Q => ∃ p dx q t, vs = [.ref p, .ref q] ∧ H p = some (.ins (cBoard K) dx []) ∧ WayAt K H q t ∧ ∀ H' d, Sx [p] H H' → H d = none → BoardAt K H' p d t [] → Q .non H'
theorem WayAt.ne {H : Hp} {q p C dx : Addr} {t : Tree} (h : WayAt K H q t) (e : H p = some (.ins C dx [])) : q ≠ p := by
  obtain ⟨d, lt, n, l, r, o, _⟩ := h.obj
  intro z
  rw [z, e] at o
  injection o with o
  injection o with _ _ o
  cases o
theorem WayAt.other {H H' : Hp} {p C dx : Addr} (e : H p = some (.ins C dx [])) (x : Sx [p] H H') : ∀ {t : Tree} {q : Addr}, WayAt K H q t → WayAt K H' q t
  | .lf y, q, h => by
    have nq := h.ne e
    obtain ⟨d, lt, o, f⟩ := h
    refine ⟨d, lt, x _ _ o (by simpa using nq), x _ _ f ?_⟩
    simp
    intro z
    rw [z, e] at f
    cases f
  | .nd a b, q, h => by
    have nq := h.ne e
    obtain ⟨d, lt, l, r, o, f, wl, wr⟩ := h
    refine ⟨d, lt, l, r, x _ _ o (by simpa using nq), x _ _ f ?_, wl.other e x, wr.other e x⟩
    simp
    intro z
    rw [z, e] at f
    cases f
theorem ok_binit (T : Txt K mg) : Ok P w K mg base 1 (a_Board_init K) (pm_binit K) := by
  refine ok_of (F_Board_init T) cBoard_init b_Board_init (fun vs H Q h => ?_) (fun cdv A outer s H vs Q E hr h => ?_)
  · obtain ⟨p, dx, q, t, rfl, _⟩ := h
    rfl
  obtain ⟨p, dx, q, t, rfl, hp, hw, k⟩ := h
  refine ⟨_, pss_cons (ps_fld (pv 0) (pv 1) rfl) (pss_one (ps_fld (pv 0) (pe_lst pa_nil) rfl)), ?_⟩
  refine ⟨_, rfl, _, rfl, p, _, dx, _, rfl, hp, cl_Board T, no_Board_first T, by decide, ?_⟩
  refine ⟨Nat.zero_le _, fun d nd => ?_⟩
  have ndp : d ≠ p := fun z => by rw [z, upd_same] at nd; cases nd
  have hd : H d = none := by rw [upd_ne ndp] at nd; exact nd
  refine ⟨_, rfl, p, _, dx, _, rfl, by rw [upd_ne ndp.symm]; exact upd_same, cl_Board T, no_Board_deeds T, by show 1 < 1000; decide, ?_⟩
  have x : Sx [p] H (upd (upd (upd H p (.ins (cBoard K) dx (putF "first" (.ref q) []))) d (.lst [])) p (.ins (cBoard K) dx (putF "deeds" (.ref d) (putF "first" (.ref q) [])))) := fun b o e n => by
    have n1 : b ≠ p := by simpa using n
    have n2 : b ≠ d := ne_of_none e hd
    rw [upd_ne n1, upd_ne n2, upd_ne n1]
    exact e
  refine k _ d x hd ⟨dx, q, [], ?_, hw.other hp x, ?_, rfl, fun i a b h => by simp at h⟩
  · rw [upd_same]
    rfl
  · rw [upd_ne ndp, upd_same]
    rfl
def pm_bbegun (K : PySem.W.Frag) : Pm := fun vs H Q => ∃ p d t ds, vs = [.ref p] ∧ BoardAt K H p d t ds ∧ ∀ q, WayAt K H q t → Q (.ref q) H
theorem ok_bbegun (T : Txt K mg) : Ok P w K mg base 1 (a_Board_begun K) (pm_bbegun K) := by
  refine ok_of (F_Board_begun T) cBoard_begun b_Board_begun (fun vs H Q h => ?_) (fun cdv A outer s H vs Q E hr h => ?_)
  · obtain ⟨p, d, t, ds, rfl, _⟩ := h
    rfl
  obtain ⟨p, d, t, ds, rfl, ⟨dx, pf, ts, o, wf, od, e⟩, k⟩ := h
  exact ⟨_, pss_one (ps_ret (pe_fld (pv 0) rfl)), _, rfl, p, _, dx, _, _, rfl, o, cl_Board T, no_Board_first T, bf_first, k pf wf⟩
theorem op_nil {X : Cx} {j : Nat} (hr : Room j X.A) : OpR X (compareOp .Eq) (fun x y H Q => ∃ a b xs, x = .ref a ∧ y = .ref b ∧ H a = some (.lst xs) ∧ H b = some (.lst []) ∧ Q (.bl (decide (xs = []))) H) := by
  have h := (op_eqD (X := X) hr.units).or (o_eqLen hr.units0)
  intro pins s σ H x y v u Q I rx ry ⟨a, b, xs, ex, ey, ha, hb, q⟩
  refine h pins s σ H x y v u Q I rx ry ?_
  cases xs with
  | nil =>
    refine .inl ⟨.list [], .list [], ?_, ?_, by decide +kernel, by decide +kernel, by rw [show PyData.eqv (.list []) (.list []) = true from by decide +kernel]; simpa using q⟩
    · rw [ex]; exact .lst (SqL.of ha) .nil
    · rw [ey]; exact .lst (SqL.of hb) .nil
  | cons z zs => exact .inr ⟨a, b, z :: zs, [], ex, ey, ha, hb, by simp, by simpa using q⟩
theorem deed_last {H : Hp} {ts : List Addr} {ds : List Deed} (h : Each (DeedAt H) ts ds) {d : Deed} (e : ds.getLast? = some d) : ∃ q, DeedAt H q d ∧ atI (ts.map V.ref) (-1) = some (.ref q) := by
  obtain ⟨zs, rfl, rfl, hz⟩ := h.zs
  cases hl : zs.getLast? with
  | none =>
    rw [List.getLast?_map, hl] at e
    cases e
  | some z =>
    rw [List.getLast?_map, hl] at e
    cases e
    refine ⟨z.1, hz z (List.mem_of_getLast? hl), ?_⟩
    obtain ⟨l, rfl⟩ : ∃ l, zs = l ++ [z] := List.getLast?_eq_some_iff.mp hl
    rw [List.map_append, List.map_append]
    exact atI_last _ _
def pm_bnow (K : PySem.W.Frag) : Pm := fun vs H Q => ∃ p d t ds, vs = [.ref p] ∧ BoardAt K H p d t ds ∧ Low t ds ∧ ∀ H' q, Same H H' → WayAt K H' q (cur t ds) → Q (.ref q) H'
theorem ok_bnow (T : Txt K mg) : Ok P w K mg base 132 (a_Board_now K) (pm_bnow K) := by
  have GW : Ok P w K mg base 130 (a_Way_init K) (pm_winit (K := K) 64) := ok_way T
  refine ok_of (F_Board_now T) cBoard_now b_Board_now (fun vs H Q h => ?_) (fun cdv A outer s H vs Q E hr h => ?_)
  · obtain ⟨p, d, t, ds, rfl, _⟩ := h
    rfl
  obtain ⟨p, d, t, ds, rfl, ⟨dx, pf, ts, o, wf, od, e⟩, lo, k⟩ := h
  refine ⟨_, pss_cons (ps_if (pt_cmpR (op_nil hr) (pe_fld (pv 0) rfl) (pe_lst pa_nil) (nomark _)) (pss_one (ps_ret (pe_fld (pv 0) rfl))) pss_nil)
    (pss_one (ps_ret (e_make (mk_Way T) GW hr (by omega) (g_Way T) (pa_cons (pe_ix ix_tup (pe_ix ix_list (pe_fld (pv 0) rfl) (pe_un un_neg pe_int) (fun _ _ => rfl)) pe_int (fun _ _ => rfl)) pa_nil)))), ?_⟩
  refine ⟨_, rfl, p, _, dx, _, _, rfl, o, cl_Board T, no_Board_deeds T, bf_deeds, Nat.zero_le _, fun c nc => ?_⟩
  have sc := same_upd (o := .lst []) nc
  refine ⟨d, c, _, rfl, rfl, sc _ _ od, upd_same, _, rfl, ?_⟩
  have dec : decide (ts.map V.ref = []) = decide (ds = []) := by
    refine decide_eq_decide.mpr ?_
    rw [List.map_eq_nil_iff]
    constructor
    · intro z
      exact List.eq_nil_of_length_eq_zero (by rw [← e.1, z]; rfl)
    · intro z
      exact List.eq_nil_of_length_eq_zero (by rw [e.1, z]; rfl)
  rw [dec]
  by_cases hd : ds = []
  · subst hd
    exact iteT ⟨_, rfl, p, _, dx, _, _, rfl, sc _ _ o, cl_Board T, no_Board_first T, bf_first, k _ _ sc (wf.gr (.of sc))⟩
  rw [decide_eq_false hd]
  obtain ⟨l, hl⟩ : ∃ l, ds.getLast? = some l := ⟨_, List.getLast?_eq_some_getLast hd⟩
  obtain ⟨q, hq, ha⟩ := deed_last e hl
  have ec : cur t ds = l.to := by
    unfold cur
    rw [hl]
    rfl
  have lc := lo.cur
  refine iteF ⟨_, rfl, p, _, dx, _, _, rfl, sc _ _ o, cl_Board T, no_Board_deeds T, bf_deeds, ?_⟩
  refine ⟨_, rfl, d, _, -1, _, rfl, rfl, SqL.of (sc _ _ od), ha, ?_⟩
  refine ⟨q, deedV l, 2, _, rfl, rfl, SqT.of (sc _ _ hq), atI_nat (j := 2) rfl, ?_⟩
  intro z dz nz nd ne
  exact made_way (t := l.to) (by show l.to.size ≤ 64; rw [← ec]; omega) (fun z' H' s' w' => k H' z' (fun b u x => s' b u (sc b u x)) (by rw [ec]; exact w')) nz nd ne rfl
end
end NL
set_option Elab.async false
set_option linter.all false
set_option maxRecDepth 100000
set_option maxHeartbeats 4000000
/-! Board: part_at, pair_at, change. -/
namespace NL
open PySem PySem.Spec PyProof.Rows L2 SX LamX
section
variable {P : Program} {w : World} {K : PySem.W.Frag} {mg : Str → Option Value} {base : Heap}
def rlV (r : Rl) : V := .str (S [r.code])
def pm_partat (K : PySem.W.Frag) : Pm := fun vs H Q => ∃ p d t ds x q u, vs = [.ref p, x, .str (S (pth q))] ∧ BoardAt K H p d t ds ∧ Low t ds ∧ part (cur t ds) q = some u ∧ ∀ H' z, Same H H' → WayAt K H' z u → Q (.ref z) H'
theorem ok_partat (T : Txt K mg) : Ok P w K mg base 134 (a_Board_part_at K) (pm_partat K) := by
  have GN : Ok P w K mg base 132 (a_Board_now K) (pm_bnow K) := ok_bnow T
  have GP : Ok P w K mg base 1 (a_Way_part K) (pm_part K) := ok_part T
  refine ok_of (F_Board_part_at T) cBoard_part_at b_Board_part_at (fun vs H Q h => ?_) (fun cdv A outer s H vs Q E hr h => ?_)
  · obtain ⟨p, d, t, ds, x, q, u, rfl, _⟩ := h
    rfl
  obtain ⟨p, d, t, ds, x, q, u, rfl, hB, lo, hu, k⟩ := h
  refine ⟨_, pss_one (ps_try_thru0 (pss_one (ps_ret (e_meth (e_meth0 (pv 0) (cl_Board T) (m_Board_now T) GN hr (by omega)) (cl_Way T) (m_Way_part T) GP hr (by omega) (pa_cons (pv 2) pa_nil))))), ?_⟩
  obtain ⟨dx, pf, ts, o, _⟩ := id hB
  refine ⟨_, rfl, p, dx, _, rfl, o, bf_now, p, d, t, ds, rfl, hB, lo, fun H1 z s1 wz => ?_⟩
  obtain ⟨dz, lt, n, l, r, oz, _⟩ := wz.obj
  exact ⟨z, dz, _, rfl, oz, wf_part, _, rfl, z, _, q, u, rfl, wz, hu, fun y wy => k H1 y s1 wy⟩
def pm_pairat (K : PySem.W.Frag) : Pm := fun vs H Q => ∃ p d t ds x q a b, vs = [.ref p, x, .str (S (pth q))] ∧ BoardAt K H p d t ds ∧ Low t ds ∧ part (cur t ds) q = some (.nd a b) ∧
  ∀ H' z y1 y2, Same H H' → H' z = some (.tup [.ref y1, .ref y2]) → WayAt K H' y1 a → WayAt K H' y2 b → Q (.ref z) H'
theorem ok_pairat (T : Txt K mg) : Ok P w K mg base 136 (a_Board_pair_at K) (pm_pairat K) := by
  have G : Ok P w K mg base 134 (a_Board_part_at K) (pm_partat K) := ok_partat T
  refine ok_of (F_Board_pair_at T) cBoard_pair_at b_Board_pair_at (fun vs H Q h => ?_) (fun cdv A outer s H vs Q E hr h => ?_)
  · obtain ⟨p, d, t, ds, x, q, a, b, rfl, _⟩ := h
    rfl
  obtain ⟨p, d, t, ds, x, q, a, b, rfl, hB, lo, hu, k⟩ := h
  refine ⟨_, pss_cons (ps_set (i := 3) cBoard_pair_at.nd rfl (.inl rfl) (e_meth (pv 0) (cl_Board T) (m_Board_part_at T) G hr (by omega) (pa_cons (pv 1) (pa_cons (pv 2) pa_nil))))
    (pss_cons (ps_if (pt_cmpR op_isN (pe_fld (pv 3) rfl) pe_non (nomark _)) (pss_one ps_never) pss_nil)
    (pss_one (ps_ret (pe_tup (pa_cons (pe_fld (pv 3) rfl) (pa_cons (pe_fld (pv 3) rfl) pa_nil)))))), ?_⟩
  obtain ⟨dx, pf, ts, o, _⟩ := id hB
  refine ⟨_, rfl, p, dx, _, rfl, o, bf_part_at, _, rfl, _, rfl, p, d, t, ds, x, q, _, rfl, hB, lo, hu, fun H1 z s1 wz => ?_⟩
  obtain ⟨dz, lt, y1, y2, oz, f, w1, w2⟩ := wz
  refine ⟨_, rfl, z, _, dz, _, _, rfl, oz, cl_Way T, no_Way_left T, wf_left, rfl, _, rfl, ?_⟩
  refine iteF ⟨_, rfl, z, _, dz, _, _, rfl, oz, cl_Way T, no_Way_left T, wf_left, _, rfl, z, _, dz, _, _, rfl, oz, cl_Way T, no_Way_right T, wf_right, (by show 2 ≤ sizeLine; decide), fun c nc => ?_⟩
  have sc := same_upd (o := .tup [.ref y1, .ref y2]) nc
  exact k _ c y1 y2 (fun b u e => sc b u (s1 b u e)) upd_same (w1.gr (.of sc)) (w2.gr (.of sc))
/-- one more deed -/
def Done (K : PySem.W.Frag) (H : Hp) (p d : Addr) (t : Tree) (ds : List Deed) (e : Deed) (Q : VK) : Prop := ∀ H', Sx [d] H H' → BoardAt K H' p d t (ds ++ [e]) → Q .non H'
def pm_change (K : PySem.W.Frag) : Pm := fun vs H Q => ∃ p d t ds r q u o v, vs = [.ref p, rlV r, .str (S (pth q)), .ref o] ∧ BoardAt K H p d t ds ∧ Low t ds ∧ ds.length ≤ 1000 ∧ part (cur t ds) q = some u ∧ WayAt K H o v ∧ (put (cur t ds) q v).size ≤ 20 ∧ v.size ≤ 20 ∧
  Done K H p d t ds ⟨r, q, put (cur t ds) q v⟩ Q
theorem put_part_size {t : Tree} {q : List Bool} {u v : Tree} (h : part t q = some u) : v.size ≤ (put t q v).size := by
  have h1 := part_size (part_put (v := v) h)
  exact h1
theorem ok_change (T : Txt K mg) : Ok P w K mg base 200 (a_Board_change K) (pm_change K) := by
  have GN : Ok P w K mg base 132 (a_Board_now K) (pm_bnow K) := ok_bnow T
  have GP : Ok P w K mg base 197 (a_Way_put K) (pm_put K 64) := ok_put T 64
  have GL : Ok P w K mg base 1 (a_Way_len K) (pm_wlen K) := ok_wlen T
  have GS : Ok P w K mg base 1 (a_Way_str K) (pm_wstr K) := ok_wstr T
  refine ok_of (F_Board_change T) cBoard_change b_Board_change (fun vs H Q h => ?_) (fun cdv A outer s H vs Q E hr h => ?_)
  · obtain ⟨p, d, t, ds, r, q, u, o, v, rfl, _⟩ := h
    rfl
  obtain ⟨p, d, t, ds, r, q, u, o, v, rfl, hB, lo, ln, hu, ho, sz, sv, k⟩ := h
  refine ⟨_, pss_cons (ps_set (i := 4) cBoard_change.nd rfl (.inl rfl) (e_meth (e_meth0 (pv 0) (cl_Board T) (m_Board_now T) GN hr (by omega)) (cl_Way T) (m_Way_put T) GP hr (by omega) (pa_cons (pv 2) (pa_cons (pv 3) pa_nil))))
    (pss_cons (ps_if (pt_cmpR op_gt (pe_callB (c_len GL (m_Way_len T) hr (by omega)) (by rfl) (z_len T) PySem.boot_len (pa_cons (pv 4) pa_nil)) (C8.pe_gc (by rfl) (g_MOST_LEAVES T)) (nomark _)) (pss_one ps_never) pss_nil)
    (pss_one (ps_expr (pe_bm PySem.F.plainAttrs_list PySem.F.slot_list_append PySem.F.type_list_append mt_append (pe_fld (pv 0) rfl)
      (pa_cons (pe_tup (pa_cons (pv 1) (pa_cons (pv 2) (pa_cons (pe_callTy (c_str GS (m_Way_str T) hr (by omega)) (by rfl) (z_str T) (by decide +kernel) (pa_cons (pv 4) pa_nil)) pa_nil)))) pa_nil))))), ?_⟩
  obtain ⟨dx, pf, ts, ob, wf, od, ed⟩ := id hB
  refine ⟨_, rfl, p, dx, _, rfl, ob, bf_now, p, d, t, ds, rfl, hB, lo, fun H1 z s1 wz => ?_⟩
  obtain ⟨dz, lt, n, l, r', oz, _⟩ := wz.obj
  have lc := lo.cur
  have dp := part_depth hu
  have dl := (cur t ds).depth_lt
  refine ⟨z, dz, _, rfl, oz, wf_put, _, rfl, _, rfl, z, _, q, u, o, v, rfl, wz, ho.gr (.of s1), hu, by show _ ≤ 64; omega, by show _ ≤ 64; omega, by omega, fun b H2 s2 wb => ?_⟩
  refine ⟨_, rfl, b, rfl, wb.is, b, _, rfl, wb, by show _ ≤ 64; omega, _, rfl, small_len (by omega), ?_⟩
  have s12 : Same H H2 := fun a u e => s2 a u (s1 a u e)
  refine ⟨_, _, rfl, rfl, _, rfl, ?_⟩
  rw [decide_eq_false (by omega)]
  have od2 := s12 _ _ od
  refine iteF ⟨_, rfl, p, _, dx, _, _, rfl, s12 _ _ ob, cl_Board T, no_Board_deeds T, bf_deeds, .inl ⟨rfl, _, SqL.of od2⟩, ?_⟩
  refine ⟨_, rfl, _, rfl, _, rfl, b, rfl, wb.is, b, _, rfl, wb, _, rfl, (by show 3 ≤ sizeLine; decide), fun c nc => ?_⟩
  have sc := same_upd (o := .tup [rlV r, .str (S (pth q)), .str (S (put (cur t ds) q v).txt)]) nc
  have od3 := sc _ _ od2
  refine ⟨d, _, _, rfl, rfl, od3, ?_, ?_⟩
  · rw [List.length_map, ed.1]
    exact Nat.lt_of_le_of_lt ln (by decide)
  have s3 : Same H (upd H2 c (.tup [rlV r, .str (S (pth q)), .str (S (put (cur t ds) q v).txt)])) := fun a u e => sc a u (s12 a u e)
  have x4 : Sx [d] H (upd (upd H2 c (.tup [rlV r, .str (S (pth q)), .str (S (put (cur t ds) q v).txt)])) d (.lst (ts.map V.ref ++ [.ref c]))) := fun a u e n => by
    rw [upd_ne (by simpa using n)]
    exact s3 a u e
  have g4 := Gr.sx x4 (fun a ha => by rw [List.mem_singleton.mp ha]; exact ⟨_, od⟩)
  refine k _ x4 ?_
  obtain ⟨zs, rfl, rfl, hz⟩ := ed.zs
  have ncd : c ≠ d := fun e => by
    rw [e, od2] at nc
    cases nc
  refine ⟨dx, pf, zs.map (·.1) ++ [c], ?_, wf.gr g4, ?_, ?_⟩
  · exact g4 _ _ ob (fun _ z => nomatch z) (fun _ z => nomatch z)
  · rw [upd_same, List.map_append]
    rfl
  · have e : zs.map (·.1) ++ [c] = (zs ++ [(c, (⟨r, q, put (cur t (zs.map (·.2))) q v⟩ : Deed))]).map (·.1) := by simp
    have e2 : zs.map (·.2) ++ [(⟨r, q, put (cur t (zs.map (·.2))) q v⟩ : Deed)] = (zs ++ [(c, (⟨r, q, put (cur t (zs.map (·.2))) q v⟩ : Deed))]).map (·.2) := by simp
    rw [e, e2]
    refine Each.of_zs fun z hz' => ?_
    rcases List.mem_append.mp hz' with h | h
    · exact (hz z h).gr g4
    · rw [List.mem_singleton.mp h]
      show upd _ d _ c = _
      rw [upd_ne ncd, upd_same]
      rfl
@[irreducible] def pm_partatI (K : PySem.W.Frag) : Pm := pm_partat K
@[irreducible] def pm_pairatI (K : PySem.W.Frag) : Pm := pm_pairat K
@[irreducible] def pm_changeI (K : PySem.W.Frag) : Pm := pm_change K
theorem partatI_eq : pm_partatI K = pm_partat K := by unfold pm_partatI; rfl
theorem pairatI_eq : pm_pairatI K = pm_pairat K := by unfold pm_pairatI; rfl
theorem changeI_eq : pm_changeI K = pm_change K := by unfold pm_changeI; rfl
theorem ok_partatI (T : Txt K mg) : Ok P w K mg base 134 (a_Board_part_at K) (pm_partatI K) := by rw [partatI_eq]; exact ok_partat T
theorem ok_pairatI (T : Txt K mg) : Ok P w K mg base 136 (a_Board_pair_at K) (pm_pairatI K) := by rw [pairatI_eq]; exact ok_pairat T
theorem ok_changeI (T : Txt K mg) : Ok P w K mg base 200 (a_Board_change K) (pm_changeI K) := by rw [changeI_eq]; exact ok_change T
end
end NL
set_option Elab.async false
set_option linter.all false
set_option maxRecDepth 100000
set_option maxHeartbeats 4000000
/-! Board: the deeds. -/
namespace NL
open PySem PySem.Spec PyProof.Rows L2 SX LamX
section
variable {P : Program} {w : World} {K : PySem.W.Frag} {mg : Str → Option Value} {base : Heap}
/-- ahead of a deed at a place -/
structure Pre (K : PySem.W.Frag) (H : Hp) (p d : Addr) (t : Tree) (ds : List Deed) (q : List Bool) (u : Tree) : Prop where
  b : BoardAt K H p d t ds
  lo : Low t ds
  ln : ds.length ≤ 1000
  at_ : part (cur t ds) q = some u
theorem Pre.same {H H' : Hp} {p d : Addr} {t : Tree} {ds : List Deed} {q : List Bool} {u : Tree} (h : Pre K H p d t ds q u) (s : Same H H') : Pre K H' p d t ds q u := ⟨h.b.same s, h.lo, h.ln, h.at_⟩
theorem Pre.ob {H : Hp} {p d : Addr} {t : Tree} {ds : List Deed} {q : List Bool} {u : Tree} (h : Pre K H p d t ds q u) : ∃ dx pf, H p = some (.ins (cBoard K) dx [("first", .ref pf), ("deeds", .ref d)]) := let ⟨dx, pf, _, o, _⟩ := h.b; ⟨dx, pf, o⟩
theorem Pre.put {H : Hp} {p d : Addr} {t : Tree} {ds : List Deed} {q : List Bool} {u v : Tree} (h : Pre K H p d t ds q u) (z : (put (cur t ds) q v).size ≤ 20) : v.size ≤ 20 := Nat.le_trans (put_part_size h.at_) z
/-- what a deed of the rule r promises: the part u at the place q becomes v -/
def pm_deed (K : PySem.W.Frag) (r : Rl) (F : Tree → Tree → Prop) : Pm := fun vs H Q => ∃ p d t ds q u v, vs = [.ref p, .str (S (pth q))] ∧ Pre K H p d t ds q u ∧ F u v ∧ (put (cur t ds) q v).size ≤ 20 ∧ Done K H p d t ds ⟨r, q, put (cur t ds) q v⟩ Q
/-- the last step of each -/
theorem to_change {H H' : Hp} {p d o : Addr} {t : Tree} {ds : List Deed} {q : List Bool} {u v : Tree} {r : Rl} {x : Str} {Q : VK} (h : Pre K H p d t ds q u) (s : Same H H') (hx : x = S [r.code]) (ho : WayAt K H' o v) (z : (put (cur t ds) q v).size ≤ 20) (k : Done K H p d t ds ⟨r, q, put (cur t ds) q v⟩ Q) :
    pm_changeI K [.ref p, .str x, .str (S (pth q)), .ref o] H' Q := by
  rw [changeI_eq]
  exact ⟨p, d, t, ds, r, q, u, o, v, by rw [hx]; rfl, (h.same s).b, h.lo, h.ln, h.at_, ho, z, h.put z, fun H2 x2 b2 => k H2 (fun a e i n => x2 a e (s a e i) n) b2⟩
theorem to_pair {H H' : Hp} {p d : Addr} {t : Tree} {ds : List Deed} {q : List Bool} {a b : Tree} {x : V} {Q : VK} (h : Pre K H p d t ds q (.nd a b)) (s : Same H H') (k : ∀ H2 z y1 y2, Same H H2 → H2 z = some (.tup [.ref y1, .ref y2]) → WayAt K H2 y1 a → WayAt K H2 y2 b → Q (.ref z) H2) :
    pm_pairatI K [.ref p, x, .str (S (pth q))] H' Q := by
  rw [pairatI_eq]
  exact ⟨p, d, t, ds, x, q, a, b, rfl, (h.same s).b, h.lo, h.at_, fun H2 z y1 y2 s2 => k H2 z y1 y2 fun i e j => s2 i e (s i e j)⟩
theorem to_part {H H' : Hp} {p d : Addr} {t : Tree} {ds : List Deed} {q : List Bool} {u : Tree} {x : V} {Q : VK} (h : Pre K H p d t ds q u) (s : Same H H') (k : ∀ H2 z, Same H H2 → WayAt K H2 z u → Q (.ref z) H2) :
    pm_partatI K [.ref p, x, .str (S (pth q))] H' Q := by
  rw [partatI_eq]
  exact ⟨p, d, t, ds, x, q, u, rfl, (h.same s).b, h.lo, h.at_, fun H2 z s2 => k H2 z fun i e j => s2 i e (s i e j)⟩
theorem to_mul {H : Hp} {y1 y2 : Addr} {a b : Tree} {Q : VK} (w1 : WayAt K H y1 a) (w2 : WayAt K H y2 b) (z : (Tree.nd a b).size ≤ 20) (k : ∀ z H', Same H H' → WayAt K H' z (.nd a b) → Q (.ref z) H') :
    rOwn2 (cWay K) (pm_wmul K) (.ref y1) (.ref y2) H Q := ⟨y1, y2, rfl, rfl, w1.is, w2.is, y1, y2, a, b, rfl, w1, w2, by show _ ≤ 64; omega, k⟩
theorem ok_exchange (T : Txt K mg) : Ok P w K mg base 202 (a_Board_exchange K) (pm_deed K .C fun u v => ∃ a b, u = .nd a b ∧ v = .nd b a) := by
  have G1 : Ok P w K mg base 136 (a_Board_pair_at K) (pm_pairatI K) := ok_pairatI T
  have G2 : Ok P w K mg base 200 (a_Board_change K) (pm_changeI K) := ok_changeI T
  have GM : Ok P w K mg base 132 (a_Way_mul K) (pm_wmul K) := ok_wmul T
  refine ok_of (F_Board_exchange T) cBoard_exchange b_Board_exchange (fun vs H Q h => ?_) (fun cdv A outer s H vs Q E hr h => ?_)
  · obtain ⟨p, d, t, ds, q, u, v, rfl, _⟩ := h
    rfl
  obtain ⟨p, d, t, ds, q, u, v, rfl, h, ⟨a, b, rfl, rfl⟩, z, k⟩ := h
  refine ⟨_, pss_cons (ps_asg (e_meth (pv 0) (cl_Board T) (m_Board_pair_at T) G1 hr (by omega) (pa_cons pe_str (pa_cons (pv 1) pa_nil))) (pg_tup rfl (pgs_cons (pg_name (i := 2) cBoard_exchange.nd rfl (.inl rfl)) (pgs_cons (pg_name (i := 3) cBoard_exchange.nd rfl (.inl rfl)) pgs_nil))))
    (pss_one (ps_expr (e_meth (pv 0) (cl_Board T) (m_Board_change T) G2 hr (by omega) (pa_cons pe_str (pa_cons (pv 1) (pa_cons (pe_op (o_mul GM (m_Way_mul T) (sf_Way T) hr (by omega)) (pv 3) (pv 2)) pa_nil)))))), ?_⟩
  obtain ⟨dx, pf, o⟩ := h.ob
  refine ⟨_, rfl, p, dx, _, rfl, o, bf_pair_at, _, rfl, ?_⟩
  refine to_pair h (Same.refl H) fun H1 c y1 y2 s1 hc w1 w2 => ?_
  refine ⟨c, _, rfl, SqT.of hc, rfl, _, _, rfl, _, _, rfl, rfl, ?_⟩
  refine ⟨_, rfl, p, dx, _, rfl, s1 _ _ o, bf_change, _, rfl, _, rfl, _, rfl, to_mul w2 w1 (h.put z) fun x H2 s2 w3 => ?_⟩
  exact to_change (r := .C) h (fun i e j => s2 i e (s1 i e j)) cC w3 z k
theorem WayAt.nameIs {H : Hp} : ∀ {t : Tree} {p : Addr}, WayAt K H p t → ∃ dx lt n l r, H p = some (.ins (cWay K) dx (wayF (.str (S t.txt)) (.str (S n)) l r lt)) ∧ ∀ x : L, n = [x.code] ↔ t = .lf x
  | .lf y, p, ⟨dx, lt, e, _⟩ => ⟨dx, lt, _, _, _, e, fun x => ⟨fun h => by rw [L.code_inj (x := y) (y := x) (by simpa using h)], fun h => by injection h with h; rw [h]⟩⟩
  | .nd a b, p, ⟨dx, lt, l, r, e, _⟩ => ⟨dx, lt, _, _, _, e, fun x => ⟨fun h => by simp at h, fun h => nomatch h⟩⟩
theorem ok_double (T : Txt K mg) : Ok P w K mg base 202 (a_Board_double K) (pm_deed K .I fun u v => v = .nd u u) := by
  have G1 : Ok P w K mg base 134 (a_Board_part_at K) (pm_partatI K) := ok_partatI T
  have G2 : Ok P w K mg base 200 (a_Board_change K) (pm_changeI K) := ok_changeI T
  have GM : Ok P w K mg base 132 (a_Way_mul K) (pm_wmul K) := ok_wmul T
  refine ok_of (F_Board_double T) cBoard_double b_Board_double (fun vs H Q h => ?_) (fun cdv A outer s H vs Q E hr h => ?_)
  · obtain ⟨p, d, t, ds, q, u, v, rfl, _⟩ := h
    rfl
  obtain ⟨p, d, t, ds, q, u, v, rfl, h, rfl, z, k⟩ := h
  refine ⟨_, pss_cons (ps_set (i := 2) cBoard_double.nd rfl (.inl rfl) (e_meth (pv 0) (cl_Board T) (m_Board_part_at T) G1 hr (by omega) (pa_cons pe_str (pa_cons (pv 1) pa_nil))))
    (pss_one (ps_expr (e_meth (pv 0) (cl_Board T) (m_Board_change T) G2 hr (by omega) (pa_cons pe_str (pa_cons (pv 1) (pa_cons (pe_op (o_mul GM (m_Way_mul T) (sf_Way T) hr (by omega)) (pv 2) (pv 2)) pa_nil)))))), ?_⟩
  obtain ⟨dx, pf, o⟩ := h.ob
  refine ⟨_, rfl, p, dx, _, rfl, o, bf_part_at, _, rfl, ?_⟩
  refine to_part h (Same.refl H) fun H1 c s1 w1 => ?_
  refine ⟨_, rfl, p, dx, _, rfl, s1 _ _ o, bf_change, _, rfl, _, rfl, _, rfl, to_mul w1 w1 (h.put z) fun x H2 s2 w3 => ?_⟩
  exact to_change (r := .I) h (fun i e j => s2 i e (s1 i e j)) cI w3 z k
theorem ok_single (T : Txt K mg) : Ok P w K mg base 202 (a_Board_single K) (pm_deed K .I fun u v => u = .nd v v) := by
  have G1 : Ok P w K mg base 136 (a_Board_pair_at K) (pm_pairatI K) := ok_pairatI T
  have G2 : Ok P w K mg base 200 (a_Board_change K) (pm_changeI K) := ok_changeI T
  have GE : Ok P w K mg base 1 (a_Way_eq K) (pm_weq K) := ok_weq T
  refine ok_of (F_Board_single T) cBoard_single b_Board_single (fun vs H Q h => ?_) (fun cdv A outer s H vs Q E hr h => ?_)
  · obtain ⟨p, d, t, ds, q, u, v, rfl, _⟩ := h
    rfl
  obtain ⟨p, d, t, ds, q, u, v, rfl, h, rfl, z, k⟩ := h
  refine ⟨_, pss_cons (ps_asg (e_meth (pv 0) (cl_Board T) (m_Board_pair_at T) G1 hr (by omega) (pa_cons pe_str (pa_cons (pv 1) pa_nil))) (pg_tup rfl (pgs_cons (pg_name (i := 2) cBoard_single.nd rfl (.inl rfl)) (pgs_cons (pg_name (i := 3) cBoard_single.nd rfl (.inl rfl)) pgs_nil))))
    (pss_cons (ps_if (pt_not (pt_cmpR (o_eq GE (m_Way_eq T) hr (by omega)) (pv 2) (pv 3) (nomark _))) (pss_one ps_never) pss_nil)
    (pss_one (ps_expr (e_meth (pv 0) (cl_Board T) (m_Board_change T) G2 hr (by omega) (pa_cons pe_str (pa_cons (pv 1) (pa_cons (pv 2) pa_nil))))))), ?_⟩
  obtain ⟨dx, pf, o⟩ := h.ob
  refine ⟨_, rfl, p, dx, _, rfl, o, bf_pair_at, _, rfl, ?_⟩
  refine to_pair h (Same.refl H) fun H1 c y1 y2 s1 hc w1 w2 => ?_
  refine ⟨c, _, rfl, SqT.of hc, rfl, _, _, rfl, _, _, rfl, rfl, ?_⟩
  refine ⟨_, rfl, _, rfl, y1, y2, rfl, rfl, w1.is, w2.is, y1, y2, _, _, rfl, w1, w2, _, rfl, ?_⟩
  rw [decide_eq_true rfl]
  refine iteF ⟨_, rfl, p, dx, _, rfl, s1 _ _ o, bf_change, _, rfl, _, rfl, ?_⟩
  exact to_change (r := .I) h s1 cI w1 z k
theorem ok_bare (T : Txt K mg) : Ok P w K mg base 202 (a_Board_bare K) (pm_deed K .U fun u v => ∃ a b, u = .nd a b ∧ ((a = .lf .e ∧ v = b) ∨ (a ≠ .lf .e ∧ b = .lf .e ∧ v = a))) := by
  have G1 : Ok P w K mg base 136 (a_Board_pair_at K) (pm_pairatI K) := ok_pairatI T
  have G2 : Ok P w K mg base 200 (a_Board_change K) (pm_changeI K) := ok_changeI T
  refine ok_of (F_Board_bare T) cBoard_bare b_Board_bare (fun vs H Q h => ?_) (fun cdv A outer s H vs Q E hr h => ?_)
  · obtain ⟨p, d, t, ds, q, u, v, rfl, _⟩ := h
    rfl
  obtain ⟨p, d, t, ds, q, u, v, rfl, h, ⟨a, b, rfl, hc⟩, z, k⟩ := h
  refine ⟨_, pss_cons (ps_asg (e_meth (pv 0) (cl_Board T) (m_Board_pair_at T) G1 hr (by omega) (pa_cons pe_str (pa_cons (pv 1) pa_nil))) (pg_tup rfl (pgs_cons (pg_name (i := 2) cBoard_bare.nd rfl (.inl rfl)) (pgs_cons (pg_name (i := 3) cBoard_bare.nd rfl (.inl rfl)) pgs_nil))))
    (pss_one (ps_if (pt_cmpR op_eq (pe_fld (pv 2) rfl) pe_str (nomark _)) (pss_one (ps_expr (e_meth (pv 0) (cl_Board T) (m_Board_change T) G2 hr (by omega) (pa_cons pe_str (pa_cons (pv 1) (pa_cons (pv 3) pa_nil))))))
      (pss_one (ps_if (pt_cmpR op_eq (pe_fld (pv 3) rfl) pe_str (nomark _)) (pss_one (ps_expr (e_meth (pv 0) (cl_Board T) (m_Board_change T) G2 hr (by omega) (pa_cons pe_str (pa_cons (pv 1) (pa_cons (pv 2) pa_nil))))))
        (pss_one ps_never))))), ?_⟩
  obtain ⟨dx, pf, o⟩ := h.ob
  refine ⟨_, rfl, p, dx, _, rfl, o, bf_pair_at, _, rfl, ?_⟩
  refine to_pair h (Same.refl H) fun H1 c y1 y2 s1 hcc w1 w2 => ?_
  refine ⟨c, _, rfl, SqT.of hcc, rfl, _, _, rfl, _, _, rfl, rfl, ?_⟩
  obtain ⟨d1, t1, n1, l1, r1, o1, m1⟩ := w1.nameIs
  obtain ⟨d2, t2, n2, l2, r2, o2, m2⟩ := w2.nameIs
  have ee : ("e" : Str) = S [L.e.code] := by decide +kernel
  refine ⟨_, rfl, y1, _, d1, _, _, rfl, o1, cl_Way T, no_Way_name T, wf_name, rfl, _, rfl, ?_⟩
  rw [ee, dec_S, decide_eq_decide.mpr (m1 .e)]
  rcases hc with ⟨ha, rfl⟩ | ⟨ha, hb, rfl⟩
  · rw [decide_eq_true ha]
    exact iteT ⟨_, rfl, p, dx, _, rfl, s1 _ _ o, bf_change, _, rfl, _, rfl, to_change (r := .U) h s1 cU w2 z k⟩
  · rw [decide_eq_false ha]
    refine iteF ⟨_, rfl, y2, _, d2, _, _, rfl, o2, cl_Way T, no_Way_name T, wf_name, rfl, _, rfl, ?_⟩
    rw [dec_S, decide_eq_decide.mpr (m2 .e), decide_eq_true hb]
    exact iteT ⟨_, rfl, p, dx, _, rfl, s1 _ _ o, bf_change, _, rfl, _, rfl, to_change (r := .U) h s1 cU w1 z k⟩
theorem ok_swallow (T : Txt K mg) : Ok P w K mg base 202 (a_Board_swallow K) (pm_deed K .Z fun u v => ∃ a b, u = .nd a b ∧ (a = .lf .z ∨ b = .lf .z) ∧ v = .lf .z) := by
  have G1 : Ok P w K mg base 136 (a_Board_pair_at K) (pm_pairatI K) := ok_pairatI T
  have G2 : Ok P w K mg base 200 (a_Board_change K) (pm_changeI K) := ok_changeI T
  have GW : Ok P w K mg base 130 (a_Way_init K) (pm_winit (K := K) 64) := ok_way T
  refine ok_of (F_Board_swallow T) cBoard_swallow b_Board_swallow (fun vs H Q h => ?_) (fun cdv A outer s H vs Q E hr h => ?_)
  · obtain ⟨p, d, t, ds, q, u, v, rfl, _⟩ := h
    rfl
  obtain ⟨p, d, t, ds, q, u, v, rfl, h, ⟨a, b, rfl, hc, rfl⟩, z, k⟩ := h
  refine ⟨_, pss_cons (ps_asg (e_meth (pv 0) (cl_Board T) (m_Board_pair_at T) G1 hr (by omega) (pa_cons pe_str (pa_cons (pv 1) pa_nil))) (pg_tup rfl (pgs_cons (pg_name (i := 2) cBoard_swallow.nd rfl (.inl rfl)) (pgs_cons (pg_name (i := 3) cBoard_swallow.nd rfl (.inl rfl)) pgs_nil))))
    (pss_cons (ps_if (PW.pt (pw_and (pt_cmpR op_ne (pe_fld (pv 2) rfl) pe_str (nomark _)) (pw_and1 (pt_cmpR op_ne (pe_fld (pv 3) rfl) pe_str (nomark _))))) (pss_one ps_never) pss_nil)
    (pss_one (ps_expr (e_meth (pv 0) (cl_Board T) (m_Board_change T) G2 hr (by omega) (pa_cons pe_str (pa_cons (pv 1) (pa_cons (e_make (mk_Way T) GW hr (by omega) (g_Way T) (pa_cons pe_str pa_nil)) pa_nil))))))), ?_⟩
  obtain ⟨dx, pf, o⟩ := h.ob
  refine ⟨_, rfl, p, dx, _, rfl, o, bf_pair_at, _, rfl, ?_⟩
  refine to_pair h (Same.refl H) fun H1 c y1 y2 s1 hcc w1 w2 => ?_
  refine ⟨c, _, rfl, SqT.of hcc, rfl, _, _, rfl, _, _, rfl, rfl, ?_⟩
  obtain ⟨d1, t1, n1, l1, r1, o1, m1⟩ := w1.nameIs
  obtain ⟨d2, t2, n2, l2, r2, o2, m2⟩ := w2.nameIs
  have ee : ("z" : Str) = S [L.z.code] := by decide +kernel
  refine ⟨_, rfl, y1, _, d1, _, _, rfl, o1, cl_Way T, no_Way_name T, wf_name, rfl, _, rfl, ?_⟩
  rw [ee, dec_S, decide_eq_decide.mpr (m1 .z)]
  refine' suff (fun hN => ?goA) ?goB
  case goA =>
    by_cases ha : a = .lf .z
    · rw [decide_eq_true ha]
      exact iteF (iteF hN)
    · rw [decide_eq_false ha]
      refine iteT ⟨_, rfl, y2, _, d2, _, _, rfl, o2, cl_Way T, no_Way_name T, wf_name, rfl, _, rfl, ?_⟩
      rw [dec_S, decide_eq_decide.mpr (m2 .z), decide_eq_true (hc.resolve_left ha)]
      exact iteF hN
  case goB =>
  refine ⟨_, rfl, p, dx, _, rfl, s1 _ _ o, bf_change, _, rfl, ?_⟩
  intro x dz nx nd ne
  exact made_way (t := .lf .z) (R := fun v H2 => pm_changeI K [.ref p, .str "Z", .str (S (pth q)), v] H2 fun _ H3 => Q .non H3) (by decide) (fun y H2 s2 w3 => to_change (r := .Z) h (fun i e j => s2 i e (s1 i e j)) cZ w3 z k) nx nd ne rfl
end
end NL
set_option Elab.async false
set_option linter.all false
set_option maxRecDepth 100000
set_option maxHeartbeats 4000000
/-! Board: the deeds with a side. -/
namespace NL
open PySem PySem.Spec PyProof.Rows L2 SX LamX
section
variable {P : Program} {w : World} {K : PySem.W.Frag} {mg : Str → Option Value} {base : Heap}
section
variable {name qual : Str} {st : Stmt} {f : Addr} {N ps : List Str} {k n : Nat} {pm : Pm}
/-- a def whose one keyword-only default is used -/
theorem ok_ofK0 {x : Str} {v : V} (F : ∃ fd, FunD K name qual (defArgs st) (defBody st) (defScope st) [] [(x, v)] f fd) (S : FnScope N ps (defScope st)) (hn : n + 1 = ps.length)
    (b : ∀ (D : Addr) (doc pm : Value) (an : Option Addr) (cdv ct : Value) (us ks : List Value), us.length = n → ks.length = 1 →
      KwChain D ([x].zip ks) (bindArgs (PySem.W.fnOf name qual (defArgs st) (defBody st) (defScope st) .none (.ref D) doc pm an cdv ct) ⟨us, []⟩) (ps.zip (us ++ ks)))
    (len : ∀ vs H Q, pm vs H Q → vs.length = ps.length) (hbody : Bod P w K mg base N qual st f k pm) : Ok P w K mg base (k + 1) f (fun vs H Q => pm (vs ++ [v]) H Q) := by
  obtain ⟨fd, F⟩ := F
  obtain ⟨ds, r, hb⟩ := F.binds0 (ps := ps) n (by simp) hn b
  have r' : Vals [v] ds := r
  have G := (fnok F S len hbody).raw hb r'
  exact G
end
/-- what a deed with a side promises -/
def pm_side (K : PySem.W.Frag) (r : Rl) (F : Bool → Tree → Tree → Prop) : Pm := fun vs H Q => ∃ p d t ds q u v s, vs = [.ref p, .str (S (pth q)), .bl s] ∧ Pre K H p d t ds q u ∧ F s u v ∧ (put (cur t ds) q v).size ≤ 20 ∧ Done K H p d t ds ⟨r, q, put (cur t ds) q v⟩ Q
theorem bod_pad (T : Txt K mg) : Bod P w K mg base nBoard_pad "Board.pad" sBoard_pad (a_Board_pad K) 201 (pm_side K .U fun s u v => v = if s = true then .nd (.lf .e) u else .nd u (.lf .e)) := by
  have G1 : Ok P w K mg base 134 (a_Board_part_at K) (pm_partatI K) := ok_partatI T
  have G2 : Ok P w K mg base 200 (a_Board_change K) (pm_changeI K) := ok_changeI T
  have GM : Ok P w K mg base 132 (a_Way_mul K) (pm_wmul K) := ok_wmul T
  have GW : Ok P w K mg base 130 (a_Way_init K) (pm_winit (K := K) 64) := ok_way T
  intro cdv A outer s H vs Q E hr h
  obtain ⟨p, d, t, ds, q, u, v, sd, rfl, h, rfl, z, k⟩ := h
  refine ⟨_, pss_cons (ps_set (i := 3) cBoard_pad.nd rfl (.inl rfl) (e_meth (pv 0) (cl_Board T) (m_Board_part_at T) G1 hr (by omega) (pa_cons pe_str (pa_cons (pv 1) pa_nil))))
    (pss_one (ps_if (pt_val (pv 2))
      (pss_one (ps_expr (e_meth (pv 0) (cl_Board T) (m_Board_change T) G2 hr (by omega) (pa_cons pe_str (pa_cons (pv 1) (pa_cons (pe_op (o_mul GM (m_Way_mul T) (sf_Way T) hr (by omega)) (e_make (mk_Way T) GW hr (by omega) (g_Way T) (pa_cons pe_str pa_nil)) (pv 3)) pa_nil))))))
      (pss_one (ps_expr (e_meth (pv 0) (cl_Board T) (m_Board_change T) G2 hr (by omega) (pa_cons pe_str (pa_cons (pv 1) (pa_cons (pe_op (o_mul GM (m_Way_mul T) (sf_Way T) hr (by omega)) (pv 3) (e_make (mk_Way T) GW hr (by omega) (g_Way T) (pa_cons pe_str pa_nil))) pa_nil)))))))), ?_⟩
  obtain ⟨dx, pf, o⟩ := h.ob
  refine ⟨_, rfl, p, dx, _, rfl, o, bf_part_at, _, rfl, ?_⟩
  refine to_part h (Same.refl H) fun H1 c s1 w1 => ?_
  refine ⟨_, rfl, _, rfl, ?_⟩
  have zz := h.put z
  cases sd with
  | true =>
    refine iteT ⟨_, rfl, p, dx, _, rfl, s1 _ _ o, bf_change, _, rfl, ?_⟩
    intro x dz nx nd ne
    refine made_way (t := .lf .e) (R := fun v H2 => tVar 3 _ H2 fun y H3 => rOwn2 (cWay K) (pm_wmul K) v y H3 fun z H4 => pm_changeI K [.ref p, .str "U", .str (S (pth q)), z] H4 fun _ H5 => Q .non H5) (by decide) (fun y H2 s2 w3 => ?_) nx nd ne rfl
    exact ⟨_, rfl, to_mul w3 (w1.gr (.of s2)) zz fun a H3 s3 w4 => to_change (r := .U) h (fun i e j => s3 i e (s2 i e (s1 i e j))) cU w4 z k⟩
  | false =>
    refine iteF ⟨_, rfl, p, dx, _, rfl, s1 _ _ o, bf_change, _, rfl, _, rfl, ?_⟩
    intro x dz nx nd ne
    refine made_way (t := .lf .e) (R := fun v H2 => rOwn2 (cWay K) (pm_wmul K) (.ref c) v H2 fun z H4 => pm_changeI K [.ref p, .str "U", .str (S (pth q)), z] H4 fun _ H5 => Q .non H5) (by decide) (fun y H2 s2 w3 => ?_) nx nd ne rfl
    exact to_mul (w1.gr (.of s2)) w3 zz fun a H3 s3 w4 => to_change (r := .U) h (fun i e j => s3 i e (s2 i e (s1 i e j))) cU w4 z k
def padF : Bool → Tree → Tree → Prop := fun s u v => v = if s = true then .nd (.lf .e) u else .nd u (.lf .e)
def regF : Bool → Tree → Tree → Prop := fun s u v => ∃ a b c, if s = true then u = .nd a (.nd b c) ∧ v = .nd (.nd a b) c else u = .nd (.nd a b) c ∧ v = .nd a (.nd b c)
theorem bod_regroup (T : Txt K mg) : Bod P w K mg base nBoard_regroup "Board.regroup" sBoard_regroup (a_Board_regroup K) 201 (pm_side K .A regF) := by
  have G1 : Ok P w K mg base 136 (a_Board_pair_at K) (pm_pairatI K) := ok_pairatI T
  have G2 : Ok P w K mg base 200 (a_Board_change K) (pm_changeI K) := ok_changeI T
  have GM : Ok P w K mg base 132 (a_Way_mul K) (pm_wmul K) := ok_wmul T
  intro cdv A outer s H vs Q E hr h
  obtain ⟨p, d, t, ds, q, u, v, sd, rfl, h, ⟨a, b, c, hf⟩, z, k⟩ := h
  refine ⟨_, pss_cons (ps_asg (e_meth (pv 0) (cl_Board T) (m_Board_pair_at T) G1 hr (by omega) (pa_cons pe_str (pa_cons (pv 1) pa_nil))) (pg_tup rfl (pgs_cons (pg_name (i := 3) cBoard_regroup.nd rfl (.inl rfl)) (pgs_cons (pg_name (i := 4) cBoard_regroup.nd rfl (.inl rfl)) pgs_nil))))
    (pss_cons (ps_set (i := 5) cBoard_regroup.nd rfl (.inl rfl) (pe_ifExp (pt_val (pv 2)) (pv 4) (pv 3)))
    (pss_cons (ps_if (pt_cmpR op_isN (pe_fld (pv 5) rfl) pe_non (nomark _)) (pss_one ps_never) pss_nil)
    (pss_one (ps_if (pt_val (pv 2))
      (pss_one (ps_expr (e_meth (pv 0) (cl_Board T) (m_Board_change T) G2 hr (by omega) (pa_cons pe_str (pa_cons (pv 1) (pa_cons (pe_op (o_mul GM (m_Way_mul T) (sf_Way T) hr (by omega)) (pe_op (o_mul GM (m_Way_mul T) (sf_Way T) hr (by omega)) (pv 3) (pe_fld (pv 5) rfl)) (pe_fld (pv 5) rfl)) pa_nil))))))
      (pss_one (ps_expr (e_meth (pv 0) (cl_Board T) (m_Board_change T) G2 hr (by omega) (pa_cons pe_str (pa_cons (pv 1) (pa_cons (pe_op (o_mul GM (m_Way_mul T) (sf_Way T) hr (by omega)) (pe_fld (pv 5) rfl) (pe_op (o_mul GM (m_Way_mul T) (sf_Way T) hr (by omega)) (pe_fld (pv 5) rfl) (pv 4))) pa_nil)))))))))), ?_⟩
  obtain ⟨dx, pf, o⟩ := h.ob
  have zz := h.put z
  refine ⟨_, rfl, p, dx, _, rfl, o, bf_pair_at, _, rfl, ?_⟩
  cases sd with
  | true =>
    obtain ⟨rfl, rfl⟩ := hf
    have za : a.size + b.size + c.size ≤ 20 := zz
    refine to_pair h (Same.refl H) fun H1 x y1 y2 s1 hc w1 w2 => ?_
    refine ⟨x, _, rfl, SqT.of hc, rfl, _, _, rfl, _, _, rfl, rfl, ?_⟩
    obtain ⟨dz, lt, z1, z2, oz, f, wl, wr⟩ := w2
    refine ⟨_, rfl, _, rfl, iteT ⟨_, rfl, ?_⟩⟩
    refine ⟨_, rfl, y2, _, dz, _, _, rfl, oz, cl_Way T, no_Way_left T, wf_left, rfl, _, rfl, ?_⟩
    refine iteF ⟨_, rfl, _, rfl, ?_⟩
    refine iteT ⟨_, rfl, p, dx, _, rfl, s1 _ _ o, bf_change, _, rfl, _, rfl, _, rfl, y2, _, dz, _, _, rfl, oz, cl_Way T, no_Way_left T, wf_left, ?_⟩
    refine to_mul w1 wl (by show a.size + b.size ≤ 20; omega) fun m H2 s2 wm => ?_
    refine ⟨_, rfl, y2, _, dz, _, _, rfl, s2 _ _ oz, cl_Way T, no_Way_right T, wf_right, ?_⟩
    refine to_mul wm (wr.gr (.of s2)) zz fun n H3 s3 wn => ?_
    exact to_change (r := .A) h (fun i e j => s3 i e (s2 i e (s1 i e j))) cA wn z k
  | false =>
    obtain ⟨rfl, rfl⟩ := hf
    have za : a.size + (b.size + c.size) ≤ 20 := zz
    refine to_pair h (Same.refl H) fun H1 x y1 y2 s1 hc w1 w2 => ?_
    refine ⟨x, _, rfl, SqT.of hc, rfl, _, _, rfl, _, _, rfl, rfl, ?_⟩
    obtain ⟨dz, lt, z1, z2, oz, f, wl, wr⟩ := w1
    refine ⟨_, rfl, _, rfl, iteF ⟨_, rfl, ?_⟩⟩
    refine ⟨_, rfl, y1, _, dz, _, _, rfl, oz, cl_Way T, no_Way_left T, wf_left, rfl, _, rfl, ?_⟩
    refine iteF ⟨_, rfl, _, rfl, ?_⟩
    refine iteF ⟨_, rfl, p, dx, _, rfl, s1 _ _ o, bf_change, _, rfl, _, rfl, y1, _, dz, _, _, rfl, oz, cl_Way T, no_Way_left T, wf_left, _, rfl, y1, _, dz, _, _, rfl, oz, cl_Way T, no_Way_right T, wf_right, _, rfl, ?_⟩
    refine to_mul wr w2 (by show b.size + c.size ≤ 20; omega) fun m H2 s2 wm => ?_
    refine to_mul (wl.gr (.of s2)) wm zz fun n H3 s3 wn => ?_
    exact to_change (r := .A) h (fun i e j => s3 i e (s2 i e (s1 i e j))) cA wn z k
/-- the same, with a way handed in -/
def pm_spread (K : PySem.W.Frag) : Pm := fun vs H Q => ∃ p d t ds q u v s o x, vs = [.ref p, .str (S (pth q)), .ref o, .bl s] ∧ Pre K H p d t ds q u ∧ WayAt K H o x ∧ u = .lf .z ∧ (v = if s = true then .nd x u else .nd u x) ∧ (put (cur t ds) q v).size ≤ 20 ∧ Done K H p d t ds ⟨.Z, q, put (cur t ds) q v⟩ Q
theorem bod_spread (T : Txt K mg) : Bod P w K mg base nBoard_spread "Board.spread" sBoard_spread (a_Board_spread K) 201 (pm_spread K) := by
  have G1 : Ok P w K mg base 134 (a_Board_part_at K) (pm_partatI K) := ok_partatI T
  have G2 : Ok P w K mg base 200 (a_Board_change K) (pm_changeI K) := ok_changeI T
  have GM : Ok P w K mg base 132 (a_Way_mul K) (pm_wmul K) := ok_wmul T
  intro cdv A outer s H vs Q E hr h
  obtain ⟨p, d, t, ds, q, u, v, sd, oo, x, rfl, h, wo, rfl, rfl, z, k⟩ := h
  refine ⟨_, pss_cons (ps_set (i := 4) cBoard_spread.nd rfl (.inl rfl) (e_meth (pv 0) (cl_Board T) (m_Board_part_at T) G1 hr (by omega) (pa_cons pe_str (pa_cons (pv 1) pa_nil))))
    (pss_cons (ps_if (pt_cmpR op_ne (pe_fld (pv 4) rfl) pe_str (nomark _)) (pss_one ps_never) pss_nil)
    (pss_one (ps_if (pt_val (pv 3))
      (pss_one (ps_expr (e_meth (pv 0) (cl_Board T) (m_Board_change T) G2 hr (by omega) (pa_cons pe_str (pa_cons (pv 1) (pa_cons (pe_op (o_mul GM (m_Way_mul T) (sf_Way T) hr (by omega)) (pv 2) (pv 4)) pa_nil))))))
      (pss_one (ps_expr (e_meth (pv 0) (cl_Board T) (m_Board_change T) G2 hr (by omega) (pa_cons pe_str (pa_cons (pv 1) (pa_cons (pe_op (o_mul GM (m_Way_mul T) (sf_Way T) hr (by omega)) (pv 4) (pv 2)) pa_nil))))))))), ?_⟩
  obtain ⟨dx, pf, o⟩ := h.ob
  have zz := h.put z
  refine ⟨_, rfl, p, dx, _, rfl, o, bf_part_at, _, rfl, ?_⟩
  refine to_part h (Same.refl H) fun H1 c s1 w1 => ?_
  obtain ⟨dz, lt, oz, f⟩ := id w1
  have ee : (!decide (leafV L.z = V.str ("z" : Str))) = false := by decide +kernel
  refine ⟨_, rfl, c, _, dz, _, _, rfl, oz, cl_Way T, no_Way_name T, wf_name, rfl, _, rfl, ?_⟩
  rw [ee]
  refine iteF ⟨_, rfl, _, rfl, ?_⟩
  cases sd with
  | true =>
    refine iteT ⟨_, rfl, p, dx, _, rfl, s1 _ _ o, bf_change, _, rfl, _, rfl, _, rfl, ?_⟩
    refine to_mul (wo.gr (.of s1)) w1 zz fun a H3 s3 w4 => ?_
    exact to_change (r := .Z) h (fun i e j => s3 i e (s1 i e j)) cZ w4 z k
  | false =>
    refine iteF ⟨_, rfl, p, dx, _, rfl, s1 _ _ o, bf_change, _, rfl, _, rfl, _, rfl, ?_⟩
    refine to_mul w1 (wo.gr (.of s1)) zz fun a H3 s3 w4 => ?_
    exact to_change (r := .Z) h (fun i e j => s3 i e (s1 i e j)) cZ w4 z k
theorem len_side {r : Rl} {F : Bool → Tree → Tree → Prop} : ∀ vs H Q, pm_side K r F vs H Q → vs.length = 3 := fun vs H Q ⟨p, d, t, ds, q, u, v, sd, e, _⟩ => by rw [e]; rfl
theorem ok_pad0 (T : Txt K mg) : Ok P w K mg base 202 (a_Board_pad K) (fun vs H Q => pm_side K .U padF (vs ++ [.bl false]) H Q) :=
  ok_ofK0 (n := 2) (F_Board_pad T) cBoard_pad rfl (fun D doc pm an cdv ct us ks h1 h2 => match us, ks, h1, h2 with | [_, _], [_], _, _ => ⟨_, _, _, _, _, _, rfl, rfl, rfl⟩) len_side (bod_pad T)
theorem ok_pad1 (T : Txt K mg) : OkK P w K mg base 202 (a_Board_pad K) ["left"] (fun vs zs H Q => vs.length = 2 ∧ pm_side K .U padF (vs ++ zs) H Q) := okK_of (F_Board_pad T) cBoard_pad b_Board_pad len_side (bod_pad T)
theorem ok_regroup0 (T : Txt K mg) : Ok P w K mg base 202 (a_Board_regroup K) (fun vs H Q => pm_side K .A regF (vs ++ [.bl false]) H Q) :=
  ok_ofK0 (n := 2) (F_Board_regroup T) cBoard_regroup rfl (fun D doc pm an cdv ct us ks h1 h2 => match us, ks, h1, h2 with | [_, _], [_], _, _ => ⟨_, _, _, _, _, _, rfl, rfl, rfl⟩) len_side (bod_regroup T)
theorem ok_regroup1 (T : Txt K mg) : OkK P w K mg base 202 (a_Board_regroup K) ["left"] (fun vs zs H Q => vs.length = 2 ∧ pm_side K .A regF (vs ++ zs) H Q) := okK_of (F_Board_regroup T) cBoard_regroup b_Board_regroup len_side (bod_regroup T)
theorem len_spread : ∀ vs H Q, pm_spread K vs H Q → vs.length = 4 := fun vs H Q ⟨p, d, t, ds, q, u, v, sd, o, x, e, _⟩ => by rw [e]; rfl
theorem ok_spread0 (T : Txt K mg) : Ok P w K mg base 202 (a_Board_spread K) (fun vs H Q => pm_spread K (vs ++ [.bl false]) H Q) :=
  ok_ofK0 (n := 3) (F_Board_spread T) cBoard_spread rfl (fun D doc pm an cdv ct us ks h1 h2 => match us, ks, h1, h2 with | [_, _, _], [_], _, _ => ⟨_, _, _, _, _, _, rfl, rfl, rfl⟩) len_spread (bod_spread T)
theorem ok_spread1 (T : Txt K mg) : OkK P w K mg base 202 (a_Board_spread K) ["left"] (fun vs zs H Q => vs.length = 3 ∧ pm_spread K (vs ++ zs) H Q) := okK_of (F_Board_spread T) cBoard_spread b_Board_spread len_spread (bod_spread T)
end
end NL
set_option Elab.async false
set_option linter.all false
set_option maxRecDepth 100000
set_option maxHeartbeats 4000000
/-! Board: used, steps, needed, spared, undo. -/
namespace NL
open PySem PySem.Spec PyProof.Rows L2 SX LamX
/-- the rules of all deeds -/
def usedR (ds : List Deed) : RS := rsOf (ds.map fun d => d.rl.code)
theorem rl_lets (r : Rl) : r.code ∈ lets := by cases r <;> decide
theorem join_one (l : List Nat) : Txt.join ("" : Str) (l.map fun c => S [c]) = S l := by
  have e : (l.map fun c => S [c]) = (l.map fun c => [c]).map S := by rw [List.map_map]; rfl
  have e0 : ("" : Str) = S [] := by decide +kernel
  rw [e, e0, join_S]
  congr 1
  induction l with
  | nil => rfl
  | cons a l ih =>
    cases l with
    | nil => rfl
    | cons b l =>
      simp only [List.map_cons, TL.joinL] at ih ⊢
      rw [ih (by rw [List.map_map]; rfl)]
      rfl
section
variable {P : Program} {w : World} {K : PySem.W.Frag} {mg : Str → Option Value} {base : Heap}
def pm_bused (K : PySem.W.Frag) : Pm := fun vs H Q => ∃ p d t ds, vs = [.ref p] ∧ BoardAt K H p d t ds ∧ ds.length ≤ 1000 ∧ ∀ H' r, Same H H' → RulesAt K H' r (usedR ds) → Q (.ref r) H'
theorem ok_bused (T : Txt K mg) : Ok P w K mg base 3 (a_Board_used K) (pm_bused K) := by
  have GR : Ok P w K mg base 1 (a_Rules_init K) (pm_rinit K) := ok_rinit T
  refine ok_of (F_Board_used T) cBoard_used b_Board_used (fun vs H Q h => ?_) (fun cdv A outer s H vs Q E hr h => ?_)
  · obtain ⟨p, d, t, ds, rfl, _⟩ := h
    rfl
  obtain ⟨p, d, t, ds, rfl, ⟨dx, pf, ts, o, wf, od, e⟩, ln, k⟩ := h
  obtain ⟨zs, rfl, rfl, hz⟩ := e.zs
  refine ⟨_, pss_one (ps_ret (e_make (mk_Rules T) GR hr (by omega) (g_Rules T) (pa_cons (pe_join pe_str (pe_lc (own := [("rule", 1), ("path", 2), ("text", 3)]) (g := gTup K 3 (gCons (gName 1) (gCons (gName 2) (gCons (gName 3) gNil)))) (tt := tYes) rfl cBoard_used.nd (pi_list (pe_fld (pv 0) rfl))
    (blkOk_by (N := nBoard_used) (sc := defScope sBoard_used) (by decide +kernel))
    (fun _ _ _ _ _ => pg_tup rfl (pgs_cons (pg_name (i := 1) cBoard_used.nd rfl (.inl rfl)) (pgs_cons (pg_name (i := 2) cBoard_used.nd rfl (.inl rfl)) (pgs_cons (pg_name (i := 3) cBoard_used.nd rfl (.inl rfl)) pgs_nil)))) (fun _ _ _ _ _ => pts_nil) (fun _ _ _ _ _ => pv 1))) pa_nil))), ?_⟩
  refine ⟨⟨_, rfl⟩, _, rfl, p, _, dx, _, _, rfl, o, cl_Board T, no_Board_deeds T, bf_deeds, d, rfl, ⟨_, SqL.of od⟩, fun D hD => ?_⟩
  have ln' : zs.length ≤ 1000 := by simpa using ln
  refine lc_pure (walk_list (K := K) (a := d) (xs := (zs.map (·.1)).map V.ref)) (zs.map fun z => some (.str (S [z.2.rl.code]))) (by simp) (by simp; omega) hD (fun H2 s2 => SqL.of (s2 _ _ od)) ?_ ?_
  · intro i x o' H2 R1 R0 hx ho s2 kR k0
    rw [List.map_map] at hx
    obtain ⟨z, e1, rfl⟩ := map_at' hx
    obtain ⟨z', e2, rfl⟩ := map_at' ho
    rw [e1] at e2
    cases e2
    have dz := hz z (List.mem_of_getElem? e1)
    refine ⟨z.1, deedV z.2, rfl, SqT.of (s2 _ _ dz), rfl, _, _, rfl, _, _, rfl, _, _, rfl, rfl, rfl, yes1 ?_⟩
    exact ⟨_, rfl, kR _ _ rfl (Same.refl _)⟩
  · intro H2 s2 h2
    rw [some_map'] at h2
    refine ⟨_, D, zs.map fun z => S [z.2.rl.code], rfl, rfl, .inl (SqL.of (by rw [h2, List.map_map]; rfl)), ?_, ?_⟩
    · have e0 : ("" : Str).length = 0 := by decide +kernel
      have e1 : ((zs.map fun z : Addr × Deed => S [z.2.rl.code]).map (·.length)).sum = zs.length := by
        clear h2 e hz od o ln ln' hD s2 k
        induction zs with
        | nil => rfl
        | cons x v ih => rw [List.map_cons, List.map_cons, List.sum_cons, ih, S_len]; simp; omega
      rw [e1, e0]
      omega
    · have ej : (zs.map fun z : Addr × Deed => S [z.2.rl.code]) = ((zs.map (·.2)).map fun d => d.rl.code).map fun c => S [c] := by
        rw [List.map_map, List.map_map]
        rfl
      rw [ej, join_one]
      intro z dz nz nd ne
      refine made_rules (l := (zs.map (·.2)).map fun d => d.rl.code) (R := fun v H3 => Q v H3) (fun c hc => ?_) (by simp; omega) (fun y H3 s3 _ w3 => ?_) nz nd ne rfl
      · obtain ⟨x, _, rfl⟩ := List.mem_map.mp hc
        exact rl_lets _
      · exact k H3 y (fun b u x => s3 b u (s2 b u x)) w3
def pm_bsteps (K : PySem.W.Frag) : Pm := fun vs H Q => ∃ p d t ds, vs = [.ref p] ∧ BoardAt K H p d t ds ∧ ∀ H' l ts, Same H H' → H l = none → H' l = some (.lst (ts.map V.ref)) → Each (DeedAt H') ts ds → Q (.ref l) H'
theorem ok_bsteps (T : Txt K mg) : Ok P w K mg base 1 (a_Board_steps K) (pm_bsteps K) := by
  refine ok_of (F_Board_steps T) cBoard_steps b_Board_steps (fun vs H Q h => ?_) (fun cdv A outer s H vs Q E hr h => ?_)
  · obtain ⟨p, d, t, ds, rfl, _⟩ := h
    rfl
  obtain ⟨p, d, t, ds, rfl, ⟨dx, pf, ts, o, wf, od, e⟩, k⟩ := h
  refine ⟨_, pss_one (ps_ret (pe_callTy call_list_of (by rfl) (z_list T) (by decide +kernel) (pa_cons (pe_fld (pv 0) rfl) pa_nil))), ?_⟩
  refine ⟨_, rfl, p, _, dx, _, _, rfl, o, cl_Board T, no_Board_deeds T, bf_deeds, ?_⟩
  exact ⟨d, _, rfl, .inl (SqL.of od), fun l nl => k _ l ts (same_upd nl) nl upd_same (e.imp fun _ _ => DeedAt.gr (.of (same_upd nl)))⟩
theorem g_na (T : Txt K mg) : mg "needed_alike" = some (.ref (a_needed K)) := by
  have h := g_needed_alike T
  rw [show He.ga K "needed_alike" = He.ga K "needed" from of_decide_eq_true (T.ex 8 rfl)] at h
  exact h
def pm_bneeded (K : PySem.W.Frag) : Pm := fun vs H Q => ∃ p d t ds, vs = [.ref p] ∧ BoardAt K H p d t ds ∧ Low t ds ∧ Tabs (TT K) H ∧ ∀ H' f m, Ex H H' → Tabs (TT K) H' → Nu H m → FamAt K H' f m (need t (cur t ds)) → Q (.ref f) H'
theorem ok_bneeded (T : Txt K mg) (TB : TabB base mg (evC K) (evT K)) : Ok P w K mg base 134 (a_Board_needed K) (pm_bneeded K) := by
  have GN : Ok P w K mg base 132 (a_Board_now K) (pm_bnow K) := ok_bnow T
  have GD : Ok P w K mg base 73 (a_needed K) (pm_needed K) := ok_needed T TB
  refine ok_of (F_Board_needed T) cBoard_needed b_Board_needed (fun vs H Q h => ?_) (fun cdv A outer s H vs Q E hr h => ?_)
  · obtain ⟨p, d, t, ds, rfl, _⟩ := h
    rfl
  obtain ⟨p, d, t, ds, rfl, hB, lo, hT, k⟩ := h
  refine ⟨_, pss_one (ps_ret (e_call GD hr (by omega) (g_na T) (k_needed T) (pa_cons (pe_fld (pv 0) rfl) (pa_cons (e_meth0 (pv 0) (cl_Board T) (m_Board_now T) GN hr (by omega)) pa_nil)))), ?_⟩
  obtain ⟨dx, pf, ts, o, wf, od, e⟩ := id hB
  refine ⟨_, rfl, p, _, dx, _, _, rfl, o, cl_Board T, no_Board_first T, bf_first, _, rfl, p, dx, _, rfl, o, bf_now, p, d, t, ds, rfl, hB, lo, fun H1 z s1 wz => ?_⟩
  have lc := lo.cur
  have l1 := lo.1
  refine ⟨pf, z, t, cur t ds, rfl, wf.gr (.of s1), wz, by omega, by omega, hT.ext s1, fun H2 f m x2 T2 n2 f2 => ?_⟩
  exact k H2 f m (LamX.ExtN.trans (.of s1) x2) T2 (n2.back (.of s1)) f2
def pm_bundo (K : PySem.W.Frag) : Pm := fun vs H Q => ∃ p d t ds, vs = [.ref p] ∧ BoardAt K H p d t ds ∧ ds ≠ [] ∧ ∀ H', (∀ b o, H b = some o → b ≠ d → H' b = some o) → BoardAt K H' p d t ds.dropLast → Q .non H'
theorem ok_bundo (T : Txt K mg) : Ok P w K mg base 1 (a_Board_undo K) (pm_bundo K) := by
  refine ok_of (F_Board_undo T) cBoard_undo b_Board_undo (fun vs H Q h => ?_) (fun cdv A outer s H vs Q E hr h => ?_)
  · obtain ⟨p, d, t, ds, rfl, _⟩ := h
    rfl
  obtain ⟨p, d, t, ds, rfl, ⟨dx, pf, ts, o, wf, od, e⟩, hne, k⟩ := h
  refine ⟨_, pss_cons (ps_if (pt_cmpR (op_nil hr) (pe_fld (pv 0) rfl) (pe_lst pa_nil) (nomark _)) (pss_one ps_never) pss_nil)
    (pss_one (ps_expr (pe_bm0 PySem.F.plainAttrs_list PySem.F.slot_list_pop PySem.F.type_list_pop mt_pop (pe_fld (pv 0) rfl)))), ?_⟩
  refine ⟨_, rfl, p, _, dx, _, _, rfl, o, cl_Board T, no_Board_deeds T, bf_deeds, Nat.zero_le _, fun c nc => ?_⟩
  have sc := same_upd (o := .lst []) nc
  refine ⟨d, c, _, rfl, rfl, sc _ _ od, upd_same, _, rfl, ?_⟩
  obtain ⟨zs, rfl, rfl, hz⟩ := e.zs
  have zne : zs ≠ [] := fun z => hne (by rw [z]; rfl)
  rw [decide_eq_false (by simpa using zne)]
  refine iteF ⟨_, rfl, p, _, dx, _, _, rfl, sc _ _ o, cl_Board T, no_Board_deeds T, bf_deeds, .inl ⟨rfl, _, SqL.of (sc _ _ od)⟩, ?_⟩
  refine ⟨d, _, .ref (zs.getLast zne).1, rfl, rfl, sc _ _ od, ?_, ?_⟩
  · rw [List.map_map, List.length_map, List.getElem?_map, ← List.getLast?_eq_getElem?, List.getLast?_eq_some_getLast zne]
    rfl
  · have x : ∀ b u, H b = some u → b ≠ d → (upd (upd H c (.lst [])) d (.lst ((zs.map (·.1)).map V.ref).dropLast)) b = some u := fun b u e n => by
      rw [upd_ne n]
      exact sc _ _ e
    have g : Gr H (upd (upd H c (.lst [])) d (.lst ((zs.map (·.1)).map V.ref).dropLast)) := fun b u e n _ => x b u e fun z => n _ (by rw [z, od] at e; exact (Option.some.inj e).symm)
    refine k _ x ⟨dx, pf, (zs.dropLast).map (·.1), g _ _ o (fun _ z => nomatch z) (fun _ z => nomatch z), wf.gr g, ?_, ?_⟩
    · rw [upd_same, ← List.map_dropLast, ← List.map_dropLast]
    · rw [show (zs.map fun x : Addr × Deed => x.2).dropLast = zs.dropLast.map (fun x : Addr × Deed => x.2) from List.map_dropLast.symm]
      exact Each.of_zs fun z h => (hz z (List.dropLast_subset _ h)).gr g
end
end NL
set_option Elab.async false
set_option linter.all false
set_option maxRecDepth 100000
set_option maxHeartbeats 4000000
/-! Board.spared. -/
namespace NL
open PySem PySem.Spec PyProof.Rows L2 SX LamX
section
variable {P : Program} {w : World} {K : PySem.W.Frag} {mg : Str → Option Value} {base : Heap}
theorem bf_needed {v u : V} : ([("first", v), ("deeds", u)] : List (Str × V)).lookup ("needed" : Str) = none := by kernel_rfl
theorem bf_used {v u : V} : ([("first", v), ("deeds", u)] : List (Str × V)).lookup ("used" : Str) = none := by kernel_rfl
/-- the least of the sets within some rules -/
def spar (Rs : List RS) (U : RS) : List RS := leasts (Rs.filter fun R => R.le U)
def pm_bspared (K : PySem.W.Frag) : Pm := fun vs H Q => ∃ p d t ds, vs = [.ref p] ∧ BoardAt K H p d t ds ∧ Low t ds ∧ ds.length ≤ 1000 ∧ Tabs (TT K) H ∧
  ∀ H' l qs, Ex H H' → Tabs (TT K) H' → Nu H l → H' l = some (.lst (qs.map V.ref)) → RulesL K H' qs (spar (need t (cur t ds)) (usedR ds)) → Q (.ref l) H'
theorem ok_bspared (T : Txt K mg) (TB : TabB base mg (evC K) (evT K)) : Ok P w K mg base 136 (a_Board_spared K) (pm_bspared K) := by
  have GN : Ok P w K mg base 134 (a_Board_needed K) (pm_bneeded K) := ok_bneeded T TB
  have GS : Ok P w K mg base 1 (a_Family_sets K) (pm_fsets K) := ok_fsets T
  have GU : Ok P w K mg base 3 (a_Board_used K) (pm_bused K) := ok_bused T
  have GW : Ok P w K mg base 1 (a_Rules_within K) (pm_within K) := ok_within T
  have GE : Ok P w K mg base 1 (a_Rules_eq K) (pm_req K) := ok_req T
  refine ok_of (F_Board_spared T) cBoard_spared b_Board_spared (fun vs H Q h => ?_) (fun cdv A outer s H vs Q E hr h => ?_)
  · obtain ⟨p, d, t, ds, rfl, _⟩ := h
    rfl
  obtain ⟨p, d, t, ds, rfl, hB, lo, ln, hT, k⟩ := h
  refine ⟨_, pss_cons (ps_set (i := 1) cBoard_spared.nd rfl (.inl rfl) (e_meth0 (pv 0) (cl_Board T) (m_Board_needed T) GN hr (by omega)))
    (pss_cons (ps_set (i := 2) cBoard_spared.nd rfl (.inr rfl) (pe_lc (own := [("rules", 3)]) (g := gName 3) rfl cBoard_spared.nd (pi_list (e_meth0 (pv 1) (cl_Family T) (m_Family_sets T) GS hr (by omega)))
      (blkOk_by (N := nBoard_spared) (sc := defScope sBoard_spared) (by decide +kernel)) (fun _ _ _ _ _ => pg_name (i := 3) cBoard_spared.nd rfl (Or.inl rfl))
      (fun _ _ _ _ _ => pts_one (pt_val (e_meth (pv 3) (cl_Rules T) (m_Rules_within T) GW hr (by omega) (pa_cons (e_meth0 (pv 0) (cl_Board T) (m_Board_used T) GU hr (by omega)) pa_nil)))) (fun _ _ _ _ _ => pv 3)))
    (pss_one (ps_ret (pe_lc (own := [("rules", 3)]) (g := gName 3) rfl cBoard_spared.nd (pi_list (pv 2))
      (blkOk_by (N := nBoard_spared) (sc := defScope sBoard_spared) (by decide +kernel)) (fun _ _ _ _ _ => pg_name (i := 3) cBoard_spared.nd rfl (Or.inr rfl))
      (fun _ _ _ _ _ => pts_one (pt_not (pt_val (pe_callB (c_any (K := K) rfl) (by rfl) (z_any T) (by decide +kernel) (pa_cons (pe_lc (own := [("other", 4)]) (g := gName 4) (tt := tYes) rfl cBoard_spared.nd (i_list (K := K) (pv 2))
        (blkOk_by (N := nBoard_spared) (by kernel_rfl)) (fun _ _ _ _ _ => pg_name (i := 4) cBoard_spared.nd rfl (Or.inl rfl)) (fun _ _ _ _ _ => pts_nil)
        (fun _ _ _ _ _ => pe_and (e_meth (pv 4) (cl_Rules T) (m_Rules_within T) GW hr (by omega) (pa_cons (pv 3) pa_nil)) (pe_one (pe_not (pe_cmpR (o_eq GE (m_Rules_eq T) hr (by omega)) (pv 4) (pv 3) (nomark _)))))) pa_nil))))) (fun _ _ _ _ _ => pv 3))))), ?_⟩
  obtain ⟨dx, pf, ts, o, _⟩ := id hB
  refine ⟨_, rfl, p, dx, _, rfl, o, bf_needed, p, d, t, ds, rfl, hB, lo, hT, fun H1 f m x1 T1 n1 hF => ?_⟩
  have lneed := need_len t (cur t ds)
  generalize need t (cur t ds) = Rs at hF k lneed
  have hB1 : BoardAt K H1 p d t ds := hB.gr x1.gr fun o e => by
    obtain ⟨_, _, ts', _, _, od, _⟩ := hB
    rw [od] at e
    cases e
    exact x1.lst od
  obtain ⟨dx1, pf1, ts1, o1, _⟩ := id hB1
  obtain ⟨df, qs, of, om, _⟩ := id hF
  refine ⟨_, rfl, f, df, _, rfl, of, ff_sets, f, m, Rs, rfl, hF, fun H2 l qs2 s2 nl hl hR => ?_⟩
  obtain ⟨es, rfl, rfl, he⟩ := hR.zs
  have hB2 := hB1.same s2
  refine ⟨l, rfl, ⟨_, SqL.of hl⟩, fun D hD => ?_⟩
  have le : es.length ≤ 32 := by simpa using lneed
  refine lc_pure (walk_list (K := K) (a := l) (xs := (es.map (·.1)).map V.ref)) (es.map fun e => if e.2.le (usedR ds) = true then some (.ref e.1) else none) (by simp) (by simp; omega) hD (fun H3 s3 => SqL.of (s3 _ _ hl)) ?_ ?_
  · intro i x o' H3 R1 R0 hx ho s3 kR k0
    rw [List.map_map] at hx
    obtain ⟨e, e1, rfl⟩ := map_at' hx
    obtain ⟨e', e2, rfl⟩ := map_at' ho
    rw [e1] at e2
    cases e2
    have re := (he e (List.mem_of_getElem? e1)).gr (.of s3)
    obtain ⟨de, oe⟩ := id re
    have hB3 := hB2.same s3
    refine ⟨rfl, _, rfl, e.1, de, _, rfl, oe, rf_within, _, rfl, p, dx1, _, rfl, s3 _ _ (s2 _ _ o1), bf_used, p, d, t, ds, rfl, hB3, ln, fun H4 r s4 wr => ?_⟩
    refine ⟨e.1, r, e.2, usedR ds, rfl, re.gr (.of s4), wr, fun H5 s5 => ⟨_, rfl, ?_⟩⟩
    have s45 : Same H3 H5 := fun b u x => s5 b u (s4 b u x)
    cases hb : e.2.le (usedR ds) with
    | true => exact iteT ⟨_, rfl, kR _ _ (if_pos hb) s45⟩
    | false => exact iteF (k0 _ (if_neg (by rw [hb]; simp)) s45)
  intro H3 s3 h3
  rw [filt_map (fun e : Addr × RS => e.2.le (usedR ds))] at h3
  generalize hes : (es.filter fun e => e.2.le (usedR ds)) = fs at h3
  have hf : ∀ z ∈ fs, RulesAt K H3 z.1 z.2 := fun z hz => by
    rw [← hes] at hz
    exact (he z (List.mem_filter.mp hz).1).gr (.of s3)
  have lf : fs.length ≤ 32 := by
    rw [← hes]
    exact Nat.le_trans (List.length_filter_le _ _) le
  have ef : (es.map (·.2)).filter (fun R => R.le (usedR ds)) = fs.map (·.2) := by
    rw [← hes]
    exact (map_filter2 (fun z : Addr × RS => z.2) (fun R => R.le (usedR ds)) es).symm
  have h3 : H3 D = some (.lst ((fs.map (·.1)).map V.ref)) := by rw [h3, List.map_map]; rfl
  refine ⟨_, rfl, D, rfl, ⟨_, SqL.of h3⟩, fun D2 hD2 => ?_⟩
  refine lc_pure (walk_list (K := K) (a := D) (xs := (fs.map (·.1)).map V.ref)) (fs.map fun e => if (!overs (fs.map (·.2)) e.2) = true then some (.ref e.1) else none) (by simp) (by simp; omega) hD2 (fun H4 s4 => SqL.of (s4 _ _ h3)) ?_ ?_
  · intro i x o' H4 R1 R0 hx ho s4 kR k0
    rw [List.map_map] at hx
    obtain ⟨e, e1, rfl⟩ := map_at' hx
    obtain ⟨e', e2, rfl⟩ := map_at' ho
    rw [e1] at e2
    cases e2
    have re := (hf e (List.mem_of_getElem? e1)).gr (.of s4)
    refine ⟨rfl, _, rfl, D, rfl, ⟨_, SqL.of (s4 _ _ h3)⟩, fun D3 hD3 => ?_⟩
    refine lc_pure (walk_list (K := K) (a := D) (xs := (fs.map (·.1)).map V.ref)) (fs.map fun z => some (.bl (z.2.le e.2 && !decide (z.2 = e.2)))) (by simp) (by simp; omega) hD3 (fun H5 s5 => SqL.of (s5 _ _ (s4 _ _ h3))) ?_ ?_
    · intro j x o2 H5 R1' R0' hx ho s5 kR' k0'
      rw [List.map_map] at hx
      obtain ⟨z, e3, rfl⟩ := map_at' hx
      obtain ⟨z', e4, rfl⟩ := map_at' ho
      rw [e3] at e4
      cases e4
      have rz := (hf z (List.mem_of_getElem? e3)).gr (.of fun b u x => s5 b u (s4 b u x))
      have re5 := re.gr (.of s5)
      obtain ⟨dz, oz⟩ := id rz
      refine ⟨rfl, yes1 ?_⟩
      refine ⟨_, rfl, z.1, dz, _, rfl, oz, rf_within, _, rfl, z.1, e.1, z.2, e.2, rfl, rz, re5, fun H6 s6 => ⟨_, rfl, ?_⟩⟩
      cases hb : z.2.le e.2 with
      | false => exact iteF (kR' _ _ (by rw [hb]; rfl) s6)
      | true =>
        have rz6 := rz.gr (.of s6)
        have re6 := re5.gr (.of s6)
        exact iteT ⟨_, rfl, _, rfl, z.1, e.1, rfl, rfl, rz6.is, re6.is, z.1, e.1, z.2, e.2, rfl, rz6, re6, _, rfl, kR' _ _ (by rw [hb]; rfl) s6⟩
    · intro H5 s5 h5
      rw [some_map'] at h5
      refine ⟨D3, fs.map fun z => (z.2.le e.2 && !decide (z.2 = e.2)), rfl, SqL.of (by rw [h5, List.map_map]; rfl), _, rfl, ?_⟩
      have eo : (fs.map fun z => (z.2.le e.2 && !decide (z.2 = e.2))).any id = overs (fs.map (·.2)) e.2 := by
        unfold overs
        rw [List.any_map, List.any_map]
        rfl
      rw [eo]
      cases hb : overs (fs.map (·.2)) e.2 with
      | false => exact iteT ⟨_, rfl, kR _ _ (by rw [hb]; rfl) s5⟩
      | true => exact iteF (k0 _ (by rw [hb]; rfl) s5)
  · intro H4 s4 h4
    rw [filt_map (fun z : Addr × RS => !overs (fs.map (·.2)) z.2)] at h4
    have s234 : Same H1 H4 := fun b u x => s4 b u (s3 b u (s2 b u x))
    have x4 : Ex H H4 := LamX.ExtN.trans x1 (.of s234)
    have n4 : Nu H D2 := (Nu.of (Same.none (fun b u x => s3 b u (s2 b u x)) hD2)).back x1
    refine k H4 D2 ((fs.filter fun z => !overs (fs.map (·.2)) z.2).map (·.1)) x4 (T1.ext s234) n4 (by rw [h4, List.map_map]; rfl) ?_
    have e : spar (es.map (·.2)) (usedR ds) = (fs.filter fun z => !overs (fs.map (·.2)) z.2).map (·.2) := by
      unfold spar
      rw [ef]
      unfold leasts
      exact (map_filter2 (fun z : Addr × RS => z.2) (fun R => !overs (fs.map fun x : Addr × RS => x.2) R) fs).symm
    rw [e]
    exact Each.of_zs fun z h => (hf z (List.mem_filter.mp h).1).gr (.of s4)
end
end NL
set_option Elab.async false
set_option linter.all false
set_option maxRecDepth 100000
set_option maxHeartbeats 4000000
/-! Steps, and the chain's checks. -/
namespace NL
open PySem PySem.Spec PyProof.Rows L2 SX LamX
theorem cur_cons (t : Tree) (d : Deed) (r : List Deed) : cur t (d :: r) = cur d.to r := by
  rcases List.eq_nil_or_concat r with rfl | ⟨l, x, rfl⟩
  · rfl
  · rw [List.concat_eq_append, cur_snoc, ← List.cons_append, cur_snoc]
/-- one use of a rule at the root -/
inductive One : Rl → Tree → Tree → Prop
  | A (a b c : Tree) : One .A (.nd (.nd a b) c) (.nd a (.nd b c))
  | A' (a b c : Tree) : One .A (.nd a (.nd b c)) (.nd (.nd a b) c)
  | C (a b : Tree) : One .C (.nd a b) (.nd b a)
  | I (a : Tree) : One .I a (.nd a a)
  | I' (a : Tree) : One .I (.nd a a) a
  | U (a : Tree) : One .U a (.nd a (.lf .e))
  | Ul (a : Tree) : One .U a (.nd (.lf .e) a)
  | U' (a : Tree) : One .U (.nd a (.lf .e)) a
  | Ul' (a : Tree) : One .U (.nd (.lf .e) a) a
  | Z (a : Tree) : One .Z (.lf .z) (.nd a (.lf .z))
  | Zl (a : Tree) : One .Z (.lf .z) (.nd (.lf .z) a)
  | Z' (a : Tree) : One .Z (.nd a (.lf .z)) (.lf .z)
  | Zl' (a : Tree) : One .Z (.nd (.lf .z) a) (.lf .z)
def Step (t : Tree) (d : Deed) : Prop := ∃ u v, part t d.at_ = some u ∧ d.to = put t d.at_ v ∧ One d.rl u v
def Steps : Tree → List Deed → Prop
  | _, [] => True
  | t, d :: r => Step t d ∧ Steps d.to r
theorem Steps.snoc {d : Deed} : ∀ {ds : List Deed} {t : Tree}, Steps t ds → Step (cur t ds) d → Steps t (ds ++ [d])
  | [], t, _, h => ⟨h, trivial⟩
  | e :: r, t, h, k => ⟨h.1, Steps.snoc h.2 (by
      rw [← cur_cons t]
      exact k)⟩
theorem Steps.dropLast : ∀ {ds : List Deed} {t : Tree}, Steps t ds → Steps t ds.dropLast
  | [], _, h => h
  | [_], _, _ => trivial
  | d :: e :: r, t, h => ⟨h.1, Steps.dropLast (ds := e :: r) h.2⟩
theorem Steps.at_ : ∀ {ds : List Deed} {t : Tree} {i : Nat} {d : Deed}, Steps t ds → ds[i]? = some d → Step (cur t (ds.take i)) d
  | [], _, _, _, _, h => by simp at h
  | e :: r, t, 0, d, h, k => by
    have : e = d := by simpa using k
    rw [← this]
    exact h.1
  | e :: r, t, i + 1, d, h, k => by
    rw [List.take_succ_cons, cur_cons]
    exact Steps.at_ h.2 (by simpa using k)
theorem One.sound {r : Rl} {u v : Tree} (h : One r u v) {S : RS} (hs : S.has r = true) {E : Tree → Tree → Prop} (c : Cong S E) : E u v := by
  cases h with
  | A a b d => exact c.A hs a b d
  | A' a b d => exact c.symm (c.A hs a b d)
  | C a b => exact c.C hs a b
  | I a => exact c.symm (c.I hs _)
  | I' a => exact c.I hs _
  | U a => exact c.symm (c.U hs _).1
  | Ul a => exact c.symm (c.U hs _).2
  | U' a => exact (c.U hs _).1
  | Ul' a => exact (c.U hs _).2
  | Z a => exact c.symm (c.Z hs a).1
  | Zl a => exact c.symm (c.Z hs a).2
  | Z' a => exact (c.Z hs a).1
  | Zl' a => exact (c.Z hs a).2
theorem Steps.sound {S : RS} : ∀ {ds : List Deed} {t : Tree}, Steps t ds → (∀ d ∈ ds, S.has d.rl = true) → Alike S t (cur t ds)
  | [], t, _, _ => (cong_alike S).refl t
  | d :: r, t, ⟨⟨u, v, h1, h2, h3⟩, h4⟩, hs => by
    have e1 : Alike S t d.to := by
      rw [h2]
      exact (cong_alike S).put h1 (h3.sound (hs d (by simp)) (cong_alike S))
    have e2 := Steps.sound h4 fun x hx => hs x (by simp [hx])
    rw [cur_cons]
    exact (cong_alike S).trans e1 e2
theorem usedR_has {ds : List Deed} {d : Deed} (h : d ∈ ds) : (usedR ds).has d.rl = true := by
  have m : d.rl.code ∈ ds.map fun d => d.rl.code := List.mem_map.mpr ⟨d, h, rfl⟩
  revert m
  unfold usedR rsOf RS.has
  cases d.rl <;> exact fun m => decide_eq_true m
theorem RS.le_has {R S : RS} (h : R.le S = true) {r : Rl} (k : R.has r = true) : S.has r = true := by
  obtain ⟨h1, h2, h3, h4, h5⟩ := RS.le_iff.mp h
  cases r
  · exact h1 k
  · exact h2 k
  · exact h3 k
  · exact h4 k
  · exact h5 k
/-- the ways to which a rule turns a joined one -/
def shortL (r : Rl) (a b : Tree) : List Tree :=
  (if r = .C then [.nd b a] else []) ++ (if r = .I ∧ a = b then [a] else []) ++ (if r = .U ∧ a = .lf .e then [b] else []) ++ (if r = .U ∧ b = .lf .e then [a] else []) ++ (if r = .Z ∧ (a = .lf .z ∨ b = .lf .z) then [.lf .z] else [])
def short1 (r : Rl) (v : Tree) : Tree → Bool
  | .lf _ => false
  | .nd a b => decide (v ∈ shortL r a b)
def oneB (r : Rl) (u v : Tree) : Bool := short1 r v u || short1 r u v
theorem One.oneB {r : Rl} {u v : Tree} (h : One r u v) (n : r ≠ .A) : NL.oneB r u v = true := by
  cases h with
  | A => exact absurd rfl n
  | A' => exact absurd rfl n
  | _ => simp [NL.oneB, short1, shortL]
end NL
set_option Elab.async false
set_option linter.all false
set_option maxRecDepth 100000
set_option maxHeartbeats 4000000
/-! shorter_by, one_step, tree_link_right, walked. -/
namespace NL
open PySem PySem.Spec PyProof.Rows L2 SX LamX
def txV (t : Tree) : V := .str (S t.txt)
def txL (l : List Tree) : HO := .lst (l.map txV)
theorem rl_C {r : Rl} : decide (rlV r = .str "C") = decide (r = .C) := by cases r <;> decide +kernel
theorem rl_I {r : Rl} : decide (rlV r = .str "I") = decide (r = .I) := by cases r <;> decide +kernel
theorem rl_U {r : Rl} : decide (rlV r = .str "U") = decide (r = .U) := by cases r <;> decide +kernel
theorem rl_Z {r : Rl} : decide (rlV r = .str "Z") = decide (r = .Z) := by cases r <;> decide +kernel
section
variable {P : Program} {w : World} {K : PySem.W.Frag} {mg : Str → Option Value} {base : Heap}
theorem suffH {G : Prop} {A : Hp → Prop} {M : Hp → Prop} (f : (∀ H2, A H2 → M H2) → G) (h : ∀ H2, A H2 → M H2) : G := f h
theorem eqV_tx {s t : Tree} : eqV (txV s) (txV t) = decide (s = t) := by
  rw [Bool.eq_iff_iff]
  show (S s.txt == S t.txt) = true ↔ _
  rw [beq_iff_eq, decide_eq_true_eq]
  exact ⟨fun h => Tree.txt_inj (S_inj h), fun h => by rw [h]⟩
theorem in_txV {t : Tree} {l : List Tree} : inV (txV t) (l.map txV) = decide (t ∈ l) := by
  unfold inV
  rw [List.any_map, Bool.eq_iff_iff, List.any_eq_true, decide_eq_true_eq]
  constructor
  · rintro ⟨x, hx, e⟩
    have e : eqV (txV x) (txV t) = true := e
    rw [eqV_tx] at e
    exact of_decide_eq_true e ▸ hx
  · exact fun h => ⟨t, h, by show eqV (txV t) (txV t) = true; rw [eqV_tx]; simp⟩
theorem flat_tx (l : List Tree) : (l.map txV).all flatV = true := by
  rw [List.all_map]
  exact List.all_eq_true.mpr fun _ _ => rfl
theorem short_len1 (r : Rl) (a b : Tree) : ((if r = .C then [.nd b a] else []) : List Tree).length ≤ 5 := by
  try simp only [List.length_append]
  repeat' split
  all_goals simp
theorem short_len2 (r : Rl) (a b : Tree) : ((if r = .C then [.nd b a] else []) ++ (if r = .I ∧ a = b then [a] else []) : List Tree).length ≤ 5 := by
  try simp only [List.length_append]
  repeat' split
  all_goals simp
theorem short_len3 (r : Rl) (a b : Tree) : ((if r = .C then [.nd b a] else []) ++ (if r = .I ∧ a = b then [a] else []) ++ (if r = .U ∧ a = .lf .e then [b] else []) : List Tree).length ≤ 5 := by
  try simp only [List.length_append]
  repeat' split
  all_goals simp
theorem short_len4 (r : Rl) (a b : Tree) : ((if r = .C then [.nd b a] else []) ++ (if r = .I ∧ a = b then [a] else []) ++ (if r = .U ∧ a = .lf .e then [b] else []) ++ (if r = .U ∧ b = .lf .e then [a] else []) : List Tree).length ≤ 5 := by
  try simp only [List.length_append]
  repeat' split
  all_goals simp
def pm_short (K : PySem.W.Frag) : Pm := fun vs H Q => ∃ r p a b, vs = [rlV r, .ref p] ∧ WayAt K H p (.nd a b) ∧ a.size + b.size ≤ 60 ∧ ∀ H' l, Same H H' → H' l = some (txL (shortL r a b)) → Q (.ref l) H'
theorem ok_short (T : Txt K mg) : Ok P w K mg base 5 (a_shorter_by K) (pm_short K) := by
  have GS : Ok P w K mg base 1 (a_Way_str K) (pm_wstr K) := ok_wstr T
  refine ok_of (F_shorter_by T) cshorter_by b_shorter_by (fun vs H Q h => ?_) (fun cdv A outer s H vs Q E hr h => ?_)
  · obtain ⟨r, p, a, b, rfl, _⟩ := h
    rfl
  obtain ⟨r, p, a, b, rfl, hw, hs, k⟩ := h
  refine ⟨_, pss_cons (ps_set (i := 2) cshorter_by.nd rfl (.inl rfl) (pe_callTy (c_str GS (m_Way_str T) hr (by omega)) (by rfl) (z_str T) (by decide +kernel) (pa_cons (pe_fld (pv 1) rfl) pa_nil)))
    (pss_cons (ps_set (i := 3) cshorter_by.nd rfl (.inl rfl) (pe_callTy (c_str GS (m_Way_str T) hr (by omega)) (by rfl) (z_str T) (by decide +kernel) (pa_cons (pe_fld (pv 1) rfl) pa_nil)))
    (pss_cons (ps_set (i := 4) cshorter_by.nd rfl (.inl rfl) (pe_lst pa_nil))
    (pss_cons (ps_if (pt_cmpR op_eq (pv 0) pe_str (nomark _)) (pss_one (ps_expr (pe_bm PySem.F.plainAttrs_list PySem.F.slot_list_append PySem.F.type_list_append mt_append (pv 4) (pa_cons (pe_joined (.cons pe_str (.cons (pe_fmt (pv 3)) (.cons pe_str (.cons (pe_fmt (pv 2)) (.cons pe_str .nil)))))) pa_nil)))) pss_nil)
    (pss_cons (ps_if (PW.pt (pw_and (pt_cmpR op_eq (pv 0) pe_str (nomark _)) (pw_and1 (pt_cmpR op_eq (pv 2) (pv 3) (nomark _))))) (pss_one (ps_expr (pe_bm PySem.F.plainAttrs_list PySem.F.slot_list_append PySem.F.type_list_append mt_append (pv 4) (pa_cons (pv 2) pa_nil)))) pss_nil)
    (pss_cons (ps_if (PW.pt (pw_and (pt_cmpR op_eq (pv 0) pe_str (nomark _)) (pw_and1 (pt_cmpR op_eq (pv 2) pe_str (nomark _))))) (pss_one (ps_expr (pe_bm PySem.F.plainAttrs_list PySem.F.slot_list_append PySem.F.type_list_append mt_append (pv 4) (pa_cons (pv 3) pa_nil)))) pss_nil)
    (pss_cons (ps_if (PW.pt (pw_and (pt_cmpR op_eq (pv 0) pe_str (nomark _)) (pw_and1 (pt_cmpR op_eq (pv 3) pe_str (nomark _))))) (pss_one (ps_expr (pe_bm PySem.F.plainAttrs_list PySem.F.slot_list_append PySem.F.type_list_append mt_append (pv 4) (pa_cons (pv 2) pa_nil)))) pss_nil)
    (pss_cons (ps_if (PW.pt (pw_and (pt_cmpR op_eq (pv 0) pe_str (nomark _)) (pw_and1 (pt_cmpR op_in_seq pe_str (pe_tup (pa_cons (pv 2) (pa_cons (pv 3) pa_nil))) (by rfl))))) (pss_one (ps_expr (pe_bm PySem.F.plainAttrs_list PySem.F.slot_list_append PySem.F.type_list_append mt_append (pv 4) (pa_cons pe_str pa_nil)))) pss_nil)
    (pss_one (ps_ret (pv 4)))))))))), ?_⟩
  obtain ⟨dx, lt, pl, pr, o, f, wl, wr⟩ := hw
  refine ⟨_, rfl, p, _, dx, _, _, rfl, o, cl_Way T, no_Way_left T, wf_left, pl, rfl, wl.is, pl, a, rfl, wl, _, rfl, ?_⟩
  refine ⟨_, rfl, p, _, dx, _, _, rfl, o, cl_Way T, no_Way_right T, wf_right, pr, rfl, wr.is, pr, b, rfl, wr, _, rfl, ?_⟩
  refine ⟨Nat.zero_le _, fun l nl => ?_⟩
  have la := a.txt_len
  have lb := b.txt_len
  have app : ∀ {H2 : Hp} {xs : List Tree} {y : Tree}, (Same H H2 ∧ H2 l = some (txL xs)) → (Same H (upd H2 l (.lst (xs.map txV ++ [txV y]))) ∧ (upd H2 l (.lst (xs.map txV ++ [txV y]))) l = some (txL (xs ++ [y]))) := fun {H2 xs y} h => by
    refine ⟨fun c u e => ?_, ?_⟩
    · rw [upd_ne (ne_of_none e nl)]
      exact h.1 c u e
    · rw [upd_same]
      unfold txL
      rw [List.map_append]
      rfl
  have h1 : Same H (upd H l (.lst [])) ∧ (upd H l (.lst [])) l = some (txL []) := ⟨same_upd nl, upd_same⟩
  generalize upd H l (.lst []) = H1 at h1 ⊢
  have cz' : ("z" : Str) = S (Tree.lf .z).txt := cz
  have ce' : ("e" : Str) = S (Tree.lf .e).txt := ce
  refine ⟨_, rfl, rfl, _, rfl, ?_⟩
  rw [rl_C]
  refine' suffH (A := fun H2 => Same H H2 ∧ H2 l = some (txL ((if r = .C then [.nd b a] else [])))) (fun hN => ?goA) ?goB
  case goA =>
    by_cases q : r = .C
    case neg =>
      rw [decide_eq_false q]
      exact iteF (hN H1 (by rw [if_neg q]; exact h1))
    case pos =>
      rw [decide_eq_true q]
      refine iteT ⟨_, rfl, .inl ⟨rfl, _, SqL.of h1.2⟩, ?_⟩
      have e1 : Str.empty ++ ("(" : Str) = S [40] := by decide +kernel
      have e2 : (" " : Str) = S [32] := by decide +kernel
      have e3 : (")" : Str) = S [41] := by decide +kernel
      refine ⟨_, rfl, by decide, ?_⟩
      rw [e1]
      refine ⟨_, rfl, .inl ⟨_, rfl, by rw [S_len]; exact small_len (by omega), _, rfl, by rw [S_cat, S_len]; exact small_len (by simp; omega), ?_⟩⟩
      rw [S_cat, e2]
      refine ⟨_, rfl, by rw [S_cat, S_len]; exact small_len (by simp; omega), ?_⟩
      rw [S_cat]
      refine ⟨_, rfl, .inl ⟨_, rfl, by rw [S_len]; exact small_len (by omega), _, rfl, by rw [S_cat, S_len]; exact small_len (by simp; omega), ?_⟩⟩
      rw [S_cat, e3]
      refine ⟨_, rfl, by rw [S_cat, S_len]; exact small_len (by simp; omega), ?_⟩
      rw [S_cat]
      rw [show ([40] ++ b.txt ++ [32] ++ a.txt ++ [41] : List Nat) = (Tree.nd b a).txt by simp [Tree.txt]]
      refine ⟨l, _, _, rfl, rfl, h1.2, by decide, ?_⟩
      exact hN _ (by
        have := app (xs := []) (y := .nd b a) h1
        rw [if_pos q]
        exact this)
  case goB =>
  intro H2 h2
  refine ⟨_, rfl, rfl, _, rfl, ?_⟩
  rw [rl_I]
  refine' suffH (A := fun H2 => Same H H2 ∧ H2 l = some (txL ((if r = .C then [.nd b a] else []) ++ (if r = .I ∧ a = b then [a] else [])))) (fun hN => ?goA) ?goB
  case goA =>
    by_cases r1 : r = .I
    case neg =>
      have q : ¬ (r = .I ∧ a = b) := fun z => r1 z.1
      rw [decide_eq_false r1]
      exact iteF (iteF (hN H2 (by rw [if_neg q, List.append_nil]; exact h2)))
    case pos =>
        rw [decide_eq_true r1]
        refine iteT ⟨_, rfl, _, rfl, rfl, _, rfl, ?_⟩
        rw [tx_eq]
        by_cases r2 : a = b
        case neg =>
          have q : ¬ (r = .I ∧ a = b) := fun z => r2 z.2
          rw [decide_eq_false r2]
          exact iteF (hN H2 (by rw [if_neg q, List.append_nil]; exact h2))
        case pos =>
          have q : r = .I ∧ a = b := ⟨r1, r2⟩
          rw [decide_eq_true r2]
          refine iteT ⟨_, rfl, .inl ⟨rfl, _, SqL.of h2.2⟩, _, rfl, ?_⟩
          refine ⟨l, _, _, rfl, rfl, h2.2, ?_, ?_⟩
          · rw [List.length_map]
            exact Nat.lt_of_le_of_lt (short_len1 r a b) (by decide)
          · exact hN _ (by
              have := app (y := a) h2
              rw [if_pos q]
              exact this)
  case goB =>
  intro H3 h3
  refine ⟨_, rfl, rfl, _, rfl, ?_⟩
  rw [rl_U]
  refine' suffH (A := fun H2 => Same H H2 ∧ H2 l = some (txL ((if r = .C then [.nd b a] else []) ++ (if r = .I ∧ a = b then [a] else []) ++ (if r = .U ∧ a = .lf .e then [b] else [])))) (fun hN => ?goA) ?goB
  case goA =>
    by_cases r1 : r = .U
    case neg =>
      have q : ¬ (r = .U ∧ a = .lf .e) := fun z => r1 z.1
      rw [decide_eq_false r1]
      exact iteF (iteF (hN H3 (by rw [if_neg q, List.append_nil]; exact h3)))
    case pos =>
        rw [decide_eq_true r1]
        refine iteT ⟨_, rfl, rfl, _, rfl, ?_⟩
        rw [ce', tx_eq]
        by_cases r2 : a = .lf .e
        case neg =>
          have q : ¬ (r = .U ∧ a = .lf .e) := fun z => r2 z.2
          rw [decide_eq_false r2]
          exact iteF (hN H3 (by rw [if_neg q, List.append_nil]; exact h3))
        case pos =>
          have q : r = .U ∧ a = .lf .e := ⟨r1, r2⟩
          rw [decide_eq_true r2]
          refine iteT ⟨_, rfl, .inl ⟨rfl, _, SqL.of h3.2⟩, _, rfl, ?_⟩
          refine ⟨l, _, _, rfl, rfl, h3.2, ?_, ?_⟩
          · rw [List.length_map]
            exact Nat.lt_of_le_of_lt (short_len2 r a b) (by decide)
          · exact hN _ (by
              have := app (y := b) h3
              rw [if_pos q]
              exact this)
  case goB =>
  intro H4 h4
  refine ⟨_, rfl, rfl, _, rfl, ?_⟩
  rw [rl_U]
  refine' suffH (A := fun H2 => Same H H2 ∧ H2 l = some (txL ((if r = .C then [.nd b a] else []) ++ (if r = .I ∧ a = b then [a] else []) ++ (if r = .U ∧ a = .lf .e then [b] else []) ++ (if r = .U ∧ b = .lf .e then [a] else [])))) (fun hN => ?goA) ?goB
  case goA =>
    by_cases r1 : r = .U
    case neg =>
      have q : ¬ (r = .U ∧ b = .lf .e) := fun z => r1 z.1
      rw [decide_eq_false r1]
      exact iteF (iteF (hN H4 (by rw [if_neg q, List.append_nil]; exact h4)))
    case pos =>
        rw [decide_eq_true r1]
        refine iteT ⟨_, rfl, rfl, _, rfl, ?_⟩
        rw [ce', tx_eq]
        by_cases r2 : b = .lf .e
        case neg =>
          have q : ¬ (r = .U ∧ b = .lf .e) := fun z => r2 z.2
          rw [decide_eq_false r2]
          exact iteF (hN H4 (by rw [if_neg q, List.append_nil]; exact h4))
        case pos =>
          have q : r = .U ∧ b = .lf .e := ⟨r1, r2⟩
          rw [decide_eq_true r2]
          refine iteT ⟨_, rfl, .inl ⟨rfl, _, SqL.of h4.2⟩, _, rfl, ?_⟩
          refine ⟨l, _, _, rfl, rfl, h4.2, ?_, ?_⟩
          · rw [List.length_map]
            exact Nat.lt_of_le_of_lt (short_len3 r a b) (by decide)
          · exact hN _ (by
              have := app (y := a) h4
              rw [if_pos q]
              exact this)
  case goB =>
  intro H5 h5
  refine ⟨_, rfl, rfl, _, rfl, ?_⟩
  rw [rl_Z]
  refine' suffH (A := fun H2 => Same H H2 ∧ H2 l = some (txL ((if r = .C then [.nd b a] else []) ++ (if r = .I ∧ a = b then [a] else []) ++ (if r = .U ∧ a = .lf .e then [b] else []) ++ (if r = .U ∧ b = .lf .e then [a] else []) ++ (if r = .Z ∧ (a = .lf .z ∨ b = .lf .z) then [.lf .z] else [])))) (fun hN => ?goA) ?goB
  case goA =>
    by_cases r1 : r = .Z
    case neg =>
      have q : ¬ (r = .Z ∧ (a = .lf .z ∨ b = .lf .z)) := fun z => r1 z.1
      rw [decide_eq_false r1]
      exact iteF (iteF (hN H5 (by rw [if_neg q, List.append_nil]; exact h5)))
    case pos =>
        rw [decide_eq_true r1]
        refine iteT ⟨_, rfl, _, rfl, (by show 2 ≤ sizeLine; decide), fun tp ntp => ?_⟩
        refine ⟨tp, [txV a, txV b], rfl, .inr (SqT.of upd_same), rfl, rfl, _, rfl, ?_⟩
        have ez : inV (V.str ("z" : Str)) [txV a, txV b] = decide (a = .lf .z ∨ b = .lf .z) := by
          have := in_txV (t := .lf .z) (l := [a, b])
          rw [cz']
          refine this.trans (decide_eq_decide.mpr ?_)
          simp only [List.mem_cons, List.not_mem_nil, or_false]
          exact ⟨fun q => q.imp Eq.symm Eq.symm, fun q => q.imp Eq.symm Eq.symm⟩
        rw [if_neg Bool.false_ne_true, ez]
        have hx : Same H (upd H5 tp (.tup [txV a, txV b])) ∧ (upd H5 tp (.tup [txV a, txV b])) l = some (txL ((if r = .C then [.nd b a] else []) ++ (if r = .I ∧ a = b then [a] else []) ++ (if r = .U ∧ a = .lf .e then [b] else []) ++ (if r = .U ∧ b = .lf .e then [a] else []))) := ⟨fun c u e => same_upd ntp c u (h5.1 c u e), by rw [upd_ne (ne_of_none h5.2 ntp)]; exact h5.2⟩
        by_cases r2 : (a = .lf .z ∨ b = .lf .z)
        case neg =>
          have q : ¬ (r = .Z ∧ (a = .lf .z ∨ b = .lf .z)) := fun z => r2 z.2
          rw [decide_eq_false r2]
          exact iteF (hN _ (by rw [if_neg q, List.append_nil]; exact hx))
        case pos =>
          have q : r = .Z ∧ (a = .lf .z ∨ b = .lf .z) := ⟨r1, r2⟩
          rw [decide_eq_true r2]
          refine iteT ⟨_, rfl, .inl ⟨rfl, _, SqL.of hx.2⟩, ?_⟩
          refine ⟨l, _, txV (.lf .z), rfl, by rw [cz]; rfl, hx.2, ?_, ?_⟩
          · rw [List.length_map]
            exact Nat.lt_of_le_of_lt (short_len4 r a b) (by decide)
          · exact hN _ (by
              have := app (y := .lf .z) hx
              rw [if_pos q]
              exact this)
  case goB =>
  intro H6 h6
  exact ⟨_, rfl, k H6 l h6.1 h6.2⟩
theorem shortL_len (r : Rl) (a b : Tree) : (shortL r a b).length ≤ 5 := by
  unfold shortL
  simp only [List.length_append]
  repeat' split
  all_goals simp
def pm_one (K : PySem.W.Frag) : Pm := fun vs H Q => ∃ r p q u v, vs = [rlV r, .ref p, .ref q] ∧ WayAt K H p u ∧ WayAt K H q v ∧ u.size ≤ 60 ∧ v.size ≤ 60 ∧ oneB r u v = true ∧ ∀ H', Same H H' → Q (.bl true) H'
theorem ok_one (T : Txt K mg) : Ok P w K mg base 7 (a_one_step K) (pm_one K) := by
  have GS : Ok P w K mg base 1 (a_Way_str K) (pm_wstr K) := ok_wstr T
  have GB : Ok P w K mg base 5 (a_shorter_by K) (pm_short K) := ok_short T
  refine ok_of (F_one_step T) cone_step b_one_step (fun vs H Q h => ?_) (fun cdv A outer s H vs Q E hr h => ?_)
  · obtain ⟨r, p, q, u, v, rfl, _⟩ := h
    rfl
  obtain ⟨r, p, q, u, v, rfl, wu, wv, zu, zv, ho, k⟩ := h
  refine ⟨_, pss_cons (ps_if (PW.pt (pw_and (pt_cmpR op_notN (pe_fld (pv 1) rfl) pe_non (nomark _)) (pw_and1 (pt_cmpR op_in_seq (pe_callTy (c_str GS (m_Way_str T) hr (by omega)) (by rfl) (z_str T) (by decide +kernel) (pa_cons (pv 2) pa_nil)) (e_call GB hr (by omega) (g_shorter_by T) (k_shorter_by T) (pa_cons (pv 0) (pa_cons (pv 1) pa_nil))) (by rfl)))))
      (pss_one (ps_ret pe_bl)) pss_nil)
    (pss_one (ps_ret (pe_and (pe_cmpR op_notN (pe_fld (pv 2) rfl) pe_non (nomark _)) (pe_one (pe_cmpR op_in_seq (pe_callTy (c_str GS (m_Way_str T) hr (by omega)) (by rfl) (z_str T) (by decide +kernel) (pa_cons (pv 1) pa_nil)) (e_call GB hr (by omega) (g_shorter_by T) (k_shorter_by T) (pa_cons (pv 0) (pa_cons (pv 2) pa_nil))) (by rfl)))))), ?_⟩
  have kx : ∀ H1 H', Same H H1 → Same H1 H' → Q (.bl true) H' := fun H1 H' s1 s2 => k H' fun c x e => s2 c x (s1 c x e)
  refine' suffH (A := fun H2 => Same H H2 ∧ short1 r u v = true) (fun hN => ?goA) ?goB
  case goA =>
    cases u with
    | lf x =>
      obtain ⟨dx, lt, o, f⟩ := wu
      refine ⟨_, rfl, p, _, dx, _, _, rfl, o, cl_Way T, no_Way_left T, wf_left, rfl, _, rfl, ?_⟩
      refine iteF (iteF (hN H ⟨Same.refl H, ?_⟩))
      unfold oneB at ho
      simpa [short1] using ho
    | nd a b =>
      obtain ⟨dx, lt, pl, pr, o, f, wl, wr⟩ := id wu
      refine ⟨_, rfl, p, _, dx, _, _, rfl, o, cl_Way T, no_Way_left T, wf_left, rfl, _, rfl, ?_⟩
      refine iteT ⟨_, rfl, q, rfl, wv.is, q, v, rfl, wv, _, rfl, _, rfl, _, rfl, r, p, a, b, rfl, wu, zu, fun H1 l s1 hl => ?_⟩
      refine ⟨l, _, rfl, .inl (SqL.of hl), rfl, flat_tx _, _, rfl, ?_⟩
      rw [if_neg Bool.false_ne_true, show inV (V.str (S v.txt)) ((shortL r a b).map txV) = decide (v ∈ shortL r a b) from in_txV]
      by_cases hv : v ∈ shortL r a b
      · rw [decide_eq_true hv]
        exact iteT (k H1 s1)
      · rw [decide_eq_false hv]
        refine iteF (hN H1 ⟨s1, ?_⟩)
        unfold oneB at ho
        have e : short1 r v (.nd a b) = false := decide_eq_false hv
        rw [e] at ho
        simpa using ho
  case goB =>
  intro H1 ⟨s1, h1⟩
  cases v with
  | lf x => cases h1
  | nd a b =>
    have hm : u ∈ shortL r a b := of_decide_eq_true h1
    have wv1 := wv.gr (.of s1)
    have wu1 := wu.gr (.of s1)
    obtain ⟨dx, lt, pl, pr, o, f, wl, wr⟩ := id wv1
    refine ⟨_, rfl, q, _, dx, _, _, rfl, o, cl_Way T, no_Way_left T, wf_left, rfl, _, rfl, ?_⟩
    refine iteT ⟨_, rfl, p, rfl, wu1.is, p, u, rfl, wu1, _, rfl, _, rfl, _, rfl, r, q, a, b, rfl, wv1, zv, fun H2 l s2 hl => ?_⟩
    refine ⟨l, _, rfl, .inl (SqL.of hl), rfl, flat_tx _, ?_⟩
    rw [if_neg Bool.false_ne_true, show inV (V.str (S u.txt)) ((shortL r a b).map txV) = decide (u ∈ shortL r a b) from in_txV, decide_eq_true hm]
    exact kx H1 H2 s1 s2
theorem made_way1 {H : Hp} {t : Tree} (ht : Sm t) {z dz : Addr} {R : Hp → Prop} (nz : H z = none) (nd : H dz = none) (ne : dz ≠ z) {x : Str} (hx : x = S t.txt) (q : ∀ H', Same H H' → WayAt K H' z t → R H') :
    pm_winit (K := K) 64 [.ref z, .str x] (upd (upd H dz (.own z)) z (.ins (cWay K) dz [])) fun v H2 => v = .non ∧ R H2 :=
  ⟨z, dz, t, by rw [hx], upd_same, ht.depth, Nat.le_trans ht.txt (by decide), fun H1 s1 w1 => ⟨rfl, q H1 (same_made (o := .lst []) nz nd s1) w1⟩⟩
theorem has_rl {R : RS} {r : Rl} : decide (r.code ∈ R.txt) = R.has r := by
  cases r
  · exact has_a R
  · exact has_c R
  · exact has_i R
  · exact has_u R
  · exact has_z R
theorem eqV_pl {p q : List Bool} : eqV (plV p) (plV q) = decide (p = q) := by
  rw [Bool.eq_iff_iff]
  show (S (pth p) == S (pth q)) = true ↔ _
  rw [beq_iff_eq, decide_eq_true_eq]
  exact ⟨fun h => pth_inj (S_inj h), fun h => by rw [h]⟩
theorem in_plV {q : List Bool} {l : List (List Bool)} : inV (plV q) (l.map plV) = decide (q ∈ l) := by
  unfold inV
  rw [List.any_map, Bool.eq_iff_iff, List.any_eq_true, decide_eq_true_eq]
  constructor
  · rintro ⟨x, hx, e⟩
    have e : eqV (plV x) (plV q) = true := e
    rw [eqV_pl] at e
    exact of_decide_eq_true e ▸ hx
  · exact fun h => ⟨q, h, by show eqV (plV q) (plV q) = true; rw [eqV_pl]; simp⟩
theorem flat_pl (l : List (List Bool)) : (l.map plV).all flatV = true := by
  rw [List.all_map]
  exact List.all_eq_true.mpr fun _ _ => rfl
def pm_tlr (K : PySem.W.Frag) : Pm := fun vs H Q => ∃ p l r t d R, vs = [.ref p, .ref l, .ref r] ∧ WayAt K H p t ∧ DeedAt H l d ∧ RulesAt K H r R ∧ t.size ≤ 20 ∧ d.to.size ≤ 20 ∧ R.has d.rl = true ∧ d.rl ≠ .A ∧ Step t d ∧ ∀ H' z, Same H H' → WayAt K H' z d.to → Q (.ref z) H'
theorem ok_tlr (T : Txt K mg) : Ok P w K mg base 199 (a_tree_link_right K) (pm_tlr K) := by
  have GC : Ok P w K mg base 1 (a_Rules_contains K) (pm_rcontains K) := ok_rcontains T
  have GL : Ok P w K mg base 65 (a_Way_places K) (pm_places K 64) := ok_places T 64
  have GW : Ok P w K mg base 130 (a_Way_init K) (pm_winit (K := K) 64) := ok_way T
  have GP : Ok P w K mg base 1 (a_Way_part K) (pm_part K) := ok_part T
  have GU : Ok P w K mg base 197 (a_Way_put K) (pm_put K 64) := ok_put T 64
  have GE : Ok P w K mg base 1 (a_Way_eq K) (pm_weq K) := ok_weq T
  have GO : Ok P w K mg base 7 (a_one_step K) (pm_one K) := ok_one T
  have mc := m_Rules_contains T
  refine ok_of (F_tree_link_right T) ctree_link_right b_tree_link_right (fun vs H Q h => ?_) (fun cdv A outer s H vs Q E hr h => ?_)
  · obtain ⟨p, l, r, t, d, R, rfl, _⟩ := h
    rfl
  obtain ⟨p, l, r, t, d, R, rfl, wt, hd, hR, zt, zd, hh, hA, ⟨u, v, hu, hto, h1⟩, k⟩ := h
  refine ⟨_, pss_cons (ps_asg (pv 1) (pg_tup rfl (pgs_cons (pg_name (i := 3) ctree_link_right.nd rfl (.inl rfl)) (pgs_cons (pg_name (i := 4) ctree_link_right.nd rfl (.inl rfl)) (pgs_cons (pg_name (i := 5) ctree_link_right.nd rfl (.inl rfl)) pgs_nil)))))
    (pss_cons (ps_if (PW.pt (pw_or (pt_cmpR (o_notIn GC mc hr (by omega)) (pv 3) (pv 2) (by rfl)) (pw_or1 (pt_cmpR op_notIn_seq (pv 4) (e_meth0 (pv 0) (cl_Way T) (m_Way_places T) GL hr (by omega)) (by rfl))))) (pss_one (ps_ret pe_non)) pss_nil)
    (pss_cons (ps_try_thru0 (pss_one (ps_set (i := 6) ctree_link_right.nd rfl (.inl rfl) (e_make (mk_Way T) GW hr (by omega) (g_Way T) (pa_cons (pv 5) pa_nil)))))
    (pss_cons (ps_if (PW.pt (pw_or (pt_cmpR op_notIn_seq (pv 4) (e_meth0 (pv 6) (cl_Way T) (m_Way_places T) GL hr (by omega)) (by rfl)) (pw_or1 (pt_not (pt_cmpR (o_eq GE (m_Way_eq T) hr (by omega)) (e_meth (pv 0) (cl_Way T) (m_Way_put T) GU hr (by omega) (pa_cons (pv 4) (pa_cons (e_meth (pv 6) (cl_Way T) (m_Way_part T) GP hr (by omega) (pa_cons (pv 4) pa_nil)) pa_nil))) (pv 6) (nomark _)))))) (pss_one (ps_ret pe_non)) pss_nil)
    (pss_cons (ps_if (pt_not (pt_val (e_call GO hr (by omega) (g_one_step T) (k_one_step T) (pa_cons (pv 3) (pa_cons (e_meth (pv 0) (cl_Way T) (m_Way_part T) GP hr (by omega) (pa_cons (pv 4) pa_nil)) (pa_cons (e_meth (pv 6) (cl_Way T) (m_Way_part T) GP hr (by omega) (pa_cons (pv 4) pa_nil)) pa_nil)))))) (pss_one (ps_ret pe_non)) pss_nil)
    (pss_one (ps_ret (pv 6))))))), ?_⟩
  refine ⟨_, rfl, l, _, rfl, SqT.of hd, rfl, _, _, rfl, _, _, rfl, _, _, rfl, rfl, ?_⟩
  refine ⟨_, rfl, _, rfl, r, rfl, hR.is, r, d.rl.code, R, rfl, hR, _, rfl, _, rfl, ?_⟩
  rw [has_rl, hh]
  have dt := t.depth_lt
  have hm : d.at_ ∈ places t := (mem_places t d.at_).mpr ⟨u, hu⟩
  have hp' : part d.to d.at_ = some v := by rw [hto]; exact part_put hu
  have hm' : d.at_ ∈ places d.to := (mem_places d.to d.at_).mpr ⟨v, hp'⟩
  have zu := part_size hu
  have zv := part_size hp'
  have pd := part_depth hu
  obtain ⟨d1, t1, n1, a1, b1, o1, f1⟩ := wt.obj
  refine iteF ⟨_, rfl, _, rfl, p, d1, _, rfl, o1, wf_places, p, t, rfl, wt, by show t.size ≤ 64; omega, by omega, fun pl H1 s1 npl hpl => ?_⟩
  refine ⟨pl, _, rfl, .inl (SqL.of hpl), rfl, flat_pl _, _, rfl, ?_⟩
  rw [if_pos rfl, show inV (V.str (S (pth d.at_))) ((places t).map plV) = decide (d.at_ ∈ places t) from in_plV, decide_eq_true hm]
  refine iteF ⟨_, rfl, ?_⟩
  intro b dz nz nd ne
  refine made_way1 (t := d.to) (by show d.to.size ≤ 64; omega) nz nd ne rfl fun H2 s2 wb => ?_
  have s12 : Same H H2 := fun c x e => s2 c x (s1 c x e)
  have wt2 := wt.gr (.of s12)
  obtain ⟨d2, t2, n2, a2, b2, o2, f2⟩ := wb.obj
  have dd := d.to.depth_lt
  refine ⟨_, rfl, _, rfl, b, d2, _, rfl, o2, wf_places, b, d.to, rfl, wb, by show d.to.size ≤ 64; omega, by omega, fun pl2 H3 s3 npl2 hpl2 => ?_⟩
  refine ⟨pl2, _, rfl, .inl (SqL.of hpl2), rfl, flat_pl _, _, rfl, ?_⟩
  rw [if_pos rfl, show inV (V.str (S (pth d.at_))) ((places d.to).map plV) = decide (d.at_ ∈ places d.to) from in_plV, decide_eq_true hm']
  have s13 : Same H H3 := fun c x e => s3 c x (s12 c x e)
  have wt3 := wt.gr (.of s13)
  have wb3 := wb.gr (.of s3)
  refine iteF ⟨_, rfl, p, d1, _, rfl, s13 _ _ o1, wf_put, _, rfl, _, rfl, b, d2, _, rfl, s3 _ _ o2, wf_part, _, rfl, b, d.to, d.at_, v, rfl, wb3, hp', fun y wy => ?_⟩
  refine ⟨p, t, d.at_, u, y, v, rfl, wt3, wy, hu, by show t.size ≤ 64; omega, by show (put t d.at_ v).size ≤ 64; rw [← hto]; omega, by omega, fun x H4 s4 wx => ?_⟩
  rw [← hto] at wx
  have wb4 := wb3.gr (.of s4)
  refine ⟨_, rfl, x, b, rfl, rfl, wx.is, wb4.is, x, b, d.to, d.to, rfl, wx, wb4, _, rfl, ?_⟩
  rw [decide_eq_true rfl]
  have s14 : Same H H4 := fun c x e => s4 c x (s13 c x e)
  have wt4 := wt.gr (.of s14)
  have o24 := s4 _ _ (s3 _ _ o2)
  refine iteF ⟨_, rfl, _, rfl, p, d1, _, rfl, s14 _ _ o1, wf_part, _, rfl, p, t, d.at_, u, rfl, wt4, hu, fun y1 wy1 => ?_⟩
  refine ⟨_, rfl, b, d2, _, rfl, o24, wf_part, _, rfl, b, d.to, d.at_, v, rfl, wb4, hp', fun y2 wy2 => ?_⟩
  refine ⟨d.rl, y1, y2, u, v, rfl, wy1, wy2, by omega, by omega, h1.oneB hA, fun H5 s5 => ⟨_, rfl, ?_⟩⟩
  exact iteF ⟨_, rfl, k H5 b (fun c x e => s5 c x (s14 c x e)) (wb4.gr (.of s5))⟩
end
end NL
set_option Elab.async false
set_option linter.all false
set_option maxRecDepth 100000
set_option maxHeartbeats 4000000
/-! walked. -/
namespace NL
open PySem PySem.Spec PyProof.Rows L2 SX LamX
/-- statements that are never reached -/
theorem pss_no {X : Cx} {b : List Stmt} : PSs X b (fun _ _ _ => False) := ⟨fun _ _ _ _ _ _ h => h.elim⟩
section
variable {P : Program} {w : World} {K : PySem.W.Frag} {mg : Str → Option Value} {base : Heap}
def pm_walked (K : PySem.W.Frag) : Pm := fun vs H Q => ∃ p q l r t ds ts R, vs = [.ref p, .ref q, .ref l, .ref r] ∧ WayAt K H p t ∧ WayAt K H q (cur t ds) ∧ H l = some (.lst (ts.map V.ref)) ∧ Each (DeedAt H) ts ds ∧ RulesAt K H r R ∧ Low t ds ∧ R.a = false ∧ (∀ d ∈ ds, R.has d.rl = true) ∧ Steps t ds ∧
  ∀ H', Same H H' → Q (.bl true) H'
theorem ok_walked (T : Txt K mg) : OkK P w K mg base 201 (a_walked K) ["rules"] (fun vs zs H Q => vs.length = 3 ∧ pm_walked K (vs ++ zs) H Q) := by
  have GC : Ok P w K mg base 1 (a_Rules_contains K) (pm_rcontains K) := ok_rcontains T
  have GT : Ok P w K mg base 199 (a_tree_link_right K) (pm_tlr K) := ok_tlr T
  have GE : Ok P w K mg base 1 (a_Way_eq K) (pm_weq K) := ok_weq T
  have mc := m_Rules_contains T
  refine okK_of (F_walked T) cwalked b_walked (fun vs H Q h => ?_) (fun cdv A outer s H vs Q E hr h => ?_)
  · obtain ⟨p, q, l, r, t, ds, ts, R, rfl, _⟩ := h
    rfl
  obtain ⟨p, q, l, r, t, ds, ts, R, rfl, wp, wq, hl, he, hR, lo, ha, hh, st, k⟩ := h
  refine ⟨_, pss_cons (ps_if (pt_cmpR (o_in GC mc hr (by omega)) pe_str (pv 3) (by rfl)) pss_no pss_nil)
    (pss_cons (ps_set (i := 6) cwalked.nd rfl (.inl rfl) (pv 0))
    (pss_cons (ps_for PassesOwn.never rfl (pi_list (pv 2)) (pg_name (i := 5) cwalked.nd rfl (.inl rfl))
      (pss_cons (ps_set (i := 6) cwalked.nd rfl (.inl rfl) (e_call GT hr (by omega) (g_tree_link_right T) (k_tree_link_right T) (pa_cons (pv 6) (pa_cons (pv 5) (pa_cons (pv 3) pa_nil)))))
      (pss_one (ps_if (pt_cmpR op_isN (pv 6) pe_non (nomark _)) (pss_one (ps_ret pe_bl)) pss_nil))))
    (pss_one (ps_ret (pe_cmpR (o_eq GE (m_Way_eq T) hr (by omega)) (pv 6) (pv 1) (nomark _)))))), ?_⟩
  obtain ⟨zs, rfl, rfl, hz⟩ := he.zs
  refine ⟨_, rfl, r, rfl, hR.is, r, 65, R, by rw [cA], hR, _, rfl, _, rfl, ?_⟩
  rw [has_a, ha]
  refine iteF ⟨_, rfl, _, rfl, l, rfl, ⟨_, SqL.of hl⟩, ?_⟩
  refine for_it (walk_list (K := K) (a := l) (xs := (zs.map (·.1)).map V.ref)) (fun i σ H' => Same H H' ∧ ∃ y vl, σ = [some (.ref p), some (.ref q), some (.ref l), some (.ref r), none, vl, some (.ref y)] ∧ WayAt K H' y (cur t ((zs.map (·.2)).take i)))
    ⟨Same.refl H, p, none, rfl, wp⟩ (fun i σ H' _ h => SqL.of (h.1 _ _ hl)) ?_ ?_
  · rintro i x σ H1 H2 hi ⟨s1, y, vl, rfl, wy⟩ ⟨rfl, hx⟩
    rw [List.map_map] at hx
    obtain ⟨z, e1, rfl⟩ := map_at' hx
    have dz := (hz z (List.mem_of_getElem? e1)).gr (.of s1)
    have hmem : z.2 ∈ zs.map (·.2) := List.mem_map.mpr ⟨z, List.mem_of_getElem? e1, rfl⟩
    have tk : (zs.map (·.2)).take (i + 1) = (zs.map (·.2)).take i ++ [z.2] := by
      rw [List.take_add_one, List.getElem?_map, e1]
      rfl
    have sz : (cur t ((zs.map (·.2)).take i)).size ≤ 20 := Low.cur ⟨lo.1, fun d hd => lo.2 d (List.mem_of_mem_take hd)⟩
    have stp : Step (cur t ((zs.map (·.2)).take i)) z.2 := Steps.at_ st (by rw [List.getElem?_map, e1]; rfl)
    have na : z.2.rl ≠ .A := fun e => by
      have := hh z.2 hmem
      rw [e] at this
      exact absurd (this.symm.trans ha) (by decide)
    refine ⟨_, rfl, _, rfl, _, rfl, y, z.1, r, _, z.2, R, rfl, wy, dz, hR.gr (.of s1), sz, lo.2 _ hmem, hh _ hmem, na, stp, fun H3 b s3 wb => ?_⟩
    refine ⟨_, rfl, rfl, _, rfl, ?_⟩
    refine iteF ⟨fun c u e => s3 c u (s1 c u e), b, _, rfl, ?_⟩
    rw [tk, cur_snoc]
    exact wb
  · rintro σ H1 ⟨s1, y, vl, rfl, wy⟩
    have e : ((zs.map (·.1)).map V.ref).length = (zs.map (·.2)).length := by simp
    rw [e, List.take_length] at wy
    have wq1 := wq.gr (.of s1)
    refine ⟨_, rfl, _, rfl, y, q, rfl, rfl, wy.is, wq1.is, y, q, _, _, rfl, wy, wq1, ?_⟩
    rw [decide_eq_true rfl]
    exact k H1 s1
end
end NL
set_option Elab.async false
set_option linter.all false
set_option maxRecDepth 100000
set_option maxHeartbeats 4000000
/-! The law's own: pool, take, cell, tree, text, leaves, paths, part, put. -/
namespace NL
open PySem PySem.Spec PyProof.Rows L2 SX LamX
section
variable {P : Program} {w : World} {K : PySem.W.Frag} {mg : Str → Option Value} {base : Heap}
def PoolAt (H : Hp) (p : Addr) : Prop := ∃ a b c, H p = some (.lst [.int a, .int b, .bl c])
def pm_pool : Pm := fun vs H Q => ∃ a, vs = [.int a] ∧ ∀ p H', Same H H' → H p = none → PoolAt H' p → Q (.ref p) H'
theorem ok_pool (T : Txt K mg) : Ok P w K mg base 1 (a__law_pool K) pm_pool := by
  refine ok_of (F__law_pool T) c_law_pool b__law_pool (fun vs H Q h => ?_) (fun cdv A outer s H vs Q E hr h => ?_)
  · obtain ⟨a, rfl, _⟩ := h
    rfl
  obtain ⟨a, rfl, k⟩ := h
  refine ⟨_, pss_one (ps_ret (pe_lst (pa_cons (pv 0) (pa_cons pe_int (pa_cons (pe_cmpR op_ge (pv 0) (pe_op op_pow pe_int pe_int) (nomark _)) pa_nil))))), ?_⟩
  refine ⟨_, rfl, _, rfl, _, _, rfl, rfl, ⟨by decide, by decide, by decide⟩, _, _, rfl, rfl, (by show 3 ≤ sizeLine; decide), fun p np => ?_⟩
  exact k p _ (same_upd np) np ⟨_, _, _, upd_same⟩
def pm_take : Pm := fun vs H Q => ∃ p n, vs = [.ref p, .int n] ∧ PoolAt H p ∧ 0 < n ∧ n < 1000000 ∧ ∀ r H', 0 ≤ r → r < n → Sx [p] H H' → PoolAt H' p → Q (.int r) H'
theorem ok_take (T : Txt K mg) : Ok P w K mg base 1 (a__law_take K) pm_take := by
  refine ok_of (F__law_take T) c_law_take b__law_take (fun vs H Q h => ?_) (fun cdv A outer s H vs Q E hr h => ?_)
  · obtain ⟨p, n, rfl, _⟩ := h
    rfl
  obtain ⟨p, n, rfl, ⟨a, b, c, hp⟩, h0, h1, k⟩ := h
  have ix {i : Expr} {k : Nat} : True := trivial
  refine ⟨_, pss_cons (ps_asg (pe_op op_add (pe_ix ix_list (pv 0) pe_int (fun _ _ => rfl)) pe_int) (pg_sub (pv 0) pe_int L2.set_list))
    (pss_cons (ps_if (pt_val (pe_ix ix_list (pv 0) pe_int (fun _ _ => rfl)))
      (pss_cons (ps_set (i := 2) c_law_take.nd rfl (.inl rfl) (pe_op op_mod (pe_callTy call_int1 (by rfl) (z_int T) (by decide +kernel) (pa_cons (pe_ix ix_list (pv 0) pe_int (fun _ _ => rfl)) pa_nil)) (pv 1)))
      (pss_cons (ps_asg (pe_op op_fdiv (pe_callTy call_int1 (by rfl) (z_int T) (by decide +kernel) (pa_cons (pe_ix ix_list (pv 0) pe_int (fun _ _ => rfl)) pa_nil)) (pv 1)) (pg_sub (pv 0) pe_int L2.set_list))
      (pss_one (ps_ret (pv 2))))) pss_nil)
    (pss_cons (ps_set (i := 3) c_law_take.nd rfl (.inl rfl) (pe_op op_mod (pe_callTy call_int1 (by rfl) (z_int T) (by decide +kernel) (pa_cons (pe_op op_add (pe_op op_add (pe_op op_mul (pe_ix ix_list (pv 0) pe_int (fun _ _ => rfl)) pe_int) (pe_op op_mul (pe_ix ix_list (pv 0) pe_int (fun _ _ => rfl)) pe_int)) pe_int) pa_nil)) pe_int))
    (pss_one (ps_ret (pe_op op_mod (pe_op op_fdiv (pe_callTy call_int1 (by rfl) (z_int T) (by decide +kernel) (pa_cons (pe_op op_mod (pe_op op_pow (pv 3) pe_int) pe_int) pa_nil)) pe_int) (pv 1)))))), ?_⟩
  have at_ : ∀ {H' : Hp} {x y z : V} (j : Nat) {v : V}, H' p = some (.lst [x, y, z]) → [x, y, z][j]? = some v → SqL K H' p [x, y, z] ∧ atI [x, y, z] (j : Int) = some v := fun {H' x y z} j {v} e h => ⟨SqL.of e, atI_nat h⟩
  refine ⟨_, rfl, p, _, 1, _, rfl, rfl, SqL.of hp, atI_nat (j := 1) rfl, _, _, rfl, rfl, ?_⟩
  refine ⟨_, rfl, p, _, 1, 1, rfl, rfl, hp, rfl, ?_⟩
  have hp1 : (upd H p (.lst [.int a, .int (b + 1), .bl c])) p = some (.lst [.int a, .int (b + 1), .bl c]) := upd_same
  have x1 : Sx [p] H (upd H p (.lst [.int a, .int (b + 1), .bl c])) := Sx.set
  show tSeq _ _ _ _ (upd H p (.lst [.int a, .int (b + 1), .bl c]))
  generalize upd H p (.lst [.int a, .int (b + 1), .bl c]) = H1 at hp1 x1 ⊢
  refine ⟨_, rfl, p, _, 2, _, rfl, rfl, SqL.of hp1, atI_nat (j := 2) rfl, _, rfl, ?_⟩
  cases c with
  | true =>
    refine iteT ⟨_, rfl, p, _, 0, _, rfl, rfl, SqL.of hp1, atI_nat (j := 0) rfl, .inl ⟨_, rfl, _, rfl, _, _, rfl, rfl, h0, ?_⟩⟩
    refine ⟨_, rfl, p, _, 0, _, rfl, rfl, SqL.of hp1, atI_nat (j := 0) rfl, .inl ⟨_, rfl, _, rfl, _, _, rfl, rfl, ⟨h0, by omega⟩, ?_⟩⟩
    refine ⟨_, rfl, p, _, 0, 0, rfl, rfl, hp1, rfl, _, rfl, ?_⟩
    exact k _ _ (Int.emod_nonneg _ (by omega)) (Int.emod_lt_of_pos _ h0) (fun q o e m => by rw [upd_ne (by simpa using m)]; exact x1 q o e m) ⟨_, _, _, upd_same⟩
  | false =>
    refine iteF ⟨_, rfl, p, _, 0, _, rfl, rfl, SqL.of hp1, atI_nat (j := 0) rfl, _, _, rfl, rfl, .inr (by decide), ?_⟩
    refine ⟨_, rfl, p, _, 1, _, rfl, rfl, SqL.of hp1, atI_nat (j := 1) rfl, _, _, rfl, rfl, .inr (by decide), _, _, rfl, rfl, _, _, rfl, rfl, .inl ⟨_, rfl, _, _, rfl, rfl, (show (0 : Int) < 2147483647 from by decide), ?_⟩⟩
    have m0 : 0 ≤ (a * 7919 + (b + 1) * 104729 + 13) % 2147483647 := Int.emod_nonneg _ (by decide)
    have m1 : (a * 7919 + (b + 1) * 104729 + 13) % 2147483647 < 2147483647 := Int.emod_lt_of_pos _ (by decide)
    generalize (a * 7919 + (b + 1) * 104729 + 13) % 2147483647 = m at m0 m1 ⊢
    refine ⟨_, rfl, _, _, rfl, rfl, ⟨by decide, by decide, by omega⟩, _, _, rfl, rfl, (show (0 : Int) < 2147483647 from by decide), .inl ⟨_, rfl, _, _, rfl, rfl, ⟨(show (0 : Int) < 17 from by decide), (show (17 : Int) < 1073741824 from by decide)⟩, _, rfl, _, _, rfl, rfl, h0, ?_⟩⟩
    exact k _ _ (Int.emod_nonneg _ (by omega)) (Int.emod_lt_of_pos _ h0) x1 ⟨_, _, _, hp1⟩
@[irreducible] def pm_takeI : Pm := pm_take
theorem takeI_eq : pm_takeI = pm_take := by unfold pm_takeI; rfl
theorem ok_takeI (T : Txt K mg) : Ok P w K mg base 1 (a__law_take K) pm_takeI := by rw [takeI_eq]; exact ok_take T
def pm_cell (K : PySem.W.Frag) : Pm := fun vs H Q => ∃ (p : Addr) (ns : List Int) (k : Nat), vs = [.ref p, .int k] ∧ SqL K H p (ns.map V.int) ∧ ns.length ≤ 1000 ∧ ∀ a, Q (.int a) H
theorem ok_cell (T : Txt K mg) : Ok P w K mg base 1 (a__law_cell K) (pm_cell K) := by
  refine ok_of (F__law_cell T) c_law_cell b__law_cell (fun vs H Q h => ?_) (fun cdv A outer s H vs Q E hr h => ?_)
  · obtain ⟨p, ns, k, rfl, _⟩ := h
    rfl
  obtain ⟨p, ns, j, rfl, hp, hn, k⟩ := h
  refine ⟨_, pss_cons (ps_if (pt_cmpR op_lt (pv 1) (pe_callB call_len_seq (by rfl) (z_len T) PySem.boot_len (pa_cons (pv 0) pa_nil)) (nomark _)) (pss_one (ps_ret (pe_ix ix_list (pv 0) (pv 1) (fun _ _ => rfl)))) pss_nil)
    (pss_one (ps_ret pe_int)), ?_⟩
  refine ⟨_, rfl, _, rfl, p, _, rfl, .inl hp, _, _, rfl, rfl, _, rfl, ?_⟩
  by_cases h : (j : Int) < ((ns.map V.int).length : Nat)
  · rw [decide_eq_true h]
    have hj : j < ns.length := by simpa using h
    refine iteT ⟨_, rfl, _, rfl, p, _, j, .int ns[j], rfl, rfl, hp, atI_nat (by rw [List.getElem?_map, List.getElem?_eq_getElem hj]; rfl), k _⟩
  · rw [decide_eq_false h]
    exact iteF (k 0)
/-! ### trees -/
@[irreducible] def rIsj (K : PySem.W.Frag) : List V → Hp → VK → Prop := rIsi K
theorem rIsj_eq {K : PySem.W.Frag} : rIsj K = rIsi K := by unfold rIsj; rfl
theorem call_isj {X : Cx} : CallR X (.builtin "isinstance") (rIsj X.K) := by rw [rIsj_eq]; exact call_isi
theorem isStr_lf {x : L} {H : Hp} {Q : VK} (q : Q (.bl true) H) : rIsj K [leafV x, .ty "str"] H Q := by rw [rIsj_eq]; exact ⟨_, _, _, _, true, rfl, .ty "str", .base (.str _), kit_ty (by decide +kernel), q⟩
theorem isStr_nd {p : Addr} {xs : List V} {H : Hp} {Q : VK} (h : H p = some (.tup xs)) (q : Q (.bl false) H) : rIsj K [.ref p, .ty "str"] H Q := by rw [rIsj_eq]; exact ⟨_, _, _, _, false, rfl, .ty "str", .base (.tup h), kit_ty (by decide +kernel), q⟩
theorem isTup_nd {p : Addr} {xs : List V} {H : Hp} {Q : VK} (h : H p = some (.tup xs)) (q : Q (.bl true) H) : rIsj K [.ref p, .ty "tuple"] H Q := by rw [rIsj_eq]; exact ⟨_, _, _, _, true, rfl, .ty "tuple", .base (.tup h), kit_ty (by decide +kernel), q⟩
theorem isTup_lf {x : L} {H : Hp} {Q : VK} (q : Q (.bl false) H) : rIsj K [leafV x, .ty "tuple"] H Q := by rw [rIsj_eq]; exact ⟨_, _, _, _, false, rfl, .ty "tuple", .base (.str _), kit_ty (by decide +kernel), q⟩
def pm_ltext (n : Nat) : Pm := fun vs H Q => ∃ v t, vs = [v] ∧ LT H v t ∧ t.depth < n ∧ t.size ≤ 60 ∧ Q (.str (S t.txt)) H
theorem ok_ltext (T : Txt K mg) : ∀ n : Nat, Ok P w K mg base (n + 1) (a__law_text K) (pm_ltext n)
  | 0 => no_calls fun vs H Q ⟨_, _, _, _, h, _⟩ => Nat.not_lt_zero _ h
  | n + 1 => by
    have G := ok_ltext T n
    refine ok_of (F__law_text T) c_law_text b__law_text (fun vs H Q h => ?_) (fun cdv A outer s H vs Q E hr h => ?_)
    · obtain ⟨v, t, rfl, _⟩ := h
      rfl
    obtain ⟨v, t, rfl, ht, hd, hs, k⟩ := h
    refine ⟨_, pss_cons (ps_if (pt_val (pe_callB call_isj (by rfl) (z_isinstance T) (by decide +kernel) (pa_cons (pv 0) (pa_cons (pe_bltn (v := .ty "str") rfl (z_str T) (by decide +kernel) rfl) pa_nil)))) (pss_one (ps_ret (pv 0))) pss_nil)
      (pss_one (ps_ret (pe_op op_add_str (pe_op op_add_str (pe_op op_add_str (pe_op op_add_str pe_str (e_call G hr (by omega) (g__law_text T) (k__law_text T) (pa_cons (pe_ix ix_tup (pv 0) pe_int (fun _ _ => rfl)) pa_nil))) pe_str)
        (e_call G hr (by omega) (g__law_text T) (k__law_text T) (pa_cons (pe_ix ix_tup (pv 0) pe_int (fun _ _ => rfl)) pa_nil))) pe_str))), ?_⟩
    cases t with
    | lf x =>
      obtain rfl : v = leafV x := ht
      refine ⟨_, rfl, ?_⟩
      refine isStr_lf ?_
      exact ⟨_, rfl, iteT ⟨_, rfl, k⟩⟩
    | nd a b =>
      obtain ⟨p, x, y, rfl, hp, hx, hy⟩ := ht
      have hd' : max a.depth b.depth + 1 < n + 1 := hd
      have hs' : a.size + b.size ≤ 60 := hs
      have la := a.txt_len
      have lb := b.txt_len
      have e1 : ("(" : Str) = S [40] := by decide +kernel
      have e2 : (" " : Str) = S [32] := by decide +kernel
      have e3 : (")" : Str) = S [41] := by decide +kernel
      refine ⟨_, rfl, ?_⟩
      refine isStr_nd hp ?_
      refine ⟨_, rfl, iteF ?_⟩
      refine ⟨_, rfl, p, _, 0, x, rfl, rfl, SqT.of hp, atI_nat (j := 0) rfl, x, a, rfl, hx, by omega, by omega, _, _, rfl, rfl, ?_, ?_⟩
      · rw [e1, S_len, S_len]; exact small_len (by simp; omega)
      rw [e1, S_cat]
      refine ⟨_, _, rfl, rfl, ?_, ?_⟩
      · rw [e2, S_len, S_len]; exact small_len (by simp; omega)
      rw [e2, S_cat]
      refine ⟨_, rfl, p, _, 1, y, rfl, rfl, SqT.of hp, atI_nat (j := 1) rfl, y, b, rfl, hy, by omega, by omega, _, _, rfl, rfl, ?_, ?_⟩
      · rw [S_len, S_len]; exact small_len (by simp; omega)
      rw [S_cat]
      refine ⟨_, _, rfl, rfl, ?_, ?_⟩
      · rw [e3, S_len, S_len]; exact small_len (by simp; omega)
      rw [e3, S_cat]
      rw [show ([40] ++ a.txt ++ [32] ++ b.txt ++ [41] : List Nat) = (Tree.nd a b).txt by simp [Tree.txt]]
      exact k
end
end NL
set_option Elab.async false
set_option linter.all false
set_option maxRecDepth 100000
set_option maxHeartbeats 4000000
/-! The law's trees: leaves, paths, part, put, drawn trees. -/
namespace NL
open PySem PySem.Spec PyProof.Rows L2 SX LamX
section
variable {P : Program} {w : World} {K : PySem.W.Frag} {mg : Str → Option Value} {base : Heap}
theorem part_snoc : ∀ {t : Tree} {q : List Bool} {a d : Tree} {b : Bool}, part t q = some (.nd a d) → part t (q ++ [b]) = some (if b then d else a)
  | t, [], a, d, b, h => by
    have e : t = .nd a d := by cases t <;> exact Option.some.inj h
    rw [e]
    cases b <;> (show part _ [] = _) <;> first | (cases d <;> rfl) | (cases a <;> rfl)
  | .lf x, _ :: _, a, d, b, h => nomatch h
  | .nd l r, c :: q, a, d, b, h => by
    cases c with
    | false => exact part_snoc (t := l) (q := q) h
    | true => exact part_snoc (t := r) (q := q) h
def pm_lleaves (n : Nat) : Pm := fun vs H Q => ∃ v t, vs = [v] ∧ LT H v t ∧ t.depth < n ∧ t.size ≤ 60 ∧ ∀ l H', Same H H' → H l = none → H' l = some (lst t.leaves) → Q (.ref l) H'
theorem ok_lleaves (T : Txt K mg) : ∀ n : Nat, Ok P w K mg base (n + 1) (a__law_leaves K) (pm_lleaves n)
  | 0 => no_calls fun vs H Q ⟨_, _, _, _, h, _⟩ => Nat.not_lt_zero _ h
  | n + 1 => by
    have G := ok_lleaves T n
    refine ok_of (F__law_leaves T) c_law_leaves b__law_leaves (fun vs H Q h => ?_) (fun cdv A outer s H vs Q E hr h => ?_)
    · obtain ⟨v, t, rfl, _⟩ := h
      rfl
    obtain ⟨v, t, rfl, ht, hd, hs, k⟩ := h
    refine ⟨_, pss_cons (ps_if (pt_val (pe_callB call_isj (by rfl) (z_isinstance T) (by decide +kernel) (pa_cons (pv 0) (pa_cons (pe_bltn (v := .ty "str") rfl (z_str T) (by decide +kernel) rfl) pa_nil)))) (pss_one (ps_ret (pe_lst (pa_cons (pv 0) pa_nil)))) pss_nil)
      (pss_one (ps_ret (pe_op op_cat (e_call G hr (by omega) (g__law_leaves T) (k__law_leaves T) (pa_cons (pe_ix ix_tup (pv 0) pe_int (fun _ _ => rfl)) pa_nil)) (e_call G hr (by omega) (g__law_leaves T) (k__law_leaves T) (pa_cons (pe_ix ix_tup (pv 0) pe_int (fun _ _ => rfl)) pa_nil))))), ?_⟩
    cases t with
    | lf x =>
      obtain rfl : v = leafV x := ht
      refine ⟨_, rfl, ?_⟩
      refine isStr_lf ?_
      exact ⟨_, rfl, iteT ⟨_, rfl, (by show 1 ≤ sizeLine; decide), fun l nl => k l _ (same_upd nl) nl upd_same⟩⟩
    | nd a b =>
      obtain ⟨p, x, y, rfl, hp, hx, hy⟩ := ht
      have hd' : max a.depth b.depth + 1 < n + 1 := hd
      have hs' : a.size + b.size ≤ 60 := hs
      have la := a.leaves_len
      have lb := b.leaves_len
      refine ⟨_, rfl, ?_⟩
      refine isStr_nd hp ?_
      refine ⟨_, rfl, iteF ?_⟩
      refine ⟨_, rfl, p, _, 0, x, rfl, rfl, SqT.of hp, atI_nat (j := 0) rfl, x, a, rfl, hx, by omega, by omega, fun l1 H1 s1 n1 h1 => ?_⟩
      refine ⟨_, rfl, p, _, 1, y, rfl, rfl, SqT.of (s1 _ _ hp), atI_nat (j := 1) rfl, y, b, rfl, hy.gr (.of s1), by omega, by omega, fun l2 H2 s2 n2 h2 => ?_⟩
      have s12 : Same H H2 := fun c u e => s2 c u (s1 c u e)
      refine ⟨l1, l2, _, _, rfl, rfl, s2 _ _ h1, h2, by rw [List.length_map, List.length_map]; exact small_len (by omega), fun l nl => ?_⟩
      refine k l _ (Same.upd s12 nl) (Same.none s12 nl) ?_
      rw [upd_same]
      show _ = some (lst (a.leaves ++ b.leaves))
      unfold lst
      rw [List.map_append]
def pm_lpaths (n : Nat) : Pm := fun vs H Q => ∃ v t, vs = [v] ∧ LT H v t ∧ t.depth < n ∧ t.size ≤ 60 ∧ ∀ l H', Same H H' → H l = none → H' l = some (.lst ((places t).map plV)) → Q (.ref l) H'
theorem ok_lpaths (T : Txt K mg) : ∀ n : Nat, Ok P w K mg base (n + 1) (a__law_paths K) (pm_lpaths n)
  | 0 => no_calls fun vs H Q ⟨_, _, _, _, h, _⟩ => Nat.not_lt_zero _ h
  | n + 1 => by
    have G := ok_lpaths T n
    refine ok_of (F__law_paths T) c_law_paths b__law_paths (fun vs H Q h => ?_) (fun cdv A outer s H vs Q E hr h => ?_)
    · obtain ⟨v, t, rfl, _⟩ := h
      rfl
    obtain ⟨v, t, rfl, ht, hd, hs, k⟩ := h
    refine ⟨_, pss_cons (ps_if (pt_val (pe_callB call_isj (by rfl) (z_isinstance T) (by decide +kernel) (pa_cons (pv 0) (pa_cons (pe_bltn (v := .ty "str") rfl (z_str T) (by decide +kernel) rfl) pa_nil)))) (pss_one (ps_ret (pe_lst (pa_cons pe_str pa_nil)))) pss_nil)
      (pss_cons (ps_setLc (i := 1) (own := [("_law_path", 2)]) (g := gName 2) (tt := tYes) rfl c_law_paths.nd rfl rfl rfl (pi_list (e_call G hr (by omega) (g__law_paths T) (k__law_paths T) (pa_cons (pe_ix ix_tup (pv 0) pe_int (fun _ _ => rfl)) pa_nil)))
        (blkOk_by (N := n_law_paths) (sc := defScope s_law_paths) (by decide +kernel)) (fun _ _ _ _ _ => pg_name (i := 2) c_law_paths.nd rfl (Or.inl rfl)) (fun _ _ _ _ _ => pts_nil) (fun _ _ _ _ _ => pe_op op_add_str pe_str (pv 2)))
      (pss_one (ps_ret (pe_op op_cat (pe_op op_cat (pe_lst (pa_cons pe_str pa_nil)) (pv 1)) (pe_lc (own := [("_law_path", 2)]) (g := gName 2) (tt := tYes) rfl c_law_paths.nd (pi_list (e_call G hr (by omega) (g__law_paths T) (k__law_paths T) (pa_cons (pe_ix ix_tup (pv 0) pe_int (fun _ _ => rfl)) pa_nil)))
        (blkOk_by (N := n_law_paths) (sc := defScope s_law_paths) (by decide +kernel)) (fun _ _ _ _ _ => pg_name (i := 2) c_law_paths.nd rfl (Or.inl rfl)) (fun _ _ _ _ _ => pts_nil) (fun _ _ _ _ _ => pe_op op_add_str pe_str (pv 2))))))), ?_⟩
    have e0 : V.str ("" : Str) = plV [] := by rw [empty_S]; rfl
    cases t with
    | lf x =>
      obtain rfl : v = leafV x := ht
      refine ⟨_, rfl, ?_⟩
      refine isStr_lf ?_
      exact ⟨_, rfl, iteT ⟨(by show 1 ≤ sizeLine; decide), fun l nl => k l _ (same_upd nl) nl (by rw [upd_same, e0]; rfl)⟩⟩
    | nd a b =>
      obtain ⟨p, x, y, rfl, hp, hx, hy⟩ := ht
      have hd' : max a.depth b.depth + 1 < n + 1 := hd
      have hs' : a.size + b.size ≤ 60 := hs
      have sa : Sm a := by show a.size ≤ 64; omega
      have sb : Sm b := by show b.size ≤ 64; omega
      have pa' := places_small sa
      have pb' := places_small sb
      refine ⟨_, rfl, ?_⟩
      refine isStr_nd hp ?_
      refine ⟨_, rfl, iteF ?_⟩
      refine ⟨_, rfl, p, _, 0, x, rfl, rfl, SqT.of hp, atI_nat (j := 0) rfl, x, a, rfl, hx, by omega, by omega, fun l1 H1 s1 n1 h1 => ?_⟩
      refine ⟨l1, rfl, ⟨_, SqL.of h1⟩, fun D hD => ?_⟩
      have item : ∀ (c : Bool) (z : Str), z = S [if c then 49 else 48] → ∀ (u : List Bool), u.length ≤ 63 → z.length + (S (pth u)).length ≤ sizeLine ∧ V.str (z ++ S (pth u)) = plV (c :: u) := by
        intro c z hz u hu
        rw [hz, S_len, S_len, pth_len, S_cat]
        exact ⟨small_len (by simp; omega), by cases c <;> rfl⟩
      refine lc_pure (walk_list (K := K) (a := l1) (xs := (places a).map plV)) ((places a).map fun u => some (plV (false :: u))) (by simp) (by simp; omega) hD (fun H2 s2 => SqL.of (s2 _ _ h1)) ?_ ?_
      · intro i z o' H2 R R0 hz ho s2 kR k0
        obtain ⟨u, e1, rfl⟩ := map_at hz
        obtain ⟨u', e2, rfl⟩ := map_at ho
        rw [e1] at e2
        cases e2
        have it := item false "0" sg0 u (place_small sa (List.mem_of_getElem? e1))
        exact ⟨rfl, yes1 ⟨_, rfl, _, _, rfl, rfl, it.1, by rw [it.2]; exact kR _ _ rfl (Same.refl _)⟩⟩
      intro H2 s2 h2
      rw [some_map'] at h2
      refine ⟨(by show 1 ≤ sizeLine; decide), fun g ng => ?_⟩
      have nDg : D ≠ g := ne_of_none h2 ng
      refine ⟨_, rfl, g, D, _, _, rfl, rfl, upd_same, by rw [upd_ne nDg]; exact h2, by simp; exact small_len (by omega), fun m nm => ?_⟩
      have s02 : Same H (upd (upd H2 g (.lst [.str ""])) m (.lst ([.str ""] ++ (places a).map fun u => plV (false :: u)))) := Same.upd (Same.upd (fun c u e => s2 c u (s1 c u e)) ng) nm
      have hm : (upd (upd H2 g (.lst [.str ""])) m (.lst ([.str ""] ++ (places a).map fun u => plV (false :: u)))) m = some (.lst ([V.str ""] ++ (places a).map fun u => plV (false :: u))) := upd_same
      generalize upd (upd H2 g (.lst [.str ""])) m (.lst ([.str ""] ++ (places a).map fun u => plV (false :: u))) = H3 at s02 hm ⊢
      refine ⟨_, rfl, p, _, 1, y, rfl, rfl, SqT.of (s02 _ _ hp), atI_nat (j := 1) rfl, y, b, rfl, hy.gr (.of s02), by omega, by omega, fun l2 H4 s4 n4 h4 => ?_⟩
      refine ⟨l2, rfl, ⟨_, SqL.of h4⟩, fun D2 hD2 => ?_⟩
      refine lc_pure (walk_list (K := K) (a := l2) (xs := (places b).map plV)) ((places b).map fun u => some (plV (true :: u))) (by simp) (by simp; omega) hD2 (fun H5 s5 => SqL.of (s5 _ _ h4)) ?_ ?_
      · intro i z o' H5 R R0 hz ho s5 kR k0
        obtain ⟨u, e1, rfl⟩ := map_at hz
        obtain ⟨u', e2, rfl⟩ := map_at ho
        rw [e1] at e2
        cases e2
        have it := item true "1" sg1 u (place_small sb (List.mem_of_getElem? e1))
        exact ⟨rfl, yes1 ⟨_, rfl, _, _, rfl, rfl, it.1, by rw [it.2]; exact kR _ _ rfl (Same.refl _)⟩⟩
      intro H5 s5 h5
      rw [some_map'] at h5
      have s05 : Same H H5 := fun c u e => s5 c u (s4 c u (s02 c u e))
      refine ⟨m, D2, _, _, rfl, rfl, s5 _ _ (s4 _ _ hm), h5, by simp; exact small_len (by omega), fun r nr => ?_⟩
      refine k r _ (Same.upd s05 nr) (Same.none s05 nr) ?_
      rw [upd_same, e0]
      simp [places]
      rfl
/-- a tree, or a part of it -/
theorem LT.child {H : Hp} {v : V} {a b : Tree} (h : LT H v (.nd a b)) : ∃ p x y, v = .ref p ∧ H p = some (.tup [x, y]) ∧ LT H x a ∧ LT H y b := h
def pm_lpart : Pm := fun vs H Q => ∃ v t q u, vs = [v, .str (S (pth q))] ∧ LT H v t ∧ part t q = some u ∧ q.length ≤ 60 ∧ ∀ x, LT H x u → Q x H
theorem int_sign (c : Bool) : PySem.intText? (S [if c then 49 else 48]) = some (if c then 1 else 0) := by cases c <;> decide +kernel
theorem ok_lpart (T : Txt K mg) : Ok P w K mg base 1 (a__law_part K) pm_lpart := by
  refine ok_of (F__law_part T) c_law_part b__law_part (fun vs H Q h => ?_) (fun cdv A outer s H vs Q E hr h => ?_)
  · obtain ⟨v, t, q, u, rfl, _⟩ := h
    rfl
  obtain ⟨v, t, q, u, rfl, ht, hu, hq, k⟩ := h
  refine ⟨_, pss_cons (ps_for PassesOwn.never rfl (pi_str (pv 1)) (pg_name (i := 2) c_law_part.nd rfl (.inl rfl))
      (pss_one (ps_set (i := 0) c_law_part.nd rfl (.inl rfl) (pe_ix ix_tup (pv 0) (pe_callTy call_int_str (by rfl) (z_int T) (by decide +kernel) (pa_cons (pv 2) pa_nil)) (fun _ _ => rfl)))))
    (pss_one (ps_ret (pv 0))), ?_⟩
  refine ⟨_, rfl, _, rfl, ?_⟩
  have e : (signs (pth q)).length = q.length := by simp [signs, pth]
  refine for_it (walk_signs (pth q)) (fun i σ H' => H' = H ∧ ∃ x y l, σ = [some x, some (.str (S (pth q))), l] ∧ part t (q.take i) = some y ∧ LT H x y ∧ part y (q.drop i) = some u) ⟨rfl, v, t, none, rfl, by rw [List.take_zero]; cases t <;> rfl, ht, hu⟩ (fun _ _ _ _ _ => trivial) ?_ ?_
  · rintro i z σ H1 H2 hi ⟨rfl, x, y, l, rfl, h1, h2, h3⟩ ⟨rfl, hz⟩
    have hi' : i < q.length := by rw [← e]; exact hi
    obtain ⟨c, hc, rfl⟩ := map_at' hz
    unfold pth at hc
    obtain ⟨b, hb, rfl⟩ := map_at' hc
    have ed : q.drop i = b :: q.drop (i + 1) := by
      rw [List.drop_eq_getElem_cons hi']
      congr 1
      rw [List.getElem?_eq_getElem hi'] at hb
      exact Option.some.inj hb
    rw [ed] at h3
    have et : q.take (i + 1) = q.take i ++ [b] := by
      rw [List.take_add_one, hb]
      rfl
    cases y with
    | lf w => cases h3
    | nd a d =>
      obtain ⟨p, xa, xd, rfl, hp, ha, hd⟩ := h2
      have step : part t (q.take (i + 1)) = some (if b then d else a) := by
        rw [et]
        exact part_snoc h1
      refine ⟨_, rfl, _, rfl, _, _, rfl, int_sign b, by rw [S_len]; exact Nat.le_trans (Nat.le_refl 1) (by decide), ?_⟩
      cases b with
      | false => exact ⟨p, _, 0, xa, rfl, rfl, SqT.of hp, atI_nat (j := 0) rfl, rfl, xa, a, _, rfl, step, ha, h3⟩
      | true => exact ⟨p, _, 1, xd, rfl, rfl, SqT.of hp, atI_nat (j := 1) rfl, rfl, xd, d, _, rfl, step, hd, h3⟩
  · rintro σ H1 ⟨rfl, x, y, l, rfl, h1, h2, h3⟩
    rw [e, List.drop_length] at h3
    have : y = u := by
      cases y <;> exact Option.some.inj h3
    exact ⟨_, rfl, k x (this ▸ h2)⟩
def pm_lput (n : Nat) : Pm := fun vs H Q => ∃ v t q u o x, vs = [v, .str (S (pth q)), o] ∧ LT H v t ∧ LT H o x ∧ part t q = some u ∧ q.length < n ∧ q.length ≤ 60 ∧ ∀ H' z, Same H H' → LT H' z (put t q x) → Q z H'
theorem ok_lput (T : Txt K mg) : ∀ n : Nat, Ok P w K mg base (n + 1) (a__law_put K) (pm_lput n)
  | 0 => no_calls fun vs H Q ⟨_, _, _, _, _, _, _, _, _, _, h, _⟩ => Nat.not_lt_zero _ h
  | n + 1 => by
    have G := ok_lput T n
    refine ok_of (F__law_put T) c_law_put b__law_put (fun vs H Q h => ?_) (fun cdv A outer s H vs Q E hr h => ?_)
    · obtain ⟨v, t, q, u, o, x, rfl, _⟩ := h
      rfl
    obtain ⟨v, t, q, u, o, x, rfl, ht, ho, hu, hn, hq, k⟩ := h
    refine ⟨_, pss_cons (ps_if (pt_cmpR op_eq (pv 1) pe_str (nomark _)) (pss_one (ps_ret (pv 2))) pss_nil)
      (pss_cons (ps_if (pt_cmpR op_eq (pe_item_str (pv 1) pe_int (fun _ _ => rfl)) pe_str (nomark _))
        (pss_one (ps_ret (pe_tup (pa_cons (e_call G hr (by omega) (g__law_put T) (k__law_put T) (pa_cons (pe_ix ix_tup (pv 0) pe_int (fun _ _ => rfl)) (pa_cons (pe_slice C8.sl_txt (pv 1) (po_some pe_int) po_none) (pa_cons (pv 2) pa_nil)))) (pa_cons (pe_ix ix_tup (pv 0) pe_int (fun _ _ => rfl)) pa_nil))))) pss_nil)
      (pss_one (ps_ret (pe_tup (pa_cons (pe_ix ix_tup (pv 0) pe_int (fun _ _ => rfl)) (pa_cons (e_call G hr (by omega) (g__law_put T) (k__law_put T) (pa_cons (pe_ix ix_tup (pv 0) pe_int (fun _ _ => rfl)) (pa_cons (pe_slice C8.sl_txt (pv 1) (po_some pe_int) po_none) (pa_cons (pv 2) pa_nil)))) pa_nil)))))), ?_⟩
    refine ⟨_, rfl, rfl, _, rfl, ?_⟩
    have e0 : decide (V.str (S (pth q)) = V.str ("" : Str)) = decide (q = []) := by
      rw [empty_S, dec_S]
      refine decide_eq_decide.mpr ⟨fun e => ?_, fun e => by rw [e]; rfl⟩
      exact List.length_eq_zero_iff.mp (by rw [← pth_len, e]; rfl)
    rw [e0]
    cases q with
    | nil =>
      refine iteT ⟨_, rfl, k _ _ (Same.refl _) ?_⟩
      cases t <;> exact ho
    | cons b q =>
      refine iteF ?_
      cases t with
      | lf y => cases hu
      | nd l r =>
        obtain ⟨p, xl, xr, rfl, hp, hl, hr'⟩ := ht
        have hn' : q.length < n := by simpa using hn
        have hq' : q.length ≤ 60 := by have : (b :: q).length ≤ 60 := hq; simp at this; omega
        have hz : (S (pth (b :: q))).length ≤ sizeLine := by rw [S_len, pth_len]; exact small_len (by omega)
        have es : Txt.slice (S (pth (b :: q))) (some 1) none = S (pth q) := from_app [bitC b] (pth q) rfl
        refine ⟨_, rfl, _, _, bitC b, rfl, rfl, by decide, by decide, by rw [S_len, pth_len]; simp, get_S (i := 0) (by simp [pth_cons]), rfl, _, rfl, ?_⟩
        have e1 : decide (V.str (⟨#[bitC b]⟩ : Str) = V.str ("0" : Str)) = !b := sg_zero b
        rw [e1]
        cases b with
        | false =>
          have hu' : part l q = some u := hu
          refine iteT ⟨_, rfl, p, _, 0, xl, rfl, rfl, SqT.of hp, atI_nat (j := 0) rfl, _, rfl, _, rfl, _, rfl, hz, _, rfl, xl, l, q, u, o, x, by rw [es], hl, ho, hu', hn', hq', fun H1 z s1 hz1 => ?_⟩
          refine ⟨_, rfl, p, _, 1, xr, rfl, rfl, SqT.of (s1 _ _ hp), atI_nat (j := 1) rfl, (by show 2 ≤ sizeLine; decide), fun t nt => ?_⟩
          exact k _ _ (Same.upd s1 nt) ⟨t, z, xr, rfl, upd_same, hz1.gr (.of (same_upd nt)), (hr'.gr (.of s1)).gr (.of (same_upd nt))⟩
        | true =>
          have hu' : part r q = some u := hu
          refine iteF ⟨_, rfl, p, _, 0, xl, rfl, rfl, SqT.of hp, atI_nat (j := 0) rfl, _, rfl, p, _, 1, xr, rfl, rfl, SqT.of hp, atI_nat (j := 1) rfl, _, rfl, _, rfl, _, rfl, hz, _, rfl, xr, r, q, u, o, x, by rw [es], hr', ho, hu', hn', hq', fun H1 z s1 hz1 => ?_⟩
          refine ⟨(by show 2 ≤ sizeLine; decide), fun t nt => ?_⟩
          exact k _ _ (Same.upd s1 nt) ⟨t, xl, z, rfl, upd_same, (hl.gr (.of s1)).gr (.of (same_upd nt)), hz1.gr (.of (same_upd nt))⟩
def pm_ltree (n : Nat) : Pm := fun vs H Q => ∃ (p : Addr) (m : Nat) (nm : Addr) (u : List L), vs = [.ref p, .int m, .ref nm] ∧ PoolAt H p ∧ H nm = some (lst u) ∧ u ≠ [] ∧ u.length ≤ 100 ∧ 1 ≤ m ∧ m ≤ 60 ∧ m < n ∧
  ∀ H' v t, Sx [p] H H' → PoolAt H' p → LT H' v t → t.size = m → Q v H'
theorem ok_ltree (T : Txt K mg) : ∀ n : Nat, Ok P w K mg base (n + 2) (a__law_tree K) (pm_ltree n)
  | 0 => no_calls fun vs H Q ⟨_, _, _, _, _, _, _, _, _, _, _, h, _⟩ => Nat.not_lt_zero _ h
  | n + 1 => by
    have G := ok_ltree T n
    have GT : Ok P w K mg base 1 (a__law_take K) pm_take := ok_take T
    refine ok_of (F__law_tree T) c_law_tree b__law_tree (fun vs H Q h => ?_) (fun cdv A outer s H vs Q E hr h => ?_)
    · obtain ⟨p, m, nm, u, rfl, _⟩ := h
      rfl
    obtain ⟨p, m, nm, u, rfl, hp, hm, hne, hu, m1, m2, mn, k⟩ := h
    refine ⟨_, pss_cons (ps_if (pt_cmpR op_eq (pv 1) pe_int (nomark _)) (pss_one (ps_ret (pe_ix ix_list (pv 2) (e_call GT hr (by omega) (g__law_take T) (k__law_take T) (pa_cons (pv 0) (pa_cons (pe_callB call_len_seq (by rfl) (z_len T) PySem.boot_len (pa_cons (pv 2) pa_nil)) pa_nil))) (fun _ _ => rfl)))) pss_nil)
      (pss_cons (ps_set (i := 3) c_law_tree.nd rfl (.inl rfl) (pe_op op_add pe_int (e_call GT hr (by omega) (g__law_take T) (k__law_take T) (pa_cons (pv 0) (pa_cons (pe_op op_sub (pv 1) pe_int) pa_nil)))))
      (pss_cons (ps_set (i := 4) c_law_tree.nd rfl (.inl rfl) (e_call G hr (by omega) (g__law_tree T) (k__law_tree T) (pa_cons (pv 0) (pa_cons (pv 3) (pa_cons (pv 2) pa_nil)))))
      (pss_one (ps_ret (pe_tup (pa_cons (pv 4) (pa_cons (e_call G hr (by omega) (g__law_tree T) (k__law_tree T) (pa_cons (pv 0) (pa_cons (pe_op op_sub (pv 1) (pv 3)) (pa_cons (pv 2) pa_nil)))) pa_nil))))))), ?_⟩
    have npm : nm ≠ p := fun z => by
      obtain ⟨a, b, c, e⟩ := hp
      rw [z, e] at hm
      have := congrArg (fun o : Option HO => match o with | some (.lst (.int _ :: _)) => true | _ => false) hm
      cases u with
      | nil => exact hne rfl
      | cons x r => simp [lst, leafV] at this
    have keep : ∀ {H1 H2 : Hp} {xs : List V}, Sx [p] H1 H2 → H1 nm = some (.lst xs) → H2 nm = some (.lst xs) := fun s e => s _ _ e (by simpa using npm)
    have lu : (u.map leafV).length = u.length := by simp
    refine ⟨_, rfl, rfl, _, rfl, ?_⟩
    by_cases h1 : m = 1
    · subst h1
      rw [show decide (V.int ((1 : Nat) : Int) = V.int 1) = true from decide_eq_true rfl]
      refine iteT ⟨_, rfl, _, rfl, _, rfl, nm, _, rfl, .inl (SqL.of hm), p, _, rfl, hp, by rw [lu]; exact Int.ofNat_lt.mpr (List.length_pos_iff.mpr hne), by rw [lu]; omega, fun r H1 r0 r1 x1 p1 => ?_⟩
      rw [lu] at r1
      obtain ⟨j, rfl⟩ := Int.eq_ofNat_of_zero_le r0
      have hj : j < u.length := by omega
      refine ⟨nm, _, j, leafV u[j], rfl, rfl, SqL.of (keep x1 hm), atI_nat (by rw [List.getElem?_map, List.getElem?_eq_getElem hj]; rfl), ?_⟩
      exact k H1 _ (.lf u[j]) x1 p1 rfl rfl
    rw [decide_eq_false fun e => h1 (by injection e with e; omega)]
    refine iteF ⟨_, rfl, _, rfl, _, _, rfl, rfl, p, _, rfl, hp, by omega, by omega, fun r H1 r0 r1 x1 p1 => ?_⟩
    obtain ⟨j, rfl⟩ := Int.eq_ofNat_of_zero_le r0
    refine ⟨_, _, rfl, rfl, _, rfl, _, rfl, _, rfl, p, 1 + j, nm, u, by simp, p1, keep x1 hm, hne, hu, by omega, by omega, by omega, fun H2 v a x2 p2 h2 za => ?_⟩
    refine ⟨_, rfl, _, rfl, _, rfl, _, rfl, _, _, rfl, rfl, _, rfl, p, m - (1 + j), nm, u, by simp; omega, p2, keep x2 (keep x1 hm), hne, hu, by omega, by omega, by omega, fun H3 v' b x3 p3 h3 zb => ?_⟩
    refine ⟨(by show 2 ≤ sizeLine; decide), fun t nt => ?_⟩
    have st := same_upd (o := .tup [v, v']) nt
    have g3 : Gr H2 H3 := Gr.sx x3 fun d hd => by
      obtain ⟨x, y, z, e⟩ := p2
      rw [List.mem_singleton.mp hd]
      exact ⟨_, e⟩
    refine k _ _ (.nd a b) (((x1.trans x2).trans x3).trans (.of st)) (let ⟨x, y, z, e⟩ := p3; ⟨x, y, z, st _ _ e⟩) ⟨t, v, v', rfl, upd_same, (h2.gr g3).gr (.of st), h3.gr (.of st)⟩ ?_
    show a.size + b.size = m
    omega
end
end NL
set_option Elab.async false
set_option linter.all false
set_option maxRecDepth 100000
set_option maxHeartbeats 4000000
/-! _law_deed. -/
namespace NL
open PySem PySem.Spec PyProof.Rows L2 SX LamX
/-- a tree as data -/
def dT : Tree → PyData
  | .lf x => .str (leafS x)
  | .nd a b => .tuple [dT a, dT b]
theorem dT_dp {K : PySem.W.Frag} {H : Hp} : ∀ {t : Tree} {v : V}, LT H v t → Dp K H v (dT t)
  | .lf x, v, h => by rw [show v = leafV x from h]; exact .str _
  | .nd a b, v, ⟨p, x, y, e, hp, hx, hy⟩ => by rw [e]; exact .tup (SqT.of hp) (.cons (dT_dp hx) (.cons (dT_dp hy) .nil))
theorem dT_eqv : ∀ s t : Tree, PyData.eqv (dT s) (dT t) = decide (s = t)
  | .lf x, .lf y => by
    show (leafS x == leafS y) = _
    rw [Bool.eq_iff_iff, beq_iff_eq, decide_eq_true_eq]
    exact ⟨fun h => by rw [leafS_inj h], fun h => by injection h with h; rw [h]⟩
  | .lf x, .nd c d => by simp [dT, PyData.eqv]
  | .nd a b, .lf y => by simp [dT, PyData.eqv]
  | .nd a b, .nd c d => by
    simp only [dT, PyData.eqv, PyData.eqvAll, dT_eqv a c, dT_eqv b d, Bool.and_true]
    by_cases h1 : a = c <;> by_cases h2 : b = d <;> simp [h1, h2]
theorem dT_lay : ∀ t : Tree, PyData.canLay0 (dT t) = true ∧ PyData.depth (dT t) ≤ t.depth
  | .lf x => ⟨lay_leaf x, Nat.le_refl _⟩
  | .nd a b => by
    obtain ⟨h1, h2⟩ := dT_lay a
    obtain ⟨h3, h4⟩ := dT_lay b
    simp only [dT, PyData.canLay0, PyData.canLayAll0, PyData.depth, PyData.depthAll, h1, h3, Tree.depth]
    exact ⟨rfl, by omega⟩
theorem dT_shaped {t : Tree} (h : t.size ≤ 60) : SeqAt.shaped (dT t) = true := by
  obtain ⟨h1, h2⟩ := dT_lay t
  have := t.depth_lt
  unfold SeqAt.shaped
  rw [h1, decide_eq_true (show PyData.depth (dT t) ≤ 64 by omega)]
  rfl
section
variable {X : Cx}
def rInTD (K : PySem.W.Frag) : R2 := fun x y H Q => ∃ d ds, Dp K H x d ∧ Dp K H y (.tuple ds) ∧ SeqAt.shaped d = true ∧ SeqAt.shaped (.tuple ds) = true ∧ Q (.bl (ds.any fun z => PyData.eqv z d)) H
theorem o_inT (hu : X.A.units + 65 < cLine) : OpR X (compareOp .In) (rInTD X.K) := by
  intro pins s σ H x y v u Q I rx ry ⟨d, ds, hd, he, sd, se, q⟩
  obtain ⟨as, r1⟩ := Dp.reads I d x v hd rx
  obtain ⟨bs, r2⟩ := Dp.reads I (.tuple ds) y u he ry
  exact SeqAt.in_tuple_reads r2 r1 (SeqAt.canLay_of_shaped se) (SeqAt.canLay_of_shaped sd) (room_in_shaped sd hu) ⟨.bl _, H, I, rfl, q⟩
end
/-- what a deed makes of a part -/
def deedF (u : Tree) (k : Nat) (l : Bool) (x : Tree) : Option Tree :=
  if k = 0 then (match u with
    | .nd a b => if l = true then (match b with | .nd c d => some (.nd (.nd a c) d) | .lf _ => none) else (match a with | .nd c d => some (.nd c (.nd d b)) | .lf _ => none)
    | .lf _ => none)
  else if k = 1 then (match u with | .nd a b => some (.nd b a) | .lf _ => none)
  else if k = 2 then some (.nd u u)
  else if k = 3 then (match u with | .nd a b => if a = b then some a else none | .lf _ => none)
  else if k = 4 then some (if l = true then .nd (.lf .e) u else .nd u (.lf .e))
  else if k = 5 then (match u with | .nd a b => if a = .lf .e then some b else if b = .lf .e then some a else none | .lf _ => none)
  else if k = 6 then (match u with | .nd a b => if a = .lf .z ∨ b = .lf .z then some (.lf .z) else none | .lf _ => none)
  else if k = 7 ∧ u = .lf .z then some (if l = true then .nd x u else .nd u x)
  else none
/-- None, or a tree -/
def LO (H : Hp) (z : V) : Option Tree → Prop
  | none => z = .non
  | some y => LT H z y
section
variable {P : Program} {w : World} {K : PySem.W.Frag} {mg : Str → Option Value} {base : Heap}
def pm_ldeed : Pm := fun vs H Q => ∃ v t q u k l xv x, vs = [v, .str (S (pth q)), .int (k : Nat), .bl l, xv] ∧ LT H v t ∧ part t q = some u ∧ t.size ≤ 30 ∧ LT H xv x ∧ x.size ≤ 30 ∧ k < 8 ∧ ∀ H' z, Same H H' → LO H' z (deedF u k l x) → Q z H'
theorem ok_ldeed (T : Txt K mg) : Ok P w K mg base 6 (a__law_deed K) pm_ldeed := by
  have GP : Ok P w K mg base 1 (a__law_part K) pm_lpart := ok_lpart T
  refine ok_of (F__law_deed T) c_law_deed b__law_deed (fun vs H Q h => ?_) (fun cdv A outer s H vs Q E hr h => ?_)
  · obtain ⟨v, t, q, u, k, l, xv, x, rfl, _⟩ := h
    rfl
  obtain ⟨v, t, q, u, n, l, xv, x, rfl, ht, hu, zt, hx, zx, n8, k⟩ := h
  have hu65 : (cxOf CX0 P w K mg base n_law_deed "_law_deed" (defScope s_law_deed) (a__law_deed K) cdv A outer s H E).nox.A.units + 65 < cLine := by
    have := hr.un
    exact Nat.lt_of_le_of_lt (Nat.add_le_add_left (by omega) _) (Nat.lt_of_le_of_lt (Nat.le_of_eq (Nat.add_assoc _ _ _).symm) this)
  refine ⟨_, pss_cons (ps_set (i := 5) c_law_deed.nd rfl (.inl rfl) (e_call GP hr (by omega) (g__law_part T) (k__law_part T) (pa_cons (pv 0) (pa_cons (pv 1) pa_nil))))
    (pss_cons (ps_set (i := 6) c_law_deed.nd rfl (.inl rfl) (pe_callB call_isj (by rfl) (z_isinstance T) (by decide +kernel) (pa_cons (pv 5) (pa_cons (pe_bltn (v := .ty "tuple") rfl (z_tuple T) (by decide +kernel) rfl) pa_nil))))
    (pss_cons (ps_if (pt_cmpR op_eq (pv 2) pe_int (nomark _))
      (pss_cons (ps_if (PW.pt (pw_and (pt_val (pv 6)) (pw_and (pt_val (pv 3)) (pw_and1 (pt_val (pe_callB call_isj (by rfl) (z_isinstance T) (by decide +kernel) (pa_cons (pe_ix ix_tup (pv 5) pe_int (fun _ _ => rfl)) (pa_cons (pe_bltn (v := .ty "tuple") rfl (z_tuple T) (by decide +kernel) rfl) pa_nil))))))))
        (pss_one (ps_ret (pe_tup (pa_cons (pe_tup (pa_cons (pe_ix ix_tup (pv 5) pe_int (fun _ _ => rfl)) (pa_cons (pe_ix ix_tup (pe_ix ix_tup (pv 5) pe_int (fun _ _ => rfl)) pe_int (fun _ _ => rfl)) pa_nil))) (pa_cons (pe_ix ix_tup (pe_ix ix_tup (pv 5) pe_int (fun _ _ => rfl)) pe_int (fun _ _ => rfl)) pa_nil))))) pss_nil)
      (pss_cons (ps_if (PW.pt (pw_and (pt_val (pv 6)) (pw_and (pt_not (pt_val (pv 3))) (pw_and1 (pt_val (pe_callB call_isj (by rfl) (z_isinstance T) (by decide +kernel) (pa_cons (pe_ix ix_tup (pv 5) pe_int (fun _ _ => rfl)) (pa_cons (pe_bltn (v := .ty "tuple") rfl (z_tuple T) (by decide +kernel) rfl) pa_nil))))))))
        (pss_one (ps_ret (pe_tup (pa_cons (pe_ix ix_tup (pe_ix ix_tup (pv 5) pe_int (fun _ _ => rfl)) pe_int (fun _ _ => rfl)) (pa_cons (pe_tup (pa_cons (pe_ix ix_tup (pe_ix ix_tup (pv 5) pe_int (fun _ _ => rfl)) pe_int (fun _ _ => rfl)) (pa_cons (pe_ix ix_tup (pv 5) pe_int (fun _ _ => rfl)) pa_nil))) pa_nil))))) pss_nil)
      (pss_one (ps_ret pe_non)))) pss_nil)
    (pss_cons (ps_if (PW.pt (pw_and (pt_cmpR op_eq (pv 2) pe_int (nomark _)) (pw_and1 (pt_val (pv 6))))) (pss_one (ps_ret (pe_tup (pa_cons (pe_ix ix_tup (pv 5) pe_int (fun _ _ => rfl)) (pa_cons (pe_ix ix_tup (pv 5) pe_int (fun _ _ => rfl)) pa_nil))))) pss_nil)
    (pss_cons (ps_if (pt_cmpR op_eq (pv 2) pe_int (nomark _)) (pss_one (ps_ret (pe_tup (pa_cons (pv 5) (pa_cons (pv 5) pa_nil))))) pss_nil)
    (pss_cons (ps_if (PW.pt (pw_and (pt_cmpR op_eq (pv 2) pe_int (nomark _)) (pw_and (pt_val (pv 6)) (pw_and1 (pt_cmpR (op_eqD hr.units) (pe_ix ix_tup (pv 5) pe_int (fun _ _ => rfl)) (pe_ix ix_tup (pv 5) pe_int (fun _ _ => rfl)) (nomark _)))))) (pss_one (ps_ret (pe_ix ix_tup (pv 5) pe_int (fun _ _ => rfl)))) pss_nil)
    (pss_cons (ps_if (pt_cmpR op_eq (pv 2) pe_int (nomark _)) (pss_one (ps_ret (pe_ix ix_list (pe_lst (pa_cons (pe_tup (pa_cons (pv 5) (pa_cons pe_str pa_nil))) (pa_cons (pe_tup (pa_cons pe_str (pa_cons (pv 5) pa_nil))) pa_nil))) (pe_callTy call_int1 (by rfl) (z_int T) (by decide +kernel) (pa_cons (pv 3) pa_nil)) (fun _ _ => rfl)))) pss_nil)
    (pss_cons (ps_if (PW.pt (pw_and (pt_cmpR op_eq (pv 2) pe_int (nomark _)) (pw_and (pt_val (pv 6)) (pw_and1 (pt_cmpR (op_eqD hr.units) (pe_ix ix_tup (pv 5) pe_int (fun _ _ => rfl)) pe_str (nomark _)))))) (pss_one (ps_ret (pe_ix ix_tup (pv 5) pe_int (fun _ _ => rfl)))) pss_nil)
    (pss_cons (ps_if (PW.pt (pw_and (pt_cmpR op_eq (pv 2) pe_int (nomark _)) (pw_and (pt_val (pv 6)) (pw_and1 (pt_cmpR (op_eqD hr.units) (pe_ix ix_tup (pv 5) pe_int (fun _ _ => rfl)) pe_str (nomark _)))))) (pss_one (ps_ret (pe_ix ix_tup (pv 5) pe_int (fun _ _ => rfl)))) pss_nil)
    (pss_cons (ps_if (PW.pt (pw_and (pt_cmpR op_eq (pv 2) pe_int (nomark _)) (pw_and (pt_val (pv 6)) (pw_and1 (pt_cmpR (o_inT hu65) pe_str (pv 5) (by rfl)))))) (pss_one (ps_ret pe_str)) pss_nil)
    (pss_cons (ps_if (PW.pt (pw_and (pt_cmpR op_eq (pv 2) pe_int (nomark _)) (pw_and1 (pt_cmpR (op_eqD hr.units) (pv 5) pe_str (nomark _))))) (pss_one (ps_ret (pe_ix ix_list (pe_lst (pa_cons (pe_tup (pa_cons pe_str (pa_cons (pv 4) pa_nil))) (pa_cons (pe_tup (pa_cons (pv 4) (pa_cons pe_str pa_nil))) pa_nil))) (pe_callTy call_int1 (by rfl) (z_int T) (by decide +kernel) (pa_cons (pv 3) pa_nil)) (fun _ _ => rfl)))) pss_nil)
    (pss_one (ps_ret pe_non)))))))))))), ?_⟩
  refine ⟨_, rfl, _, rfl, ?_⟩
  refine ⟨v, t, q, u, rfl, ht, hu, by have := part_depth hu; have := t.depth_lt; omega, fun xu hxu => ?_⟩
  refine ⟨_, rfl, ?_⟩
  have zu := part_size hu
  have sh : ∀ {s : Tree}, s.size ≤ 60 → SeqAt.shaped (dT s) = true := fun h => dT_shaped h
  have ve : V.str ("e" : Str) = leafV .e := by decide +kernel
  have vz : V.str ("z" : Str) = leafV .z := by decide +kernel
  clear ht hu
  have n9 : n = 0 ∨ n = 1 ∨ n = 2 ∨ n = 3 ∨ n = 4 ∨ n = 5 ∨ n = 6 ∨ n = 7 := by omega
  cases u with
  | lf y =>
    obtain rfl : xu = leafV y := hxu
    refine isTup_lf ?_
    rcases n9 with rfl | rfl | rfl | rfl | rfl | rfl | rfl | rfl
    · refine ⟨_, rfl, rfl, _, rfl, iteT ?_⟩
      refine ⟨_, rfl, _, rfl, iteF (iteF ?_)⟩
      refine ⟨_, rfl, _, rfl, iteF (iteF ?_)⟩
      exact k H .non (Same.refl H) rfl
    · refine ⟨_, rfl, rfl, _, rfl, iteF ?_⟩
      refine ⟨_, rfl, rfl, _, rfl, iteT ?_⟩
      refine ⟨_, rfl, _, rfl, iteF ?_⟩
      refine ⟨_, rfl, rfl, _, rfl, iteF ?_⟩
      refine ⟨_, rfl, rfl, _, rfl, iteF (iteF ?_)⟩
      refine ⟨_, rfl, rfl, _, rfl, iteF ?_⟩
      refine ⟨_, rfl, rfl, _, rfl, iteF (iteF ?_)⟩
      refine ⟨_, rfl, rfl, _, rfl, iteF (iteF ?_)⟩
      refine ⟨_, rfl, rfl, _, rfl, iteF (iteF ?_)⟩
      refine ⟨_, rfl, rfl, _, rfl, iteF (iteF ?_)⟩
      exact k H .non (Same.refl H) rfl
    · refine ⟨_, rfl, rfl, _, rfl, iteF ?_⟩
      refine ⟨_, rfl, rfl, _, rfl, iteF (iteF ?_)⟩
      refine ⟨_, rfl, rfl, _, rfl, iteT ?_⟩
      refine ⟨_, rfl, _, rfl, (by show 2 ≤ sizeLine; decide), fun c nc => ?_⟩
      exact k _ _ (same_upd nc) ⟨c, _, _, rfl, upd_same, rfl, rfl⟩
    · refine ⟨_, rfl, rfl, _, rfl, iteF ?_⟩
      refine ⟨_, rfl, rfl, _, rfl, iteF (iteF ?_)⟩
      refine ⟨_, rfl, rfl, _, rfl, iteF ?_⟩
      refine ⟨_, rfl, rfl, _, rfl, iteT ?_⟩
      refine ⟨_, rfl, _, rfl, iteF (iteF ?_)⟩
      refine ⟨_, rfl, rfl, _, rfl, iteF ?_⟩
      refine ⟨_, rfl, rfl, _, rfl, iteF (iteF ?_)⟩
      refine ⟨_, rfl, rfl, _, rfl, iteF (iteF ?_)⟩
      refine ⟨_, rfl, rfl, _, rfl, iteF (iteF ?_)⟩
      refine ⟨_, rfl, rfl, _, rfl, iteF (iteF ?_)⟩
      exact k H .non (Same.refl H) rfl
    · refine ⟨_, rfl, rfl, _, rfl, iteF ?_⟩
      refine ⟨_, rfl, rfl, _, rfl, iteF (iteF ?_)⟩
      refine ⟨_, rfl, rfl, _, rfl, iteF ?_⟩
      refine ⟨_, rfl, rfl, _, rfl, iteF (iteF ?_)⟩
      refine ⟨_, rfl, rfl, _, rfl, iteT ?_⟩
      refine ⟨_, rfl, (by show 2 ≤ sizeLine; decide), fun c1 n1 => ?_⟩
      refine ⟨_, rfl, (by show 2 ≤ sizeLine; decide), fun c2 n2 => ?_⟩
      refine ⟨(by show 2 ≤ sizeLine; decide), fun c3 n3 => ⟨_, rfl, .inr ⟨_, rfl, ?_⟩⟩⟩
      have s3 := Same.upd (o := .lst [.ref c1, .ref c2]) (Same.upd (same_upd n1) n2) n3
      have h1 : (upd (upd (upd H c1 (.tup [leafV y, .str "e"])) c2 (.tup [.str "e", leafV y])) c3 (.lst [.ref c1, .ref c2])) c1 = some (.tup [leafV y, .str "e"]) := Same.upd (same_upd n2) n3 _ _ upd_same
      have h2 : (upd (upd (upd H c1 (.tup [leafV y, .str "e"])) c2 (.tup [.str "e", leafV y])) c3 (.lst [.ref c1, .ref c2])) c2 = some (.tup [.str "e", leafV y]) := same_upd n3 _ _ upd_same
      cases l with
      | false => exact ⟨c3, _, 0, .ref c1, rfl, rfl, SqL.of upd_same, atI_nat (j := 0) rfl, k _ _ s3 ⟨c1, _, _, rfl, h1, (show LT H (leafV y) (.lf y) from rfl).gr (.of s3), ve⟩⟩
      | true => exact ⟨c3, _, 1, .ref c2, rfl, rfl, SqL.of upd_same, atI_nat (j := 1) rfl, k _ _ s3 ⟨c2, _, _, rfl, h2, ve, (show LT H (leafV y) (.lf y) from rfl).gr (.of s3)⟩⟩
    · refine ⟨_, rfl, rfl, _, rfl, iteF ?_⟩
      refine ⟨_, rfl, rfl, _, rfl, iteF (iteF ?_)⟩
      refine ⟨_, rfl, rfl, _, rfl, iteF ?_⟩
      refine ⟨_, rfl, rfl, _, rfl, iteF (iteF ?_)⟩
      refine ⟨_, rfl, rfl, _, rfl, iteF ?_⟩
      refine ⟨_, rfl, rfl, _, rfl, iteT ?_⟩
      refine ⟨_, rfl, _, rfl, iteF (iteF ?_)⟩
      refine ⟨_, rfl, rfl, _, rfl, iteT ?_⟩
      refine ⟨_, rfl, _, rfl, iteF (iteF ?_)⟩
      refine ⟨_, rfl, rfl, _, rfl, iteF (iteF ?_)⟩
      refine ⟨_, rfl, rfl, _, rfl, iteF (iteF ?_)⟩
      exact k H .non (Same.refl H) rfl
    · refine ⟨_, rfl, rfl, _, rfl, iteF ?_⟩
      refine ⟨_, rfl, rfl, _, rfl, iteF (iteF ?_)⟩
      refine ⟨_, rfl, rfl, _, rfl, iteF ?_⟩
      refine ⟨_, rfl, rfl, _, rfl, iteF (iteF ?_)⟩
      refine ⟨_, rfl, rfl, _, rfl, iteF ?_⟩
      refine ⟨_, rfl, rfl, _, rfl, iteF (iteF ?_)⟩
      refine ⟨_, rfl, rfl, _, rfl, iteF (iteF ?_)⟩
      refine ⟨_, rfl, rfl, _, rfl, iteT ?_⟩
      refine ⟨_, rfl, _, rfl, iteF (iteF ?_)⟩
      refine ⟨_, rfl, rfl, _, rfl, iteF (iteF ?_)⟩
      exact k H .non (Same.refl H) rfl
    · refine ⟨_, rfl, rfl, _, rfl, iteF ?_⟩
      refine ⟨_, rfl, rfl, _, rfl, iteF (iteF ?_)⟩
      refine ⟨_, rfl, rfl, _, rfl, iteF ?_⟩
      refine ⟨_, rfl, rfl, _, rfl, iteF (iteF ?_)⟩
      refine ⟨_, rfl, rfl, _, rfl, iteF ?_⟩
      refine ⟨_, rfl, rfl, _, rfl, iteF (iteF ?_)⟩
      refine ⟨_, rfl, rfl, _, rfl, iteF (iteF ?_)⟩
      refine ⟨_, rfl, rfl, _, rfl, iteF (iteF ?_)⟩
      refine ⟨_, rfl, rfl, _, rfl, iteT ?_⟩
      refine ⟨_, rfl, dT (.lf y), dT (.lf .z), dT_dp (show LT H (leafV y) (.lf y) from rfl), by rw [vz]; exact .str _, sh (by show 1 ≤ 60; decide), sh (by show 1 ≤ 60; decide), _, rfl, ?_⟩
      rw [dT_eqv]
      by_cases hy : y = .z
      · subst hy
        rw [decide_eq_true rfl]
        refine iteT ?_
        refine ⟨_, rfl, (by show 2 ≤ sizeLine; decide), fun c1 n1 => ?_⟩
        refine ⟨_, rfl, (by show 2 ≤ sizeLine; decide), fun c2 n2 => ?_⟩
        refine ⟨(by show 2 ≤ sizeLine; decide), fun c3 n3 => ⟨_, rfl, .inr ⟨_, rfl, ?_⟩⟩⟩
        have s3 := Same.upd (o := .lst [.ref c1, .ref c2]) (Same.upd (same_upd n1) n2) n3
        have h1 : (upd (upd (upd H c1 (.tup [.str "z", xv])) c2 (.tup [xv, .str "z"])) c3 (.lst [.ref c1, .ref c2])) c1 = some (.tup [.str "z", xv]) := Same.upd (same_upd n2) n3 _ _ upd_same
        have h2 : (upd (upd (upd H c1 (.tup [.str "z", xv])) c2 (.tup [xv, .str "z"])) c3 (.lst [.ref c1, .ref c2])) c2 = some (.tup [xv, .str "z"]) := same_upd n3 _ _ upd_same
        cases l with
        | false => exact ⟨c3, _, 0, .ref c1, rfl, rfl, SqL.of upd_same, atI_nat (j := 0) rfl, k _ _ s3 ⟨c1, _, _, rfl, h1, vz, hx.gr (.of s3)⟩⟩
        | true => exact ⟨c3, _, 1, .ref c2, rfl, rfl, SqL.of upd_same, atI_nat (j := 1) rfl, k _ _ s3 ⟨c2, _, _, rfl, h2, hx.gr (.of s3), vz⟩⟩
      · rw [decide_eq_false fun z => hy (by injection z)]
        refine iteF ?_
        exact k H .non (Same.refl H) (by unfold deedF; rw [if_neg (by decide), if_neg (by decide), if_neg (by decide), if_neg (by decide), if_neg (by decide), if_neg (by decide), if_neg (by decide), if_neg (fun z => hy (by injection z.2))]; rfl)
  | nd a b =>
    obtain ⟨p, xa, xb, rfl, hp, ha, hb⟩ := hxu
    have zab : a.size + b.size ≤ 30 := Nat.le_trans zu zt
    refine isTup_nd hp ?_
    rcases n9 with rfl | rfl | rfl | rfl | rfl | rfl | rfl | rfl
    · refine ⟨_, rfl, rfl, _, rfl, iteT ?_⟩
      cases l with
      | true =>
        refine ⟨_, rfl, _, rfl, iteT ⟨_, rfl, _, rfl, iteT ⟨_, rfl, p, _, 1, _, rfl, rfl, SqT.of hp, atI_nat (j := 1) rfl, ?_⟩⟩⟩
        cases b with
        | lf y =>
          obtain rfl : xb = leafV y := hb
          refine isTup_lf ?_
          refine ⟨_, rfl, iteF ?_⟩
          refine ⟨_, rfl, _, rfl, iteT ⟨_, rfl, _, rfl, iteF (iteF ?_)⟩⟩
          exact k H .non (Same.refl H) rfl
        | nd c d =>
          obtain ⟨p2, xc, xd, rfl, hp2, hc, hd⟩ := hb
          refine isTup_nd hp2 ?_
          refine ⟨_, rfl, iteT ?_⟩
          refine ⟨_, rfl, p, _, 0, _, rfl, rfl, SqT.of hp, atI_nat (j := 0) rfl, _, rfl, p, _, 1, _, rfl, rfl, SqT.of hp, atI_nat (j := 1) rfl, p2, _, 0, _, rfl, rfl, SqT.of hp2, atI_nat (j := 0) rfl, (by show 2 ≤ sizeLine; decide), fun c1 n1 => ?_⟩
          have s1 := same_upd (o := .tup [xa, xc]) n1
          refine ⟨_, rfl, p, _, 1, _, rfl, rfl, SqT.of (s1 _ _ hp), atI_nat (j := 1) rfl, p2, _, 1, _, rfl, rfl, SqT.of (s1 _ _ hp2), atI_nat (j := 1) rfl, (by show 2 ≤ sizeLine; decide), fun c2 n2 => ?_⟩
          have s2 := Same.upd (o := .tup [.ref c1, xd]) s1 n2
          exact k _ _ s2 ⟨c2, _, _, rfl, upd_same, ⟨c1, _, _, rfl, same_upd n2 _ _ upd_same, ha.gr (.of s2), hc.gr (.of s2)⟩, hd.gr (.of s2)⟩
      | false =>
        refine ⟨_, rfl, _, rfl, iteT ⟨_, rfl, _, rfl, iteF (iteF ?_)⟩⟩
        refine ⟨_, rfl, _, rfl, iteT ⟨_, rfl, _, rfl, iteT ⟨_, rfl, p, _, 0, _, rfl, rfl, SqT.of hp, atI_nat (j := 0) rfl, ?_⟩⟩⟩
        cases a with
        | lf y =>
          obtain rfl : xa = leafV y := ha
          refine isTup_lf ?_
          refine ⟨_, rfl, iteF ?_⟩
          exact k H .non (Same.refl H) rfl
        | nd c d =>
          obtain ⟨p2, xc, xd, rfl, hp2, hc, hd⟩ := ha
          refine isTup_nd hp2 ?_
          refine ⟨_, rfl, iteT ?_⟩
          refine ⟨_, rfl, p, _, 0, _, rfl, rfl, SqT.of hp, atI_nat (j := 0) rfl, p2, _, 0, _, rfl, rfl, SqT.of hp2, atI_nat (j := 0) rfl, _, rfl, p, _, 0, _, rfl, rfl, SqT.of hp, atI_nat (j := 0) rfl, p2, _, 1, _, rfl, rfl, SqT.of hp2, atI_nat (j := 1) rfl, _, rfl, p, _, 1, _, rfl, rfl, SqT.of hp, atI_nat (j := 1) rfl, (by show 2 ≤ sizeLine; decide), fun c1 n1 => ?_⟩
          have s1 := same_upd (o := .tup [xd, xb]) n1
          refine ⟨(by show 2 ≤ sizeLine; decide), fun c2 n2 => ?_⟩
          have s2 := Same.upd (o := .tup [xc, .ref c1]) s1 n2
          exact k _ _ s2 ⟨c2, _, _, rfl, upd_same, hc.gr (.of s2), ⟨c1, _, _, rfl, same_upd n2 _ _ upd_same, hd.gr (.of s2), hb.gr (.of s2)⟩⟩
    · refine ⟨_, rfl, rfl, _, rfl, iteF ?_⟩
      refine ⟨_, rfl, rfl, _, rfl, iteT ?_⟩
      refine ⟨_, rfl, _, rfl, iteT ⟨_, rfl, p, _, 1, _, rfl, rfl, SqT.of hp, atI_nat (j := 1) rfl, _, rfl, p, _, 0, _, rfl, rfl, SqT.of hp, atI_nat (j := 0) rfl, (by show 2 ≤ sizeLine; decide), fun c nc => ?_⟩⟩
      exact k _ _ (same_upd nc) ⟨c, _, _, rfl, upd_same, hb.gr (.of (same_upd nc)), ha.gr (.of (same_upd nc))⟩
    · refine ⟨_, rfl, rfl, _, rfl, iteF ?_⟩
      refine ⟨_, rfl, rfl, _, rfl, iteF (iteF ?_)⟩
      refine ⟨_, rfl, rfl, _, rfl, iteT ?_⟩
      refine ⟨_, rfl, _, rfl, (by show 2 ≤ sizeLine; decide), fun c nc => ?_⟩
      exact k _ _ (same_upd nc) ⟨c, _, _, rfl, upd_same, (show LT H (.ref p) (.nd a b) from ⟨p, xa, xb, rfl, hp, ha, hb⟩).gr (.of (same_upd nc)), (show LT H (.ref p) (.nd a b) from ⟨p, xa, xb, rfl, hp, ha, hb⟩).gr (.of (same_upd nc))⟩
    · refine ⟨_, rfl, rfl, _, rfl, iteF ?_⟩
      refine ⟨_, rfl, rfl, _, rfl, iteF (iteF ?_)⟩
      refine ⟨_, rfl, rfl, _, rfl, iteF ?_⟩
      refine ⟨_, rfl, rfl, _, rfl, iteT ?_⟩
      refine ⟨_, rfl, _, rfl, iteT ⟨_, rfl, p, _, 0, _, rfl, rfl, SqT.of hp, atI_nat (j := 0) rfl, _, rfl, p, _, 1, _, rfl, rfl, SqT.of hp, atI_nat (j := 1) rfl, dT a, dT b, dT_dp ha, dT_dp hb, sh (by omega), sh (by omega), _, rfl, ?_⟩⟩
      rw [dT_eqv]
      by_cases e : a = b
      · rw [decide_eq_true e]
        exact iteT ⟨_, rfl, p, _, 0, _, rfl, rfl, SqT.of hp, atI_nat (j := 0) rfl, k H _ (Same.refl H) (by show LO H xa (if a = b then some a else none); rw [if_pos e]; exact ha)⟩
      · rw [decide_eq_false e]
        refine iteF ?_
        refine ⟨_, rfl, rfl, _, rfl, iteF ?_⟩
        refine ⟨_, rfl, rfl, _, rfl, iteF (iteF ?_)⟩
        refine ⟨_, rfl, rfl, _, rfl, iteF (iteF ?_)⟩
        refine ⟨_, rfl, rfl, _, rfl, iteF (iteF ?_)⟩
        refine ⟨_, rfl, rfl, _, rfl, iteF (iteF ?_)⟩
        exact k H .non (Same.refl H) (by show LO H .non (if a = b then some a else none); rw [if_neg e]; rfl)
    · refine ⟨_, rfl, rfl, _, rfl, iteF ?_⟩
      refine ⟨_, rfl, rfl, _, rfl, iteF (iteF ?_)⟩
      refine ⟨_, rfl, rfl, _, rfl, iteF ?_⟩
      refine ⟨_, rfl, rfl, _, rfl, iteF (iteF ?_)⟩
      refine ⟨_, rfl, rfl, _, rfl, iteT ?_⟩
      refine ⟨_, rfl, (by show 2 ≤ sizeLine; decide), fun c1 n1 => ?_⟩
      refine ⟨_, rfl, (by show 2 ≤ sizeLine; decide), fun c2 n2 => ?_⟩
      refine ⟨(by show 2 ≤ sizeLine; decide), fun c3 n3 => ⟨_, rfl, .inr ⟨_, rfl, ?_⟩⟩⟩
      have s3 := Same.upd (o := .lst [.ref c1, .ref c2]) (Same.upd (same_upd n1) n2) n3
      have h1 : (upd (upd (upd H c1 (.tup [.ref p, .str "e"])) c2 (.tup [.str "e", .ref p])) c3 (.lst [.ref c1, .ref c2])) c1 = some (.tup [.ref p, .str "e"]) := Same.upd (same_upd n2) n3 _ _ upd_same
      have h2 : (upd (upd (upd H c1 (.tup [.ref p, .str "e"])) c2 (.tup [.str "e", .ref p])) c3 (.lst [.ref c1, .ref c2])) c2 = some (.tup [.str "e", .ref p]) := same_upd n3 _ _ upd_same
      cases l with
      | false => exact ⟨c3, _, 0, .ref c1, rfl, rfl, SqL.of upd_same, atI_nat (j := 0) rfl, k _ _ s3 ⟨c1, _, _, rfl, h1, (show LT H (.ref p) (.nd a b) from ⟨p, xa, xb, rfl, hp, ha, hb⟩).gr (.of s3), ve⟩⟩
      | true => exact ⟨c3, _, 1, .ref c2, rfl, rfl, SqL.of upd_same, atI_nat (j := 1) rfl, k _ _ s3 ⟨c2, _, _, rfl, h2, ve, (show LT H (.ref p) (.nd a b) from ⟨p, xa, xb, rfl, hp, ha, hb⟩).gr (.of s3)⟩⟩
    · refine ⟨_, rfl, rfl, _, rfl, iteF ?_⟩
      refine ⟨_, rfl, rfl, _, rfl, iteF (iteF ?_)⟩
      refine ⟨_, rfl, rfl, _, rfl, iteF ?_⟩
      refine ⟨_, rfl, rfl, _, rfl, iteF (iteF ?_)⟩
      refine ⟨_, rfl, rfl, _, rfl, iteF ?_⟩
      refine ⟨_, rfl, rfl, _, rfl, iteT ?_⟩
      refine ⟨_, rfl, _, rfl, iteT ⟨_, rfl, p, _, 0, _, rfl, rfl, SqT.of hp, atI_nat (j := 0) rfl, dT a, dT (.lf .e), dT_dp ha, by rw [ve]; exact .str _, sh (by omega), sh (by decide), _, rfl, ?_⟩⟩
      rw [dT_eqv]
      by_cases e : a = .lf .e
      · rw [decide_eq_true e]
        exact iteT ⟨_, rfl, p, _, 1, _, rfl, rfl, SqT.of hp, atI_nat (j := 1) rfl, k H _ (Same.refl H) (by show LO H xb (if a = .lf .e then some b else if b = .lf .e then some a else none); rw [if_pos e]; exact hb)⟩
      rw [decide_eq_false e]
      refine iteF ?_
      refine ⟨_, rfl, rfl, _, rfl, iteT ?_⟩
      refine ⟨_, rfl, _, rfl, iteT ⟨_, rfl, p, _, 1, _, rfl, rfl, SqT.of hp, atI_nat (j := 1) rfl, dT b, dT (.lf .e), dT_dp hb, by rw [ve]; exact .str _, sh (by omega), sh (by decide), _, rfl, ?_⟩⟩
      rw [dT_eqv]
      by_cases e2 : b = .lf .e
      · rw [decide_eq_true e2]
        exact iteT ⟨_, rfl, p, _, 0, _, rfl, rfl, SqT.of hp, atI_nat (j := 0) rfl, k H _ (Same.refl H) (by show LO H xa (if a = .lf .e then some b else if b = .lf .e then some a else none); rw [if_neg e, if_pos e2]; exact ha)⟩
      · rw [decide_eq_false e2]
        refine iteF ?_
        refine ⟨_, rfl, rfl, _, rfl, iteF (iteF ?_)⟩
        refine ⟨_, rfl, rfl, _, rfl, iteF (iteF ?_)⟩
        exact k H .non (Same.refl H) (by show LO H .non (if a = .lf .e then some b else if b = .lf .e then some a else none); rw [if_neg e, if_neg e2]; rfl)
    · refine ⟨_, rfl, rfl, _, rfl, iteF ?_⟩
      refine ⟨_, rfl, rfl, _, rfl, iteF (iteF ?_)⟩
      refine ⟨_, rfl, rfl, _, rfl, iteF ?_⟩
      refine ⟨_, rfl, rfl, _, rfl, iteF (iteF ?_)⟩
      refine ⟨_, rfl, rfl, _, rfl, iteF ?_⟩
      refine ⟨_, rfl, rfl, _, rfl, iteF (iteF ?_)⟩
      refine ⟨_, rfl, rfl, _, rfl, iteF (iteF ?_)⟩
      refine ⟨_, rfl, rfl, _, rfl, iteT ?_⟩
      have ez : ([dT a, dT b].any fun z => PyData.eqv z (dT (.lf .z))) = decide (a = .lf .z ∨ b = .lf .z) := by
        simp only [List.any_cons, List.any_nil, dT_eqv, Bool.or_false]
        by_cases q1 : a = .lf .z <;> by_cases q2 : b = .lf .z <;> simp [q1, q2]
      refine ⟨_, rfl, _, rfl, iteT ⟨_, rfl, dT (.lf .z), [dT a, dT b], by rw [vz]; exact .str _, .tup (SqT.of hp) (.cons (dT_dp ha) (.cons (dT_dp hb) .nil)), sh (by decide), sh (s := .nd a b) (by show a.size + b.size ≤ 60; omega), _, rfl, ?_⟩⟩
      rw [ez]
      by_cases e : a = .lf .z ∨ b = .lf .z
      · rw [decide_eq_true e]
        exact iteT (k H _ (Same.refl H) (by show LO H _ (if a = .lf .z ∨ b = .lf .z then some (.lf .z) else none); rw [if_pos e]; exact vz))
      · rw [decide_eq_false e]
        refine iteF ?_
        refine ⟨_, rfl, rfl, _, rfl, iteF (iteF ?_)⟩
        exact k H .non (Same.refl H) (by show LO H .non (if a = .lf .z ∨ b = .lf .z then some (.lf .z) else none); rw [if_neg e]; rfl)
    · refine ⟨_, rfl, rfl, _, rfl, iteF ?_⟩
      refine ⟨_, rfl, rfl, _, rfl, iteF (iteF ?_)⟩
      refine ⟨_, rfl, rfl, _, rfl, iteF ?_⟩
      refine ⟨_, rfl, rfl, _, rfl, iteF (iteF ?_)⟩
      refine ⟨_, rfl, rfl, _, rfl, iteF ?_⟩
      refine ⟨_, rfl, rfl, _, rfl, iteF (iteF ?_)⟩
      refine ⟨_, rfl, rfl, _, rfl, iteF (iteF ?_)⟩
      refine ⟨_, rfl, rfl, _, rfl, iteF (iteF ?_)⟩
      refine ⟨_, rfl, rfl, _, rfl, iteT ?_⟩
      refine ⟨_, rfl, dT (.nd a b), dT (.lf .z), dT_dp (show LT H (.ref p) (.nd a b) from ⟨p, xa, xb, rfl, hp, ha, hb⟩), by rw [vz]; exact .str _, sh (by show a.size + b.size ≤ 60; omega), sh (by decide), _, rfl, ?_⟩
      rw [dT_eqv, decide_eq_false (fun z => nomatch z)]
      refine iteF ?_
      exact k H .non (Same.refl H) rfl
end
end NL
set_option Elab.async false
set_option linter.all false
set_option maxRecDepth 100000
set_option maxHeartbeats 4000000
/-! _law_done (printed by gen_done.py). -/
namespace NL
open PySem PySem.Spec PyProof.Rows L2 SX LamX
def ruleOf : Nat → Rl
  | 0 => .A | 1 => .C | 2 => .I | 3 => .I | 4 => .U | 5 => .U | _ => .Z
theorem deed_one {u x y : Tree} {k : Nat} {l : Bool} (h : deedF u k l x = some y) (hk : k < 8) : One (ruleOf k) u y := by
  have n9 : k = 0 ∨ k = 1 ∨ k = 2 ∨ k = 3 ∨ k = 4 ∨ k = 5 ∨ k = 6 ∨ k = 7 := by omega
  unfold deedF at h
  rcases n9 with rfl | rfl | rfl | rfl | rfl | rfl | rfl | rfl
  · cases u with
    | lf y => cases h
    | nd a b =>
      cases l with
      | true =>
        cases b with
        | lf y => cases h
        | nd c d => cases h; exact .A' a c d
      | false =>
        cases a with
        | lf y => cases h
        | nd c d => cases h; exact .A c d b
  · cases u with
    | lf y => cases h
    | nd a b => cases h; exact .C a b
  · cases h; exact .I u
  · cases u with
    | lf y => cases h
    | nd a b =>
      have h : (if a = b then some a else none) = some y := h
      split at h
      · rename_i e
        cases h
        rw [← e]
        exact .I' _
      · cases h
  · cases l with
    | true => cases h; exact .Ul u
    | false => cases h; exact .U u
  · cases u with
    | lf y => cases h
    | nd a b =>
      have h : (if a = .lf .e then some b else if b = .lf .e then some a else none) = some y := h
      split at h
      · rename_i e
        cases h
        rw [e]
        exact .Ul' _
      · split at h
        · rename_i e
          cases h
          rw [e]
          exact .U' _
        · cases h
  · cases u with
    | lf y => cases h
    | nd a b =>
      have h : (if a = .lf .z ∨ b = .lf .z then some (.lf .z) else none) = some y := h
      split at h
      · rename_i e
        cases h
        rcases e with e | e
        · rw [e]; exact .Zl' b
        · rw [e]; exact .Z' a
      · cases h
  · have h : (if 7 = 7 ∧ u = .lf .z then some (if l = true then Tree.nd x u else .nd u x) else none) = some y := h
    split at h
    · rename_i e
      cases h
      rw [e.2]
      cases l with
      | true => exact .Z x
      | false => exact .Zl x
    · cases h
section
variable {P : Program} {w : World} {K : PySem.W.Frag} {mg : Str → Option Value} {base : Heap}
theorem bf_regroup {v u : V} : ([("first", v), ("deeds", u)] : List (Str × V)).lookup ("regroup" : Str) = none := by kernel_rfl
theorem bf_exchange {v u : V} : ([("first", v), ("deeds", u)] : List (Str × V)).lookup ("exchange" : Str) = none := by kernel_rfl
theorem bf_double {v u : V} : ([("first", v), ("deeds", u)] : List (Str × V)).lookup ("double" : Str) = none := by kernel_rfl
theorem bf_single {v u : V} : ([("first", v), ("deeds", u)] : List (Str × V)).lookup ("single" : Str) = none := by kernel_rfl
theorem bf_pad {v u : V} : ([("first", v), ("deeds", u)] : List (Str × V)).lookup ("pad" : Str) = none := by kernel_rfl
theorem bf_bare {v u : V} : ([("first", v), ("deeds", u)] : List (Str × V)).lookup ("bare" : Str) = none := by kernel_rfl
theorem bf_swallow {v u : V} : ([("first", v), ("deeds", u)] : List (Str × V)).lookup ("swallow" : Str) = none := by kernel_rfl
theorem bf_spread {v u : V} : ([("first", v), ("deeds", u)] : List (Str × V)).lookup ("spread" : Str) = none := by kernel_rfl
theorem bf_steps {v u : V} : ([("first", v), ("deeds", u)] : List (Str × V)).lookup ("steps" : Str) = none := by kernel_rfl
theorem bf_undo {v u : V} : ([("first", v), ("deeds", u)] : List (Str × V)).lookup ("undo" : Str) = none := by kernel_rfl
theorem bf_begun {v u : V} : ([("first", v), ("deeds", u)] : List (Str × V)).lookup ("begun" : Str) = none := by kernel_rfl
theorem bf_spared {v u : V} : ([("first", v), ("deeds", u)] : List (Str × V)).lookup ("spared" : Str) = none := by kernel_rfl
def pm_ldone (K : PySem.W.Frag) : Pm := fun vs H Q => ∃ p d t ds q u k l xv x y, vs = [.ref p, .str (S (pth q)), .int (k : Nat), .bl l, xv] ∧ Pre K H p d t ds q u ∧ LT H xv x ∧ x.size ≤ 20 ∧ k < 8 ∧ deedF u k l x = some y ∧ (put (cur t ds) q y).size ≤ 20 ∧
  Done K H p d t ds ⟨ruleOf k, q, put (cur t ds) q y⟩ Q
theorem ok_ldone (T : Txt K mg) : Ok P w K mg base 205 (a__law_done K) (pm_ldone K) := by
  have R0 : Ok P w K mg base 202 (a_Board_regroup K) (fun vs H Q => pm_side K .A regF (vs ++ [.bl false]) H Q) := ok_regroup0 T
  have R1 := ok_regroup1 (P := P) (w := w) (base := base) T
  have P0 : Ok P w K mg base 202 (a_Board_pad K) (fun vs H Q => pm_side K .U padF (vs ++ [.bl false]) H Q) := ok_pad0 T
  have P1 := ok_pad1 (P := P) (w := w) (base := base) T
  have S0 : Ok P w K mg base 202 (a_Board_spread K) (fun vs H Q => pm_spread K (vs ++ [.bl false]) H Q) := ok_spread0 T
  have S1 := ok_spread1 (P := P) (w := w) (base := base) T
  have GX : Ok P w K mg base 202 (a_Board_exchange K) _ := ok_exchange T
  have GD : Ok P w K mg base 202 (a_Board_double K) _ := ok_double T
  have GS : Ok P w K mg base 202 (a_Board_single K) _ := ok_single T
  have GB : Ok P w K mg base 202 (a_Board_bare K) _ := ok_bare T
  have GZ : Ok P w K mg base 202 (a_Board_swallow K) _ := ok_swallow T
  have GW : Ok P w K mg base 130 (a_Way_init K) (pm_winit (K := K) 64) := ok_way T
  have GT : Ok P w K mg base 65 (a__law_text K) (pm_ltext 64) := ok_ltext T 64
  refine ok_of (F__law_done T) c_law_done b__law_done (fun vs H Q h => ?_) (fun cdv A outer s H vs Q E hr h => ?_)
  · obtain ⟨p, d, t, ds, q, u, k, l, xv, x, y, rfl, _⟩ := h
    rfl
  obtain ⟨p, d, t, ds, q, u, n, l, xv, x, y, rfl, h, hx, zx, n8, hy, z, k⟩ := h
  refine ⟨_, pss_cons (ps_try_thru0 (pss_one (ps_if (PW.pt (pw_and (pt_cmpR op_eq (pv 2) pe_int (nomark _)) (pw_and1 (pt_cmpR op_ne (pv 1) pe_str (nomark _))))) (pss_one (ps_set (i := 5) c_law_done.nd rfl (.inl rfl) (e_methK (pv 0) (cl_Board T) (m_Board_regroup T) R1 hr (by omega) (pa_cons (pv 1) pa_nil) (pk_cons (pv 3) pk_nil))))
      (pss_one (ps_if (PW.pt (pw_and (pt_cmpR op_eq (pv 2) pe_int (nomark _)) (pw_and1 (pt_val (pv 3))))) (pss_one (ps_set (i := 5) c_law_done.nd rfl (.inl rfl) (e_methK (pv 0) (cl_Board T) (m_Board_regroup T) R1 hr (by omega) (pa_cons (pv 1) pa_nil) (pk_cons pe_bl pk_nil))))
      (pss_one (ps_if (pt_cmpR op_eq (pv 2) pe_int (nomark _)) (pss_one (ps_set (i := 5) c_law_done.nd rfl (.inl rfl) (e_meth (pv 0) (cl_Board T) (m_Board_regroup T) R0 hr (by omega) (pa_cons (pv 1) pa_nil))))
      (pss_one (ps_if (pt_cmpR op_eq (pv 2) pe_int (nomark _)) (pss_one (ps_set (i := 5) c_law_done.nd rfl (.inl rfl) (e_meth (pv 0) (cl_Board T) (m_Board_exchange T) GX hr (by omega) (pa_cons (pv 1) pa_nil))))
      (pss_one (ps_if (pt_cmpR op_eq (pv 2) pe_int (nomark _)) (pss_one (ps_set (i := 5) c_law_done.nd rfl (.inl rfl) (e_meth (pv 0) (cl_Board T) (m_Board_double T) GD hr (by omega) (pa_cons (pv 1) pa_nil))))
      (pss_one (ps_if (pt_cmpR op_eq (pv 2) pe_int (nomark _)) (pss_one (ps_set (i := 5) c_law_done.nd rfl (.inl rfl) (e_meth (pv 0) (cl_Board T) (m_Board_single T) GS hr (by omega) (pa_cons (pv 1) pa_nil))))
      (pss_one (ps_if (PW.pt (pw_and (pt_cmpR op_eq (pv 2) pe_int (nomark _)) (pw_and1 (pt_val (pv 3))))) (pss_one (ps_set (i := 5) c_law_done.nd rfl (.inl rfl) (e_methK (pv 0) (cl_Board T) (m_Board_pad T) P1 hr (by omega) (pa_cons (pv 1) pa_nil) (pk_cons pe_bl pk_nil))))
      (pss_one (ps_if (pt_cmpR op_eq (pv 2) pe_int (nomark _)) (pss_one (ps_set (i := 5) c_law_done.nd rfl (.inl rfl) (e_meth (pv 0) (cl_Board T) (m_Board_pad T) P0 hr (by omega) (pa_cons (pv 1) pa_nil))))
      (pss_one (ps_if (pt_cmpR op_eq (pv 2) pe_int (nomark _)) (pss_one (ps_set (i := 5) c_law_done.nd rfl (.inl rfl) (e_meth (pv 0) (cl_Board T) (m_Board_bare T) GB hr (by omega) (pa_cons (pv 1) pa_nil))))
      (pss_one (ps_if (pt_cmpR op_eq (pv 2) pe_int (nomark _)) (pss_one (ps_set (i := 5) c_law_done.nd rfl (.inl rfl) (e_meth (pv 0) (cl_Board T) (m_Board_swallow T) GZ hr (by omega) (pa_cons (pv 1) pa_nil))))
      (pss_one (ps_if (pt_val (pv 3)) (pss_one (ps_set (i := 5) c_law_done.nd rfl (.inl rfl) (e_methK (pv 0) (cl_Board T) (m_Board_spread T) S1 hr (by omega) (pa_cons (pv 1) (pa_cons (e_make (mk_Way T) GW hr (by omega) (g_Way T) (pa_cons (e_call GT hr (by omega) (g__law_text T) (k__law_text T) (pa_cons (pv 4) pa_nil)) pa_nil)) pa_nil)) (pk_cons pe_bl pk_nil))))
      (pss_one (ps_set (i := 5) c_law_done.nd rfl (.inl rfl) (e_meth (pv 0) (cl_Board T) (m_Board_spread T) S0 hr (by omega) (pa_cons (pv 1) (pa_cons (e_make (mk_Way T) GW hr (by omega) (g_Way T) (pa_cons (e_call GT hr (by omega) (g__law_text T) (k__law_text T) (pa_cons (pv 4) pa_nil)) pa_nil)) pa_nil)))))))))))))))))))))))))))) (pss_one (ps_ret (pv 5))), ?_⟩
  obtain ⟨dx, pf, o⟩ := h.ob
  have zt := h.lo.cur
  have hyy := hy
  unfold deedF at hy
  have n9 : n = 0 ∨ n = 1 ∨ n = 2 ∨ n = 3 ∨ n = 4 ∨ n = 5 ∨ n = 6 ∨ n = 7 := by omega
  have kd : ∀ {r : Rl}, r = ruleOf n → Done K H p d t ds ⟨r, q, put (cur t ds) q y⟩ (fun v H' => v = .non ∧ Q .non H') := fun e H' x1 b1 => ⟨rfl, k H' x1 (by rw [← e]; exact b1)⟩
  have e0 : decide (V.str (S (pth q)) = V.str ("" : Str)) = decide (q = []) := by
    rw [empty_S, dec_S]
    refine decide_eq_decide.mpr ⟨fun e => ?_, fun e => by rw [e]; rfl⟩
    exact List.length_eq_zero_iff.mp (by rw [← pth_len, e]; rfl)
  rcases n9 with rfl | rfl | rfl | rfl | rfl | rfl | rfl | rfl
  · have hf : regF l u y := by
      cases u with
      | lf w => cases hy
      | nd a b =>
        cases l with
        | true =>
          cases b with
          | lf w => cases hy
          | nd c e => cases hy; exact ⟨a, c, e, rfl, rfl⟩
        | false =>
          cases a with
          | lf w => cases hy
          | nd c e => cases hy; exact ⟨c, e, b, rfl, rfl⟩
    refine ⟨_, rfl, rfl, _, rfl, iteT ?_⟩
    refine ⟨_, rfl, rfl, _, rfl, ?_⟩
    rw [e0]
    by_cases hq : q = []
    · rw [decide_eq_true hq]
      refine iteF ?_
      refine ⟨_, rfl, rfl, _, rfl, iteT ?_⟩
      refine ⟨_, rfl, _, rfl, ?_⟩
      cases l with
      | true => exact iteT ⟨_, rfl, p, dx, _, rfl, o, bf_regroup, _, rfl, rfl, rfl, ⟨p, d, t, ds, q, u, y, true, rfl, h, hf, z, fun H' x1 b1 => ⟨_, rfl, k H' x1 b1⟩⟩⟩
      | false =>
        refine iteF ?_
        refine ⟨_, rfl, rfl, _, rfl, iteT ?_⟩
        exact ⟨_, rfl, p, dx, _, rfl, o, bf_regroup, _, rfl, ⟨p, d, t, ds, q, u, y, false, rfl, h, hf, z, fun H' x1 b1 => ⟨_, rfl, k H' x1 b1⟩⟩⟩
    · rw [decide_eq_false hq]
      exact iteT ⟨_, rfl, p, dx, _, rfl, o, bf_regroup, _, rfl, _, rfl, rfl, rfl, ⟨p, d, t, ds, q, u, y, l, rfl, h, hf, z, fun H' x1 b1 => ⟨_, rfl, k H' x1 b1⟩⟩⟩
  · refine ⟨_, rfl, rfl, _, rfl, iteF (iteF ?_)⟩
    refine ⟨_, rfl, rfl, _, rfl, iteF (iteF ?_)⟩
    refine ⟨_, rfl, rfl, _, rfl, iteF ?_⟩
    refine ⟨_, rfl, rfl, _, rfl, iteT ?_⟩
    cases u with
    | lf w => cases hy
    | nd a b =>
      cases hy
      exact ⟨_, rfl, p, dx, _, rfl, o, bf_exchange, _, rfl, p, d, t, ds, q, _, _, rfl, h, ⟨a, b, rfl, rfl⟩, z, fun H' x1 b1 => ⟨_, rfl, k H' x1 b1⟩⟩
  · refine ⟨_, rfl, rfl, _, rfl, iteF (iteF ?_)⟩
    refine ⟨_, rfl, rfl, _, rfl, iteF (iteF ?_)⟩
    refine ⟨_, rfl, rfl, _, rfl, iteF ?_⟩
    refine ⟨_, rfl, rfl, _, rfl, iteF ?_⟩
    refine ⟨_, rfl, rfl, _, rfl, iteT ?_⟩
    cases hy
    exact ⟨_, rfl, p, dx, _, rfl, o, bf_double, _, rfl, p, d, t, ds, q, _, _, rfl, h, rfl, z, fun H' x1 b1 => ⟨_, rfl, k H' x1 b1⟩⟩
  · refine ⟨_, rfl, rfl, _, rfl, iteF (iteF ?_)⟩
    refine ⟨_, rfl, rfl, _, rfl, iteF (iteF ?_)⟩
    refine ⟨_, rfl, rfl, _, rfl, iteF ?_⟩
    refine ⟨_, rfl, rfl, _, rfl, iteF ?_⟩
    refine ⟨_, rfl, rfl, _, rfl, iteF ?_⟩
    refine ⟨_, rfl, rfl, _, rfl, iteT ?_⟩
    cases u with
    | lf w => cases hy
    | nd a b =>
      have hy : (if a = b then some a else none) = some y := hy
      split at hy
      · rename_i e
        cases hy
        exact ⟨_, rfl, p, dx, _, rfl, o, bf_single, _, rfl, p, d, t, ds, q, _, _, rfl, h, by rw [← e], z, fun H' x1 b1 => ⟨_, rfl, k H' x1 b1⟩⟩
      · cases hy
  · refine ⟨_, rfl, rfl, _, rfl, iteF (iteF ?_)⟩
    refine ⟨_, rfl, rfl, _, rfl, iteF (iteF ?_)⟩
    refine ⟨_, rfl, rfl, _, rfl, iteF ?_⟩
    refine ⟨_, rfl, rfl, _, rfl, iteF ?_⟩
    refine ⟨_, rfl, rfl, _, rfl, iteF ?_⟩
    refine ⟨_, rfl, rfl, _, rfl, iteF ?_⟩
    refine ⟨_, rfl, rfl, _, rfl, iteT ?_⟩
    refine ⟨_, rfl, _, rfl, ?_⟩
    cases l with
    | true =>
      cases hy
      exact iteT ⟨_, rfl, p, dx, _, rfl, o, bf_pad, _, rfl, rfl, rfl, p, d, t, ds, q, u, _, true, rfl, h, rfl, z, fun H' x1 b1 => ⟨_, rfl, k H' x1 b1⟩⟩
    | false =>
      cases hy
      refine iteF ?_
      refine ⟨_, rfl, rfl, _, rfl, iteT ?_⟩
      exact ⟨_, rfl, p, dx, _, rfl, o, bf_pad, _, rfl, p, d, t, ds, q, u, _, false, rfl, h, rfl, z, fun H' x1 b1 => ⟨_, rfl, k H' x1 b1⟩⟩
  · refine ⟨_, rfl, rfl, _, rfl, iteF (iteF ?_)⟩
    refine ⟨_, rfl, rfl, _, rfl, iteF (iteF ?_)⟩
    refine ⟨_, rfl, rfl, _, rfl, iteF ?_⟩
    refine ⟨_, rfl, rfl, _, rfl, iteF ?_⟩
    refine ⟨_, rfl, rfl, _, rfl, iteF ?_⟩
    refine ⟨_, rfl, rfl, _, rfl, iteF ?_⟩
    refine ⟨_, rfl, rfl, _, rfl, iteF (iteF ?_)⟩
    refine ⟨_, rfl, rfl, _, rfl, iteF ?_⟩
    refine ⟨_, rfl, rfl, _, rfl, iteT ?_⟩
    cases u with
    | lf w => cases hy
    | nd a b =>
      have hy : (if a = .lf .e then some b else if b = .lf .e then some a else none) = some y := hy
      split at hy
      · rename_i e
        cases hy
        exact ⟨_, rfl, p, dx, _, rfl, o, bf_bare, _, rfl, p, d, t, ds, q, _, _, rfl, h, ⟨_, _, rfl, .inl ⟨e, rfl⟩⟩, z, fun H' x1 b1 => ⟨_, rfl, k H' x1 b1⟩⟩
      · rename_i e1
        split at hy
        · rename_i e
          cases hy
          exact ⟨_, rfl, p, dx, _, rfl, o, bf_bare, _, rfl, p, d, t, ds, q, _, _, rfl, h, ⟨_, _, rfl, .inr ⟨e1, e, rfl⟩⟩, z, fun H' x1 b1 => ⟨_, rfl, k H' x1 b1⟩⟩
        · cases hy
  · refine ⟨_, rfl, rfl, _, rfl, iteF (iteF ?_)⟩
    refine ⟨_, rfl, rfl, _, rfl, iteF (iteF ?_)⟩
    refine ⟨_, rfl, rfl, _, rfl, iteF ?_⟩
    refine ⟨_, rfl, rfl, _, rfl, iteF ?_⟩
    refine ⟨_, rfl, rfl, _, rfl, iteF ?_⟩
    refine ⟨_, rfl, rfl, _, rfl, iteF ?_⟩
    refine ⟨_, rfl, rfl, _, rfl, iteF (iteF ?_)⟩
    refine ⟨_, rfl, rfl, _, rfl, iteF ?_⟩
    refine ⟨_, rfl, rfl, _, rfl, iteF ?_⟩
    refine ⟨_, rfl, rfl, _, rfl, iteT ?_⟩
    cases u with
    | lf w => cases hy
    | nd a b =>
      have hy : (if a = .lf .z ∨ b = .lf .z then some (.lf .z) else none) = some y := hy
      split at hy
      · rename_i e
        cases hy
        exact ⟨_, rfl, p, dx, _, rfl, o, bf_swallow, _, rfl, p, d, t, ds, q, _, _, rfl, h, ⟨a, b, rfl, e, rfl⟩, z, fun H' x1 b1 => ⟨_, rfl, k H' x1 b1⟩⟩
      · cases hy
  · refine ⟨_, rfl, rfl, _, rfl, iteF (iteF ?_)⟩
    refine ⟨_, rfl, rfl, _, rfl, iteF (iteF ?_)⟩
    refine ⟨_, rfl, rfl, _, rfl, iteF ?_⟩
    refine ⟨_, rfl, rfl, _, rfl, iteF ?_⟩
    refine ⟨_, rfl, rfl, _, rfl, iteF ?_⟩
    refine ⟨_, rfl, rfl, _, rfl, iteF ?_⟩
    refine ⟨_, rfl, rfl, _, rfl, iteF (iteF ?_)⟩
    refine ⟨_, rfl, rfl, _, rfl, iteF ?_⟩
    refine ⟨_, rfl, rfl, _, rfl, iteF ?_⟩
    refine ⟨_, rfl, rfl, _, rfl, iteF ?_⟩
    refine ⟨_, rfl, _, rfl, ?_⟩
    have hy : (if 7 = 7 ∧ u = .lf .z then some (if l = true then Tree.nd x u else .nd u x) else none) = some y := hy
    split at hy
    case isFalse => cases hy
    case isTrue e =>
      have ey : y = if l = true then Tree.nd x u else .nd u x := by injection hy with hy; exact hy.symm
      have dx0 := x.depth_lt
      cases l with
      | true =>
        refine iteT ⟨_, rfl, p, dx, _, rfl, o, bf_spread, _, rfl, _, rfl, xv, x, rfl, hx, by omega, by omega, ?_⟩
        intro b dz nb nd ne
        refine made_way1 (t := x) (by show x.size ≤ 64; omega) nb nd ne rfl fun H1 s1 wb => ?_
        exact ⟨rfl, rfl, p, d, t, ds, q, u, y, true, b, x, rfl, h.same s1, wb, e.2, ey, z, fun H' x1 b1 => ⟨_, rfl, k H' (fun c i j m => x1 c i (s1 c i j) m) b1⟩⟩
      | false =>
        refine iteF ⟨_, rfl, p, dx, _, rfl, o, bf_spread, _, rfl, _, rfl, xv, x, rfl, hx, by omega, by omega, ?_⟩
        intro b dz nb nd ne
        refine made_way1 (t := x) (by show x.size ≤ 64; omega) nb nd ne rfl fun H1 s1 wb => ?_
        exact ⟨p, d, t, ds, q, u, y, false, b, x, rfl, h.same s1, wb, e.2, ey, z, fun H' x1 b1 => ⟨_, rfl, k H' (fun c i j m => x1 c i (s1 c i j) m) b1⟩⟩
end
end NL
set_option Elab.async false
set_option linter.all false
set_option maxRecDepth 100000
set_option maxHeartbeats 4000000
/-! _law_drawn. -/
namespace NL
open PySem PySem.Spec PyProof.Rows L2 SX LamX
section
variable {P : Program} {w : World} {K : PySem.W.Frag} {mg : Str → Option Value} {base : Heap}
theorem PoolAt.gr {H H' : Hp} {p : Addr} (h : PoolAt H p) (x : Sx [p] H H') : Gr H H' := Gr.sx x fun d hd => by
  obtain ⟨a, b, c, e⟩ := h
  rw [List.mem_singleton.mp hd]
  exact ⟨_, e⟩
theorem PoolAt.ne {H : Hp} {p l : Addr} (h : PoolAt H p) (n : H l = none) : l ≠ p := by
  obtain ⟨a, b, c, e⟩ := h
  intro z
  rw [z, e] at n
  cases n
/-- an index drawn -/
theorem to_take {H : Hp} {p : Addr} {n : Int} {Q : VK} (h : PoolAt H p) (h0 : 0 < n) (h1 : n < 1000000) (k : ∀ (j : Nat) H', (j : Int) < n → Sx [p] H H' → PoolAt H' p → Q (.int j) H') : pm_takeI [.ref p, .int n] H Q := by
  rw [takeI_eq]
  exact  ⟨p, n, rfl, h, h0, h1, fun r H' r0 r1 x q => by
    obtain ⟨j, rfl⟩ := Int.eq_ofNat_of_zero_le r0
    exact k j H' r1 x q⟩
def pm_ldrawn : Pm := fun vs H Q => ∃ p v t, vs = [.ref p, v] ∧ PoolAt H p ∧ LT H v t ∧ t.size ≤ 20 ∧ ∀ H' l q k b xv x, Sx [p] H H' → PoolAt H' p → H l = none → H' l = some (.lst [plV q, .int (k : Nat), .bl b, xv]) → q ∈ places t → k < 8 → LT H' xv x → x.size ≤ 2 → Q (.ref l) H'
theorem ok_ldrawn (T : Txt K mg) : Ok P w K mg base 67 (a__law_drawn K) pm_ldrawn := by
  have GP : Ok P w K mg base 65 (a__law_paths K) (pm_lpaths 64) := ok_lpaths T 64
  have GT : Ok P w K mg base 1 (a__law_take K) pm_takeI := ok_takeI T
  have GR : Ok P w K mg base 6 (a__law_tree K) (pm_ltree 4) := ok_ltree T 4
  have GD : Ok P w K mg base 6 (a__law_deed K) pm_ldeed := ok_ldeed T
  refine ok_of (F__law_drawn T) c_law_drawn b__law_drawn (fun vs H Q h => ?_) (fun cdv A outer s H vs Q E hr h => ?_)
  · obtain ⟨p, v, t, rfl, _⟩ := h
    rfl
  obtain ⟨p, v, t, rfl, hp, ht, zt, k⟩ := h
  refine ⟨_, pss_cons (ps_set (i := 2) c_law_drawn.nd rfl (.inl rfl) (e_call GP hr (by omega) (g__law_paths T) (k__law_paths T) (pa_cons (pv 1) pa_nil)))
    (pss_cons (ps_set (i := 3) c_law_drawn.nd rfl (.inl rfl) (pe_ix ix_list (pv 2) (e_call GT hr (by omega) (g__law_take T) (k__law_take T) (pa_cons (pv 0) (pa_cons (pe_callB call_len_seq (by rfl) (z_len T) PySem.boot_len (pa_cons (pv 2) pa_nil)) pa_nil))) (fun _ _ => rfl)))
    (pss_cons (ps_set (i := 4) c_law_drawn.nd rfl (.inl rfl) (e_call GT hr (by omega) (g__law_take T) (k__law_take T) (pa_cons (pv 0) (pa_cons pe_int pa_nil))))
    (pss_cons (ps_set (i := 5) c_law_drawn.nd rfl (.inl rfl) (pe_cmpR op_eq (e_call GT hr (by omega) (g__law_take T) (k__law_take T) (pa_cons (pv 0) (pa_cons pe_int pa_nil))) pe_int (nomark _)))
    (pss_cons (ps_set (i := 6) c_law_drawn.nd rfl (.inl rfl) (e_call GR hr (by omega) (g__law_tree T) (k__law_tree T) (pa_cons (pv 0) (pa_cons (pe_op op_add pe_int (e_call GT hr (by omega) (g__law_take T) (k__law_take T) (pa_cons (pv 0) (pa_cons pe_int pa_nil)))) (pa_cons (pe_lst (pa_cons pe_str (pa_cons pe_str (pa_cons pe_str (pa_cons pe_str pa_nil))))) pa_nil)))))
    (pss_cons (ps_for PassesOwn.never rfl (pi_range1 (by rfl) (z_range T) (pa_cons pe_int pa_nil)) (pg_name (i := 7) c_law_drawn.nd rfl (.inl rfl))
      (pss_one (ps_if (PW.pt (pw_and (pt_cmpR op_isN (e_call GD hr (by omega) (g__law_deed T) (k__law_deed T) (pa_cons (pv 1) (pa_cons (pv 3) (pa_cons (pv 4) (pa_cons (pv 5) (pa_cons (pv 6) pa_nil)))))) pe_non (nomark _)) (pw_and1 (pt_cmpR op_gt (e_call GT hr (by omega) (g__law_take T) (k__law_take T) (pa_cons (pv 0) (pa_cons pe_int pa_nil))) pe_int (nomark _)))))
        (pss_cons (ps_set (i := 3) c_law_drawn.nd rfl (.inl rfl) (pe_ix ix_list (pv 2) (e_call GT hr (by omega) (g__law_take T) (k__law_take T) (pa_cons (pv 0) (pa_cons (pe_callB call_len_seq (by rfl) (z_len T) PySem.boot_len (pa_cons (pv 2) pa_nil)) pa_nil))) (fun _ _ => rfl)))
        (pss_one (ps_set (i := 4) c_law_drawn.nd rfl (.inl rfl) (e_call GT hr (by omega) (g__law_take T) (k__law_take T) (pa_cons (pv 0) (pa_cons pe_int pa_nil)))))) pss_nil)))
    (pss_one (ps_ret (pe_lst (pa_cons (pv 3) (pa_cons (pv 4) (pa_cons (pv 5) (pa_cons (pv 6) pa_nil)))))))))))), ?_⟩
  have dt := t.depth_lt
  refine ⟨_, rfl, v, t, rfl, ht, by omega, by omega, fun l H1 s1 nl hl => ?_⟩
  have p1 : PoolAt H1 p := let ⟨a, b, c, e⟩ := hp; ⟨a, b, c, s1 _ _ e⟩
  have nlp : l ≠ p := hp.ne nl
  have pl := places_len t
  have lp : ((places t).map plV).length = (places t).length := by simp
  have tp := t.size_pos
  have keepl : ∀ {Ha Hb : Hp}, Sx [p] Ha Hb → Ha l = some (.lst ((places t).map plV)) → Hb l = some (.lst ((places t).map plV)) := fun x e => x _ _ e (by simpa using nlp)
  refine ⟨_, rfl, _, rfl, _, rfl, l, _, rfl, .inl (SqL.of hl), ?_⟩
  refine to_take (n := (((places t).map plV).length : Nat)) p1 (by rw [lp]; omega) (by rw [lp]; omega) fun j H2 jb x2 p2 => ?_
  rw [lp] at jb
  have jb' : j < (places t).length := by omega
  refine ⟨l, _, j, plV (places t)[j], rfl, rfl, SqL.of (keepl x2 hl), atI_nat (by rw [List.getElem?_map, List.getElem?_eq_getElem jb']; rfl), ?_⟩
  have hq : (places t)[j] ∈ places t := List.getElem_mem jb'
  generalize (places t)[j] = q at hq ⊢
  refine ⟨_, rfl, ?_⟩
  refine to_take p2 (by decide) (by decide) fun k1 H3 kb x3 p3 => ?_
  refine ⟨_, rfl, ?_⟩
  refine to_take p3 (by decide) (by decide) fun b1 H4 bb x4 p4 => ?_
  refine ⟨rfl, ?_⟩
  generalize decide (V.int (b1 : Int) = V.int 1) = lf
  refine ⟨_, rfl, _, rfl, ?_⟩
  refine to_take p4 (by decide) (by decide) fun m1 H5 mb x5 p5 => ?_
  refine ⟨_, _, rfl, rfl, (by show 4 ≤ sizeLine; decide), fun nm nn => ?_⟩
  have s6 := same_upd (o := .lst [.str "a", .str "z", .str "b", .str "e"]) nn
  have p6 : PoolAt (upd H5 nm (.lst [.str "a", .str "z", .str "b", .str "e"])) p := let ⟨a, b, c, e⟩ := p5; ⟨a, b, c, s6 _ _ e⟩
  refine ⟨p, 1 + m1, nm, [.a, .z, .b, .e], by simp, p6, ?_, by simp, by simp, by omega, by omega, by omega, fun H7 xv x x7 p7 hx zx => ?_⟩
  · rw [upd_same, show Str.ofString "a" = S [L.a.code] by decide +kernel, show Str.ofString "z" = S [L.z.code] by decide +kernel, show Str.ofString "b" = S [L.b.code] by decide +kernel, show Str.ofString "e" = S [L.e.code] by decide +kernel]
    rfl
  have X : Sx [p] H H7 := ((((Sx.of s1).trans x2).trans x3).trans x4).trans ((x5.trans (.of s6)).trans x7)
  have hl7 : H7 l = some (.lst ((places t).map plV)) := keepl x7 (s6 _ _ (keepl x5 (keepl x4 (keepl x3 (keepl x2 hl)))))
  refine ⟨_, rfl, by decide, by decide, ?_⟩
  refine for_it walk_range (fun i σ H' => Sx [p] H H' ∧ PoolAt H' p ∧ H' l = some (.lst ((places t).map plV)) ∧ LT H' xv x ∧ ∃ q k vp, σ = [some (.ref p), some v, some (.ref l), some (plV q), some (.int (k : Nat)), some (.bl lf), some xv, vp] ∧ q ∈ places t ∧ k < 8)
    ⟨X, p7, hl7, hx, q, k1, none, rfl, hq, by omega⟩ (fun _ _ _ _ _ => trivial) ?_ ?_
  · rintro i z σ Ha Hb hi ⟨X, pa, hla, hxa, q, k1, vp, rfl, hq, k8⟩ ⟨rfl, rfl⟩
    obtain ⟨u, hu⟩ := (mem_places t q).mp hq
    refine ⟨_, rfl, _, rfl, _, rfl, _, rfl, _, rfl, v, t, q, u, k1, lf, xv, x, rfl, ht.gr (hp.gr X), hu, by omega, hxa, by omega, k8, fun Hc z sc hz => ?_⟩
    have pc : PoolAt Hc p := let ⟨a, b, c, e⟩ := pa; ⟨a, b, c, sc _ _ e⟩
    have Xc : Sx [p] H Hc := X.trans (.of sc)
    refine ⟨rfl, _, rfl, ?_⟩
    by_cases hz0 : z = .non
    · rw [decide_eq_true hz0]
      refine iteT ⟨_, rfl, ?_⟩
      refine to_take pc (by decide) (by decide) fun r Hd rb xd pd => ?_
      have hld := keepl xd (sc _ _ hla)
      have hxd := (hxa.gr (.of sc)).gr (pc.gr xd)
      refine ⟨_, _, rfl, rfl, _, rfl, ?_⟩
      by_cases hr0 : (r : Int) > 0
      · rw [decide_eq_true hr0]
        refine iteT ⟨_, rfl, _, rfl, _, rfl, l, _, rfl, .inl (SqL.of hld), ?_⟩
        refine to_take (n := (((places t).map plV).length : Nat)) pd (by rw [lp]; omega) (by rw [lp]; omega) fun j He jb xe pe => ?_
        rw [lp] at jb
        have jb' : j < (places t).length := by omega
        refine ⟨l, _, j, plV (places t)[j], rfl, rfl, SqL.of (keepl xe hld), atI_nat (by rw [List.getElem?_map, List.getElem?_eq_getElem jb']; rfl), ?_⟩
        refine ⟨_, rfl, ?_⟩
        refine to_take pe (by decide) (by decide) fun k2 Hf kb xf pf => ?_
        exact ⟨((Xc.trans xd).trans xe).trans xf, pf, keepl xf (keepl xe hld), (hxd.gr (pd.gr xe)).gr (pe.gr xf), _, k2, _, rfl, List.getElem_mem jb', by omega⟩
      · rw [decide_eq_false hr0]
        exact iteF ⟨Xc.trans xd, pd, hld, hxd, q, k1, _, rfl, hq, k8⟩
    · rw [decide_eq_false hz0]
      exact iteF (iteF ⟨Xc, pc, sc _ _ hla, hxa.gr (.of sc), q, k1, _, rfl, hq, k8⟩)
  · rintro σ Ha ⟨X, pa, hla, hxa, q, k1, vp, rfl, hq, k8⟩
    refine ⟨_, rfl, _, rfl, _, rfl, _, rfl, (by show 4 ≤ sizeLine; decide), fun d nd => ?_⟩
    have sd := same_upd (o := .lst [plV q, .int (k1 : Nat), .bl lf, xv]) nd
    refine k _ d q k1 lf xv x (X.trans (.of sd)) (let ⟨a, b, c, e⟩ := pa; ⟨a, b, c, sd _ _ e⟩) ?_ upd_same hq k8 (hxa.gr (.of sd)) (by omega)
    cases h : H d with
    | none => rfl
    | some o =>
      have ndp : d ≠ p := pa.ne nd
      rw [X _ _ h (by simpa using ndp)] at nd
      cases nd
end
end NL
set_option Elab.async false
set_option linter.all false
set_option maxRecDepth 100000
set_option maxHeartbeats 4000000
/-! the law's own order of letters. -/
namespace NL
open PySem PySem.Spec PyProof.Rows L2 SX LamX
theorem eqV_lf {x y : L} : eqV (leafV x) (leafV y) = decide (x = y) := by
  rw [Bool.eq_iff_iff]
  show (leafS x == leafS y) = true ↔ _
  rw [beq_iff_eq, decide_eq_true_eq]
  exact ⟨leafS_inj, fun h => by rw [h]⟩
theorem in_lf {x : L} {l : List L} : inV (leafV x) (l.map leafV) = decide (x ∈ l) := by
  unfold inV
  rw [List.any_map, Bool.eq_iff_iff, List.any_eq_true, decide_eq_true_eq]
  constructor
  · rintro ⟨y, hy, e⟩
    have e : eqV (leafV y) (leafV x) = true := e
    rw [eqV_lf] at e
    exact of_decide_eq_true e ▸ hy
  · exact fun h => ⟨x, h, by show eqV (leafV x) (leafV x) = true; rw [eqV_lf]; simp⟩
theorem flat_lf (l : List L) : (l.map leafV).all flatV = true := by
  rw [List.all_map]
  exact List.all_eq_true.mpr fun _ _ => rfl
section
variable {P : Program} {w : World} {K : PySem.W.Frag} {mg : Str → Option Value} {base : Heap}
def pm_ldiff : Pm := fun vs H Q => ∃ p u, vs = [.ref p] ∧ H p = some (lst u) ∧ u.length ≤ 100 ∧ ∀ H' t, Same H H' → H t = none → H' t = some (lst (dfl u)) → Q (.ref t) H'
theorem ok_ldiff (T : Txt K mg) : Ok P w K mg base 1 (a__law_different K) pm_ldiff := by
  refine ok_of (F__law_different T) c_law_different b__law_different (fun vs H Q h => ?_) (fun cdv A outer s H vs Q E hr h => ?_)
  · obtain ⟨p, u, rfl, _⟩ := h
    rfl
  obtain ⟨p, u, rfl, hp, hz, k⟩ := h
  refine ⟨_, pss_cons (ps_set (i := 1) c_law_different.nd rfl (.inl rfl) (pe_lst pa_nil))
    (pss_cons (ps_for PassesOwn.never rfl (pi_list (pv 0)) (pg_name (i := 2) c_law_different.nd rfl (.inl rfl))
      (pss_one (ps_if (pt_cmpR op_notIn_seq (pv 2) (pv 1) (by rfl)) (pss_one (ps_expr (pe_bm PySem.F.plainAttrs_list PySem.F.slot_list_append PySem.F.type_list_append mt_append (pv 1) (pa_cons (pv 2) pa_nil)))) pss_nil)))
    (pss_one (ps_ret (pv 1)))), ?_⟩
  refine ⟨Nat.zero_le _, fun d nd => ?_⟩
  refine ⟨_, rfl, p, rfl, ⟨_, SqL.of (same_upd nd _ _ hp)⟩, ?_⟩
  refine for_it (walk_list (K := K) (a := p) (xs := u.map leafV)) (fun i σ H' => Same H H' ∧ ∃ v, σ = [some (.ref p), some (.ref d), v] ∧ H' d = some (lst (dfl (u.take i))))
    ⟨same_upd nd, _, rfl, upd_same⟩ (fun i σ H' _ q => SqL.of (q.1 _ _ hp)) ?_ ?_
  · rintro i v σ H2 H3 hi ⟨s2, v0, rfl, hd⟩ ⟨rfl, hx⟩
    obtain ⟨x, ha, rfl⟩ := map_at' hx
    have e1 : u.take (i + 1) = u.take i ++ [x] := by
      rw [List.take_add_one, ha]
      rfl
    refine ⟨_, rfl, _, rfl, d, _, rfl, .inl (SqL.of hd), rfl, flat_lf _, ?_⟩
    rw [if_pos rfl, in_lf]
    refine ⟨_, rfl, ?_⟩
    by_cases q : x ∈ dfl (u.take i)
    · rw [decide_eq_true q]
      exact iteF ⟨s2, _, rfl, by rw [e1, dfl_snoc, if_pos q]; exact hd⟩
    · rw [decide_eq_false q]
      have l1 := dfl_len (u.take i)
      have l2 : (u.take i).length ≤ u.length := by simp; omega
      refine iteT ⟨_, rfl, .inl ⟨rfl, _, SqL.of hd⟩, _, rfl, d, _, _, rfl, rfl, hd, by rw [List.length_map, sizeLine_eq]; omega, ?_⟩
      refine ⟨fun b o e => ?_, _, rfl, ?_⟩
      · rw [upd_ne (ne_of_none e nd)]
        exact s2 _ _ e
      · rw [upd_same, e1, dfl_snoc, if_neg q]
        simp [lst]
  · rintro σ H2 ⟨s2, v0, rfl, hd⟩
    rw [List.length_map, List.take_length] at hd
    exact ⟨_, rfl, k H2 d s2 nd hd⟩
end
end NL
set_option Elab.async false
set_option linter.all false
set_option maxRecDepth 100000
set_option maxHeartbeats 8000000
/-! the law's own band form. -/
namespace NL
open PySem PySem.Spec PyProof.Rows L2 SX LamX
theorem last_at {l : List L} {a : L} (h : l.getLast? = some a) : atI (l.map leafV) (-1) = some (leafV a) := by
  obtain ⟨r, rfl⟩ := List.getLast?_eq_some_iff.mp h
  rw [List.map_append]
  exact atI_last _ _
theorem pre_index {u p : List L} {a : L} (h : IsPre u p a) : u[p.length]? = some a ∧ (∀ m, m < p.length → u[m]? ≠ some a) ∧ u.take p.length = p := by
  obtain ⟨r, rfl, h1, h2⟩ := h
  refine ⟨by simp, fun m hm e => ?_, by simp⟩
  rw [List.getElem?_append_left hm] at e
  exact h1 (List.mem_of_getElem? e)
theorem suf_drop {u s : List L} {b : L} (h : IsSuf u b s) : u.drop (u.length - s.length) = s := by
  obtain ⟨r, rfl, h1, h2⟩ := h
  have e : (r ++ b :: s).length - s.length = (r ++ [b]).length := by simp; omega
  have e2 : r ++ b :: s = (r ++ [b]) ++ s := by simp
  rw [e, e2, List.drop_left]
section
variable {P : Program} {w : World} {K : PySem.W.Frag} {mg : Str → Option Value} {base : Heap}
@[irreducible] def rIndexJ (K : PySem.W.Frag) : V → List V → Hp → VK → Prop := rIndexD K
theorem rIndexJ_eq {K : PySem.W.Frag} : rIndexJ K = rIndexD K := by unfold rIndexJ; rfl
theorem mt_indexJ {X : Cx} (hu : X.A.units + 65 < cLine) : MtR X "list.index" (rIndexJ X.K) := by rw [rIndexJ_eq]; exact mt_indexD hu
theorem idx_leaf {H : Hp} {p : Addr} {u : List L} {j : Nat} {a : L} {Q : VK} (hp : H p = some (lst u)) (h1 : u[j]? = some a) (h2 : ∀ m, m < j → u[m]? ≠ some a) (q : Q (.int (j : Nat)) H) : rIndexJ K (.ref p) [leafV a] H Q := by
  rw [rIndexJ_eq]
  refine ⟨p, leafV a, .str (leafS a), (u.map leafS).map PyData.str, j, .str (leafS a), rfl, rfl, dp_tx (SqL.of (by rw [leaf_map]; exact hp)), .str _, shaped_leaf u, by cases a <;> decide +kernel, by simp [h1], by simp [PyData.eqv], fun m z' hm hz => ?_, q⟩
  rw [List.map_map, List.getElem?_map] at hz
  cases hy : u[m]? with
  | none =>
    rw [hy] at hz
    cases hz
  | some y =>
    rw [hy] at hz
    cases hz
    have : leafS y ≠ leafS a := fun e => h2 m hm (by rw [hy, leafS_inj e])
    simp [PyData.eqv, this]
def pm_lband (n : Nat) : Pm := fun vs H Q => ∃ p u, vs = [.ref p] ∧ H p = some (lst u) ∧ u.length < n ∧ u.length ≤ 100 ∧ ∀ H' t, Same H H' → H t = none → H' t = some (lst (band u)) → Q (.ref t) H'
theorem ok_lband (T : Txt K mg) : ∀ n : Nat, Ok P w K mg base (n + 2) (a__law_band K) (pm_lband n)
  | 0 => no_calls fun vs H Q ⟨p, u, _, _, h, _⟩ => Nat.not_lt_zero _ h
  | n + 1 => by
    have G := ok_lband T n
    have GD : Ok P w K mg base 1 (a__law_different K) pm_ldiff := ok_ldiff T
    refine ok_of (F__law_band T) c_law_band b__law_band (fun vs H Q h => ?_) (fun cdv A outer s H vs Q E hr h => ?_)
    · obtain ⟨p, u, rfl, _⟩ := h
      rfl
    obtain ⟨p, u, rfl, hp, hn, hz, k⟩ := h
    have hu : (cxOf CX0 P w K mg base n_law_band "_law_band" (defScope s_law_band) (a__law_band K) cdv A outer s H E).nox.A.units + 65 < cLine := by
      have := hr.un
      exact Nat.lt_of_le_of_lt (Nat.add_le_add_left (by omega) _) (Nat.lt_of_le_of_lt (Nat.le_of_eq (Nat.add_assoc _ _ _).symm) this)
    refine ⟨_, pss_cons (ps_if (pt_cmpR (op_nil hr) (pv 0) (pe_lst pa_nil) (nomark _)) (pss_one (ps_ret (pe_lst pa_nil))) pss_nil)
      (pss_cons (ps_set (i := 1) c_law_band.nd rfl (.inl rfl) (pe_ix ix_list (e_call GD hr (by omega) (g__law_different T) (k__law_different T) (pa_cons (pv 0) pa_nil)) (pe_un un_neg pe_int) (fun _ _ => rfl)))
      (pss_cons (ps_set (i := 2) c_law_band.nd rfl (.inl rfl) (pe_ix ix_list (e_call GD hr (by omega) (g__law_different T) (k__law_different T) (pa_cons (pe_revL (pv 0)) pa_nil)) (pe_un un_neg pe_int) (fun _ _ => rfl)))
      (pss_cons (ps_set (i := 3) c_law_band.nd rfl (.inl rfl) (pe_op op_cat (e_call G hr (by omega) (g__law_band T) (k__law_band T) (pa_cons (pe_slice sl_list (pv 0) po_none (po_some (pe_bm PySem.F.plainAttrs_list PySem.F.slot_list_index PySem.F.type_list_index (mt_indexJ hu) (pv 0) (pa_cons (pv 1) pa_nil)))) pa_nil)) (pe_lst (pa_cons (pv 1) pa_nil))))
      (pss_cons (ps_set (i := 4) c_law_band.nd rfl (.inl rfl) (pe_op op_cat (pe_lst (pa_cons (pv 2) pa_nil)) (e_call G hr (by omega) (g__law_band T) (k__law_band T) (pa_cons (pe_slice sl_list (pv 0) (po_some (pe_sub (pe_callB call_len_seq (by rfl) (z_len T) PySem.boot_len (pa_cons (pv 0) pa_nil)) (pe_bm PySem.F.plainAttrs_list PySem.F.slot_list_index PySem.F.type_list_index (mt_indexJ hu) (pe_revL (pv 0)) (pa_cons (pv 2) pa_nil)))) po_none) pa_nil))))
      (pss_cons (ps_for PassesOwn.never rfl (pi_range3 (by rfl) (z_range T) (pa_cons (pe_callB (call_min2 rfl) (by rfl) (z_min T) (by decide +kernel) (pa_cons (pe_callB call_len_seq (by rfl) (z_len T) PySem.boot_len (pa_cons (pv 3) pa_nil)) (pa_cons (pe_callB call_len_seq (by rfl) (z_len T) PySem.boot_len (pa_cons (pv 4) pa_nil)) pa_nil))) (pa_cons pe_int (pa_cons (pe_un un_neg pe_int) pa_nil)))) (pg_name (i := 5) c_law_band.nd rfl (.inl rfl))
        (pss_one (ps_if (pt_cmpR (op_eqD hr.units) (pe_slice sl_list (pv 3) (po_some (pe_sub (pe_callB call_len_seq (by rfl) (z_len T) PySem.boot_len (pa_cons (pv 3) pa_nil)) (pv 5))) po_none) (pe_slice sl_list (pv 4) po_none (po_some (pv 5))) (nomark _))
          (pss_one (ps_ret (pe_op op_cat (pv 3) (pe_slice sl_list (pv 4) (po_some (pv 5)) po_none)))) pss_nil)))
      (pss_one (ps_ret (pe_op op_cat (pv 3) (pv 4))))))))), ?_⟩
    refine ⟨_, rfl, Nat.zero_le _, fun c nc => ?_⟩
    have sc := same_upd (o := .lst []) nc
    refine ⟨p, c, _, rfl, rfl, sc _ _ hp, upd_same, _, rfl, ?_⟩
    have dec : decide (u.map leafV = []) = decide (u = []) := decide_eq_decide.mpr List.map_eq_nil_iff
    rw [dec]
    by_cases hne : u = []
    · subst hne
      refine iteT ⟨Nat.zero_le _, fun t nt => ?_⟩
      exact k _ t (Same.upd sc nt) (Same.none sc nt) upd_same
    rw [decide_eq_false hne]
    generalize hH0 : upd H c (.lst []) = H0 at sc ⊢
    obtain ⟨r, a, hpre⟩ := exists_pre hne
    obtain ⟨s', b, hpre'⟩ := exists_pre (w := u.reverse) (by simpa using hne)
    have hsuf : IsSuf u b s'.reverse := by simpa using hpre'.rev
    have lr := hpre.len
    have lc : s'.length < u.length := by simpa using hpre'.len
    refine iteF ⟨_, rfl, p, u, rfl, sc _ _ hp, hz, fun H1 d1 s1 nd1 hd1 => ?_⟩
    have S1 : Same H H1 := fun b o e => s1 b o (sc b o e)
    refine ⟨_, rfl, d1, _, -1, _, rfl, rfl, SqL.of hd1, last_at (dfl_last hpre), ?_⟩
    refine ⟨_, rfl, p, _, rfl, SqL.of (S1 _ _ hp), fun c1 nc1 => ?_⟩
    have S2 : Same H (upd H1 c1 (.lst (u.map leafV).reverse)) := Same.upd S1 nc1
    refine ⟨c1, u.reverse, rfl, by rw [upd_same, ← List.map_reverse]; rfl, by simpa using hz, fun H2 d2 s2 nd2 hd2 => ?_⟩
    have S3 : Same H H2 := fun b o e => s2 b o (S2 b o e)
    refine ⟨_, rfl, d2, _, -1, _, rfl, rfl, SqL.of hd2, last_at (dfl_last hpre'), ?_⟩
    /- the head -/
    have ip := pre_index hpre
    have lu' : (u.map leafV).length = u.length := by simp
    refine ⟨_, rfl, _, rfl, .inl ⟨rfl, _, SqL.of (S3 _ _ hp)⟩, _, rfl, ?_⟩
    refine idx_leaf (S3 _ _ hp) ip.1 ip.2.1 ?_
    refine ⟨_, rfl, p, _, rfl, SqL.of (S3 _ _ hp), fun c3 nc3 => ?_⟩
    rw [cut_take (by rw [lu']; omega), ← List.map_take, ip.2.2]
    have S4 : Same H (upd H2 c3 (.lst (r.map leafV))) := Same.upd S3 nc3
    refine ⟨c3, r, rfl, upd_same, by omega, by omega, fun H3 d3 s3 nd3 hd3 => ?_⟩
    have S5 : Same H H3 := fun b o e => s3 b o (S4 b o e)
    have b1 := band_len30 r
    have b2 := band_len30 s'.reverse
    have l1 : ((band r).map leafV).length = (band r).length := by simp
    have l2 : ((band s'.reverse).map leafV).length = (band s'.reverse).length := by simp
    refine ⟨_, rfl, (by show 1 ≤ sizeLine; decide), fun g ng => ?_⟩
    have S6 := Same.upd (o := .lst [leafV a]) S5 ng
    refine ⟨d3, g, _, _, rfl, rfl, same_upd ng _ _ hd3, upd_same, by rw [l1]; exact small_len (by simp; omega), fun h0 nh0 => ?_⟩
    have hh : (upd (upd H3 g (.lst [leafV a])) h0 (.lst ((band r).map leafV ++ [leafV a]))) h0 = some (lst (band r ++ [a])) := by
      rw [upd_same]
      simp [lst]
    have S7 := Same.upd (o := .lst ((band r).map leafV ++ [leafV a])) S6 nh0
    generalize upd (upd H3 g (.lst [leafV a])) h0 (.lst ((band r).map leafV ++ [leafV a])) = H4 at hh S7 ⊢
    /- the rear -/
    refine ⟨_, rfl, (by show 1 ≤ sizeLine; decide), fun g2 ng2 => ?_⟩
    have hg2 : (upd H4 g2 (.lst [leafV b])) g2 = some (.lst [leafV b]) := upd_same
    have hh5 := same_upd ng2 (o := .lst [leafV b]) _ _ hh
    have S8 := Same.upd (o := .lst [leafV b]) S7 ng2
    generalize upd H4 g2 (.lst [leafV b]) = H5 at hg2 hh5 S8 ⊢
    refine ⟨_, rfl, _, rfl, p, _, rfl, .inl (SqL.of (S8 _ _ hp)), ?_⟩
    refine ⟨_, rfl, p, _, rfl, SqL.of (S8 _ _ hp), fun c4 nc4 => ?_⟩
    have hc4 : (upd H5 c4 (.lst (u.map leafV).reverse)) c4 = some (lst u.reverse) := by
      rw [upd_same, ← List.map_reverse]
      rfl
    have s9 := same_upd (o := .lst (u.map leafV).reverse) nc4
    have S9 := Same.upd (o := .lst (u.map leafV).reverse) S8 nc4
    generalize upd H5 c4 (.lst (u.map leafV).reverse) = H6 at hc4 s9 S9 ⊢
    have iq := pre_index hpre'
    refine ⟨.inl ⟨rfl, _, SqL.of hc4⟩, _, rfl, ?_⟩
    refine idx_leaf hc4 iq.1 iq.2.1 ?_
    refine ⟨_, _, rfl, rfl, _, rfl, p, _, rfl, SqL.of (S9 _ _ hp), fun c5 nc5 => ?_⟩
    have ed := suf_drop hsuf
    rw [List.length_reverse] at ed
    rw [lu', show ((u.length : Int) - (s'.length : Int)) = ((u.length - s'.length : Nat) : Int) by omega, cut_drop (by rw [lu']; omega), ← List.map_drop, ed]
    have s10 := same_upd (o := .lst (s'.reverse.map leafV)) nc5
    have S10 := Same.upd (o := .lst (s'.reverse.map leafV)) S9 nc5
    refine ⟨c5, s'.reverse, rfl, upd_same, by simp; omega, by simp; omega, fun H7 d4 s11 nd4 hd4 => ?_⟩
    have S11 : Same H H7 := fun b o e => s11 b o (S10 b o e)
    have hg7 : H7 g2 = some (.lst [leafV b]) := s11 _ _ (s10 _ _ (s9 _ _ hg2))
    have hh7 : H7 h0 = some (lst (band r ++ [a])) := s11 _ _ (s10 _ _ (s9 _ _ hh5))
    refine ⟨g2, d4, _, _, rfl, rfl, hg7, hd4, by rw [l2]; exact small_len (by simp; omega), fun h2 nh2 => ?_⟩
    have hw : (upd H7 h2 (.lst ([leafV b] ++ (band s'.reverse).map leafV))) h2 = some (lst (b :: band s'.reverse)) := upd_same
    have hv := same_upd nh2 (o := .lst ([leafV b] ++ (band s'.reverse).map leafV)) _ _ hh7
    have S12 := Same.upd (o := .lst ([leafV b] ++ (band s'.reverse).map leafV)) S11 nh2
    generalize upd H7 h2 (.lst ([leafV b] ++ (band s'.reverse).map leafV)) = H8 at hw hv S12 ⊢
    have e : band u = merged (band r ++ [a]) (b :: band s'.reverse) := band_eq hpre hsuf
    have lU : (band r ++ [a]).length ≤ 31 := by simp; omega
    have lV : (b :: band s'.reverse).length ≤ 31 := by simp; omega
    rw [e] at k
    generalize band r ++ [a] = U at hv lU k ⊢
    generalize b :: band s'.reverse = V at hw lV k ⊢
    have lU' : (U.map leafV).length = U.length := by simp
    have lV' : (V.map leafV).length = V.length := by simp
    refine ⟨_, rfl, h0, _, rfl, .inl (SqL.of hv), _, rfl, h2, _, rfl, .inl (SqL.of hw), _, _, rfl, _, rfl, ?_⟩
    rw [lU', lV']
    have em : (if (V.length : Int) < (U.length : Int) then (V.length : Int) else (U.length : Int)) = ((min U.length V.length : Nat) : Int) := by
      split <;> omega
    rw [em]
    have e0 : merged U V = mergeK U V (min U.length V.length) := rfl
    have mu : min U.length V.length ≤ U.length := by omega
    have mv : min U.length V.length ≤ V.length := by omega
    generalize min U.length V.length = m at e0 mu mv ⊢
    refine ⟨_, _, _, _, rfl, RgC.neg (by omega) (by omega) (by omega) (by omega), ?_⟩
    have mm : ((m : Int) - 0).toNat = m := by omega
    rw [mm]
    refine for_it walk_rangeC (fun i σ H' => Same H H' ∧ H' h0 = some (lst U) ∧ H' h2 = some (lst V) ∧ i ≤ m ∧ merged U V = mergeK U V (m - i) ∧ ∃ x, σ = [some (.ref p), some (leafV a), some (leafV b), some (.ref h0), some (.ref h2), x])
      ⟨S12, hv, hw, Nat.zero_le _, e0, _, rfl⟩ (fun _ _ _ _ _ => trivial) ?_ ?_
    · rintro i x σ Ha Hb hi ⟨s1', hU, hV, im, ek, x0, rfl⟩ ⟨rfl, hx⟩
      obtain ⟨j, hk⟩ : ∃ j, m - i = j + 1 := ⟨m - i - 1, by omega⟩
      rw [hk] at ek
      have hx : x = L2.V.int ((j + 1 : Nat) : Int) := hx.trans (congrArg L2.V.int (by omega))
      subst hx
      have ju : j + 1 ≤ U.length := by omega
      have jv : j + 1 ≤ V.length := by omega
      refine ⟨_, rfl, _, rfl, h0, _, rfl, .inl (SqL.of hU), _, rfl, _, _, rfl, rfl, _, rfl, h0, _, rfl, SqL.of hU, fun c nc => ?_⟩
      have hV2 : ∀ o, (upd Hb c o) h2 = some (lst V) := fun o => same_upd nc _ _ hV
      refine ⟨_, rfl, _, rfl, _, rfl, h2, _, rfl, SqL.of (hV2 _), fun d nd => ?_⟩
      rw [lU', show ((U.length : Int) - ((j + 1 : Nat) : Int)) = ((U.length - (j + 1) : Nat) : Int) by omega, cut_drop (by rw [lU']; omega), cut_take (by rw [lV']; exact jv), ← List.map_drop, ← List.map_take, ← leaf_map, ← leaf_map]
      rw [lU', show ((U.length : Int) - ((j + 1 : Nat) : Int)) = ((U.length - (j + 1) : Nat) : Int) by omega, cut_drop (by rw [lU']; omega), ← List.map_drop, ← leaf_map] at nd
      refine ⟨_, _, dp_tx (SqL.of (by rw [upd_ne (ne_of_none (upd_same (o := _)) nd), upd_same])), dp_tx (SqL.of upd_same), shaped_leaf _, shaped_leaf _, _, rfl, ?_⟩
      rw [eqv_tx]
      have ed : decide ((U.drop (U.length - (j + 1))).map leafS = (V.take (j + 1)).map leafS) = decide (U.drop (U.length - (j + 1)) = V.take (j + 1)) := decide_eq_decide.mpr ⟨leafS_map_inj, fun z => by rw [z]⟩
      rw [ed]
      generalize hH : upd (upd Hb c _) d _ = H3
      have s4 : Same Hb H3 := by
        rw [← hH]
        exact Same.upd (same_upd nc) nd
      have S4 : Same H H3 := fun b o x => s4 b o (s1' b o x)
      by_cases hb : U.drop (U.length - (j + 1)) = V.take (j + 1)
      · rw [decide_eq_true hb]
        refine iteT ⟨_, rfl, _, rfl, _, rfl, _, rfl, h2, _, rfl, SqL.of (s4 _ _ hV), fun e ne => ?_⟩
        refine ⟨h0, e, U.map leafV, _, rfl, rfl, same_upd ne _ _ (s4 _ _ hU), upd_same, ?_, fun t nt => ?_⟩
        · rw [lU', cut_drop (by rw [lV']; exact jv), List.length_drop, lV']
          exact small_len (by omega)
        · have em : merged U V = U ++ V.drop (j + 1) := by rw [ek, mergeK, if_pos hb]
          refine k _ t (Same.upd (Same.upd S4 ne) nt) (Same.none (Same.upd S4 ne) nt) ?_
          rw [upd_same, em, cut_drop (by rw [lV']; exact jv), ← List.map_drop, ← List.map_append]
          rfl
      · rw [decide_eq_false hb]
        refine iteF ⟨S4, s4 _ _ hU, s4 _ _ hV, by omega, ?_, _, rfl⟩
        rw [ek, mergeK, if_neg hb]
        congr 1
        omega
    · rintro σ Ha ⟨s1', hU, hV, im, ek, x0, rfl⟩
      rw [Nat.sub_self, mergeK] at ek
      refine ⟨_, rfl, _, rfl, h0, h2, _, _, rfl, rfl, hU, hV, by rw [lU', lV']; exact small_len (by omega), fun t nt => ?_⟩
      refine k _ t (Same.upd s1' nt) (Same.none s1' nt) ?_
      rw [upd_same, ek]
      simp [lst]
end
end NL
set_option Elab.async false
set_option linter.all false
set_option maxRecDepth 100000
set_option maxHeartbeats 8000000
/-! the law's own word form. -/
namespace NL
open PySem PySem.Spec PyProof.Rows L2 SX LamX
section
variable {P : Program} {w : World} {K : PySem.W.Frag} {mg : Str → Option Value} {base : Heap}
theorem suffA {G : Prop} {A : Addr → Hp → Prop} {M : Addr → Hp → Prop} (f : (∀ d H2, A d H2 → M d H2) → G) (h : ∀ d H2, A d H2 → M d H2) : G := f h
def pm_lwf : Pm := fun vs H Q => ∃ p u R, vs = [.ref p, .str (S (RS.txt R))] ∧ H p = some (lst u) ∧ u ≠ [] ∧ u.length ≤ 60 ∧ ∀ H', Same H H' → Q (.str (S (jn (wform R u)))) H'
theorem ok_lwf (T : Txt K mg) : Ok P w K mg base 64 (a__law_word_form K) pm_lwf := by
  have GD : Ok P w K mg base 1 (a__law_different K) pm_ldiff := ok_ldiff T
  have GB : Ok P w K mg base 63 (a__law_band K) (pm_lband 61) := ok_lband T 61
  refine ok_of (F__law_word_form T) c_law_word_form b__law_word_form (fun vs H Q h => ?_) (fun cdv A outer s H vs Q E hr h => ?_)
  · obtain ⟨p, u, R, rfl, _⟩ := h
    rfl
  obtain ⟨p, u, R, rfl, hp, hne, hz, k⟩ := h
  refine ⟨_, pss_cons (ps_if (PW.pt (pw_and (pt_cmpR op_in_sign pe_str (pv 1) (by rfl)) (pw_and1 (pt_cmpR op_in_seq pe_str (pv 0) (by rfl))))) (pss_one (ps_ret pe_str)) pss_nil)
    (pss_cons (ps_if (pt_cmpR op_in_sign pe_str (pv 1) (by rfl))
      (pss_one (ps_setLc (i := 0) (own := [("_law_leaf", 2)]) (g := gName 2) rfl c_law_word_form.nd rfl rfl rfl (pi_list (pv 0)) (blkOk_by (N := n_law_word_form) (sc := defScope s_law_word_form) (by decide +kernel))
        (fun _ _ _ _ _ => pg_name (i := 2) c_law_word_form.nd rfl (Or.inl rfl)) (fun _ _ _ _ _ => pts_one (pt_cmpR op_ne (pv 2) pe_str (nomark _))) (fun _ _ _ _ _ => pv 2))) pss_nil)
    (pss_cons (ps_if (pt_cmpR (op_nil hr) (pv 0) (pe_lst pa_nil) (nomark _)) (pss_one (ps_ret pe_str)) pss_nil)
    (pss_cons (ps_if (pt_cmpR op_in_sign pe_str (pv 1) (by rfl)) (pss_one (ps_set (i := 0) c_law_word_form.nd rfl (.inl rfl) (pe_callB cr_sortedS (by rfl) (z_sorted T) (by decide +kernel) (pa_cons (pv 0) pa_nil)))) pss_nil)
    (pss_cons (ps_if (PW.pt (pw_and (pt_cmpR op_in_sign pe_str (pv 1) (by rfl)) (pw_and1 (pt_cmpR op_in_sign pe_str (pv 1) (by rfl)))))
      (pss_one (ps_set (i := 0) c_law_word_form.nd rfl (.inl rfl) (e_call GD hr (by omega) (g__law_different T) (k__law_different T) (pa_cons (pv 0) pa_nil))))
      (pss_one (ps_if (pt_cmpR op_in_sign pe_str (pv 1) (by rfl))
        (pss_one (ps_set (i := 0) c_law_word_form.nd rfl (.inl rfl) (e_call GB hr (by omega) (g__law_band T) (k__law_band T) (pa_cons (pv 0) pa_nil)))) pss_nil)))
    (pss_one (ps_ret (pe_join pe_str (pv 0)))))))), ?_⟩
  have sz : ("z" : Str) = leafS .z := by decide +kernel
  have se : ("e" : Str) = leafS .e := by decide +kernel
  have sm : ∀ {H' : Hp} {p' : Addr} {v : List L}, H' p' = some (lst v) → SqL K H' p' ((v.map leafS).map V.str) := fun h => SqL.of (by rw [leaf_map]; exact h)
  refine ⟨_, rfl, 90, _, by rw [cZ], rfl, ?_⟩
  rw [S_cps, has_z]
  refine ⟨_, rfl, ?_⟩
  by_cases h1 : R.z = true ∧ L.z ∈ u
  · rw [h1.1]
    refine iteT ⟨_, rfl, p, _, rfl, .inl (SqL.of hp), rfl, flat_lf _, ?_⟩
    rw [if_neg Bool.false_ne_true, sz, show inV (.str (leafS .z)) (u.map leafV) = decide (L.z ∈ u) from in_lf, decide_eq_true h1.2]
    refine ⟨_, rfl, iteT ?_⟩
    have kk := k H (Same.refl H)
    unfold wform at kk
    rw [if_pos h1] at kk
    exact kk
  have kk : ∀ H', Same H H' → Q (.str (S (jn (if R.u = true then (if noE u = [] then [.e] else core R (noE u)) else core R u)))) H' := fun H' s1 => by
    have := k H' s1
    unfold wform at this
    rw [if_neg h1] at this
    exact this
  refine' suff (fun hN => ?goA) ?goB
  case goA =>
    cases hz : R.z with
    | false => exact iteF (iteF hN)
    | true =>
      refine iteT ⟨_, rfl, p, _, rfl, .inl (SqL.of hp), rfl, flat_lf _, ?_⟩
      rw [if_neg Bool.false_ne_true, sz, show inV (.str (leafS .z)) (u.map leafV) = decide (L.z ∈ u) from in_lf, decide_eq_false fun q => h1 ⟨hz, q⟩]
      exact ⟨_, rfl, iteF hN⟩
  case goB =>
  refine ⟨_, rfl, 85, _, by rw [cU], rfl, ?_⟩
  rw [S_cps, has_u]
  refine ⟨_, rfl, ?_⟩
  refine' suffA (A := fun d H2 => Same H H2 ∧ H2 d = some (lst (if R.u = true then noE u else u))) (fun hN => ?goA) ?goB
  case goA =>
    by_cases hu' : R.u = true
    case pos =>
      rw [hu']
      refine iteT ⟨_, rfl, p, rfl, ⟨_, SqL.of hp⟩, fun D hD => ?_⟩
      refine lc_pure (walk_list (K := K) (a := p) (xs := u.map leafV)) (u.map fun x => if decide (x ≠ L.e) = true then some (leafV x) else none) (by simp) (by simp; omega) hD (fun H2 s2 => SqL.of (s2 _ _ hp)) ?_ ?_
      · intro i x o H2 R1 R0 hx ho s2 kR k0
        obtain ⟨y, e1, rfl⟩ := map_at' hx
        obtain ⟨y', e2, rfl⟩ := map_at' ho
        rw [e1] at e2
        cases e2
        refine ⟨rfl, _, rfl, rfl, _, rfl, ?_⟩
        have e : (!decide (leafV y = V.str ("e" : Str))) = decide (y ≠ L.e) := by
          rw [se]
          cases y <;> decide +kernel
        rw [e]
        cases hb : decide (y ≠ L.e) with
        | true => exact iteT ⟨_, rfl, kR _ _ (if_pos hb) (Same.refl _)⟩
        | false => exact iteF (k0 _ (if_neg (by rw [hb]; simp)) (Same.refl _))
      intro H2 s2 h2
      rw [filt_map (fun x : L => decide (x ≠ L.e))] at h2
      exact hN D H2 ⟨s2, by rw [if_pos hu']; exact h2⟩
    case neg =>
      rw [Bool.eq_false_iff.mpr hu']
      exact iteF (hN p H ⟨Same.refl H, by rw [if_neg hu']; exact hp⟩)
  case goB =>
  clear hp
  rintro q1 H1 ⟨s1, hp⟩
  have kz : (noE u).length ≤ u.length := List.length_filter_le _ _
  have kv : ∀ H', Same H H' → (if R.u = true then noE u else u) ≠ [] → Q (.str (S (jn (core R (if R.u = true then noE u else u))))) H' := fun H' s1 hv => by
    have := kk H' s1
    split at this
    · rename_i h
      rw [if_pos h] at hv ⊢
      rw [if_neg hv] at this
      exact this
    · rename_i h
      rw [if_neg h]
      exact this
  have ke : ∀ H', Same H H' → (if R.u = true then noE u else u) = [] → Q (.str (S (jn [L.e]))) H' := fun H' s1 hv => by
    have := kk H' s1
    split at this
    · rename_i h
      rw [if_pos h] at hv
      rw [if_pos hv] at this
      exact this
    · rename_i h
      rw [if_neg h] at hv
      exact absurd hv hne
  have lv : (if R.u = true then noE u else u).length ≤ 60 := by
    split <;> omega
  clear kk k h1 hz hne kz
  generalize (if R.u = true then noE u else u) = v at hp kv ke lv ⊢
  refine ⟨_, rfl, Nat.zero_le _, fun c nc => ?_⟩
  have hpc := same_upd (o := .lst []) nc _ _ hp
  refine ⟨q1, c, _, rfl, rfl, hpc, upd_same, _, rfl, ?_⟩
  have S2 := Same.upd (o := .lst []) s1 nc
  have dec : decide (v.map leafV = []) = decide (v = []) := decide_eq_decide.mpr List.map_eq_nil_iff
  rw [dec]
  generalize upd H1 c (.lst []) = H2 at hpc S2 ⊢
  by_cases hv : v = []
  · rw [decide_eq_true hv]
    exact iteT (ke H2 S2 hv)
  rw [decide_eq_false hv]
  refine iteF ?_
  have kv : ∀ H', Same H H' → Q (.str (S (jn (core R v)))) H' := fun H' s1 => kv H' s1 hv
  clear ke hp nc s1
  refine ⟨_, rfl, 67, _, by rw [cC], rfl, ?_⟩
  rw [S_cps, has_c]
  refine ⟨_, rfl, ?_⟩
  refine' suffA (A := fun d H2 => Same H H2 ∧ H2 d = some (lst (if R.c = true then sortL v else v))) (fun hN => ?goA) ?goB
  case goA =>
    by_cases hc : R.c = true
    case pos =>
      rw [hc]
      refine iteT ⟨_, rfl, q1, v.map leafS, rfl, sm hpc, by rw [List.length_map]; omega, fun ys d pm so nd => ?_⟩
      refine hN d _ ⟨Same.upd S2 nd, ?_⟩
      have e : ys = (sortL v).map leafS := sorted_uniq (rising so) (sortL_sorted v) (pm.trans ((perm_sortL v).map leafS))
      rw [if_pos hc, upd_same, e, leaf_map]
      rfl
    case neg =>
      rw [Bool.eq_false_iff.mpr hc]
      exact iteF (hN q1 H2 ⟨S2, by rw [if_neg hc]; exact hpc⟩)
  case goB =>
  clear hpc S2
  rintro q2 H3 ⟨s3, hp⟩
  refine ⟨_, rfl, 67, _, by rw [cC], rfl, ?_⟩
  rw [S_cps, has_c]
  refine ⟨_, rfl, ?_⟩
  refine' suffA (A := fun d H2 => Same H H2 ∧ H2 d = some (lst (core R v))) (fun hN => ?goA) ?goB
  case goA =>
    have lS := (perm_sortL v).length_eq
    by_cases hc : R.c = true
    case pos =>
      rw [if_pos hc] at hp
      rw [hc]
      refine iteT ⟨_, rfl, 73, _, by rw [cI], rfl, ?_⟩
      rw [S_cps, has_i]
      refine ⟨_, rfl, ?_⟩
      by_cases hi : R.i = true
      case pos =>
        rw [hi]
        refine iteT ⟨_, rfl, q2, _, rfl, hp, by omega, fun H4 d s4 nd hd => ?_⟩
        rw [dfl_sorted] at hd
        exact hN d H4 ⟨fun b o e => s4 b o (s3 b o e), by unfold core; rw [if_pos ⟨hc, hi⟩]; exact hd⟩
      case neg =>
        rw [Bool.eq_false_iff.mpr hi]
        refine iteF ⟨_, rfl, 73, _, by rw [cI], rfl, ?_⟩
        rw [S_cps, has_i, Bool.eq_false_iff.mpr hi]
        exact ⟨_, rfl, iteF (hN q2 H3 ⟨s3, by unfold core; rw [if_neg (fun z => hi z.2), if_pos hc]; exact hp⟩)⟩
    case neg =>
      rw [if_neg hc] at hp
      rw [Bool.eq_false_iff.mpr hc]
      refine iteF (iteF ⟨_, rfl, 73, _, by rw [cI], rfl, ?_⟩)
      rw [S_cps, has_i]
      refine ⟨_, rfl, ?_⟩
      by_cases hi : R.i = true
      case pos =>
        rw [hi]
        refine iteT ⟨_, rfl, q2, _, rfl, hp, by omega, by omega, fun H4 d s4 nd hd => ?_⟩
        exact hN d H4 ⟨fun b o e => s4 b o (s3 b o e), by unfold core; rw [if_neg (fun z => hc z.1), if_neg hc, if_pos hi]; exact hd⟩
      case neg =>
        rw [Bool.eq_false_iff.mpr hi]
        exact iteF (hN q2 H3 ⟨s3, by unfold core; rw [if_neg (fun z => hc z.1), if_neg hc, if_neg hi]; exact hp⟩)
  case goB =>
  clear hp
  rintro q3 H4 ⟨s4, hp⟩
  have lw := core_len (R := R) lv
  refine ⟨⟨_, rfl⟩, _, rfl, _, q3, (core R v).map leafS, rfl, rfl, .inl (sm hp), ?_, ?_⟩
  · have e : ∀ v : List L, ((v.map leafS).map (·.length)).sum = v.length := fun v => by
      induction v with
      | nil => rfl
      | cons x v ih => rw [List.map_cons, List.map_cons, List.sum_cons, ih]; show (leafS x).length + _ = _; rw [show (leafS x).length = 1 from by unfold leafS; rw [S_len]; rfl]; simp; omega
    have e1 : (" " : Str).length = 1 := by decide +kernel
    rw [e, e1, List.length_map]
    omega
  · rw [join_leaf]
    exact kv H4 s4
end
end NL
set_option Elab.async false
set_option linter.all false
set_option maxRecDepth 100000
set_option maxHeartbeats 8000000
/-! the law's own tree form. -/
namespace NL
open PySem PySem.Spec PyProof.Rows L2 SX LamX
theorem txt_low : ∀ t : Tree, ∀ c ∈ t.txt, c < 128
  | .lf x, c, h => by cases x <;> · simp [Tree.txt, L.code] at h; omega
  | .nd a b, c, h => by
    simp only [Tree.txt, List.mem_cons, List.mem_append, List.not_mem_nil, or_false] at h
    have ha := txt_low a c
    have hb := txt_low b c
    (repeat' (rcases h with h | h)) <;> first | omega | exact ha h | exact hb h
theorem lay_txt (t : Tree) : PyData.canLay0 (.str (S t.txt)) = true := by
  unfold PyData.canLay0 PyData.strOk
  have : (S t.txt).cps = t.txt.toArray := by
    apply Array.toList_inj.mp
    rw [S_cps]
  rw [this]
  simp only [List.all_toArray, List.all_eq_true, decide_eq_true_eq]
  exact fun c h => Nat.lt_trans (txt_low t c h) (by decide)
section
variable {P : Program} {w : World} {K : PySem.W.Frag} {mg : Str → Option Value} {base : Heap}
theorem idx_tx {H : Hp} {p : Addr} {l : List Tree} {j : Nat} {t : Tree} {Q : VK} (hp : H p = some (txL l)) (h1 : l[j]? = some t) (h2 : ∀ m, m < j → l[m]? ≠ some t) (q : Q (.int (j : Nat)) H) : rIndexJ K (.ref p) [txV t] H Q := by
  rw [rIndexJ_eq]
  have e : (l.map fun t => S t.txt).map V.str = l.map txV := by
    rw [List.map_map]
    rfl
  refine ⟨p, txV t, .str (S t.txt), (l.map fun t => S t.txt).map PyData.str, j, .str (S t.txt), rfl, rfl, dp_tx (SqL.of (by rw [e]; exact hp)), .str _, shaped_tx fun x hx => ?_, ?_, by simp [h1], by simp [PyData.eqv], fun m z' hm hz => ?_, q⟩
  · obtain ⟨y, _, rfl⟩ := List.mem_map.mp hx
    exact lay_txt y
  · unfold SeqAt.shaped
    rw [lay_txt]
    rfl
  rw [List.map_map, List.getElem?_map] at hz
  cases hy : l[m]? with
  | none =>
    rw [hy] at hz
    cases hz
  | some y =>
    rw [hy] at hz
    cases hz
    have : S y.txt ≠ S t.txt := fun e => h2 m hm (by rw [hy, Tree.txt_inj (S_inj e)])
    simp [PyData.eqv, this]
def pm_ltf (n : Nat) : Pm := fun vs H Q => ∃ v t R, vs = [v, .str (S (RS.txt R))] ∧ LT H v t ∧ t.depth < n ∧ t.size ≤ 60 ∧ ∀ H', Same H H' → Q (.str (S (tform R t).txt)) H'
theorem ok_ltf (T : Txt K mg) : ∀ n : Nat, Ok P w K mg base (n + 1) (a__law_tree_form K) (pm_ltf n)
  | 0 => no_calls fun vs H Q ⟨_, _, _, _, _, h, _⟩ => Nat.not_lt_zero _ h
  | n + 1 => by
    have G := ok_ltf T n
    refine ok_of (F__law_tree_form T) c_law_tree_form b__law_tree_form (fun vs H Q h => ?_) (fun cdv A outer s H vs Q E hr h => ?_)
    · obtain ⟨v, t, R, rfl, _⟩ := h
      rfl
    obtain ⟨v, t, R, rfl, ht, hd, hs, k⟩ := h
    have hu : (cxOf CX0 P w K mg base n_law_tree_form "_law_tree_form" (defScope s_law_tree_form) (a__law_tree_form K) cdv A outer s H E).nox.A.units + 65 < cLine := by
      have := hr.un
      exact Nat.lt_of_le_of_lt (Nat.add_le_add_left (by omega) _) (Nat.lt_of_le_of_lt (Nat.le_of_eq (Nat.add_assoc _ _ _).symm) this)
    refine ⟨_, pss_cons (ps_if (pt_val (pe_callB call_isj (by rfl) (z_isinstance T) (by decide +kernel) (pa_cons (pv 0) (pa_cons (pe_bltn (v := .ty "str") rfl (z_str T) (by decide +kernel) rfl) pa_nil)))) (pss_one (ps_ret (pv 0))) pss_nil)
      (pss_cons (ps_set (i := 2) c_law_tree_form.nd rfl (.inl rfl) (pe_lst (pa_cons (e_call G hr (by omega) (g__law_tree_form T) (k__law_tree_form T) (pa_cons (pe_ix ix_tup (pv 0) pe_int (fun _ _ => rfl)) (pa_cons (pv 1) pa_nil))) (pa_cons (e_call G hr (by omega) (g__law_tree_form T) (k__law_tree_form T) (pa_cons (pe_ix ix_tup (pv 0) pe_int (fun _ _ => rfl)) (pa_cons (pv 1) pa_nil))) pa_nil))))
      (pss_cons (ps_if (PW.pt (pw_and (pt_cmpR op_in_sign pe_str (pv 1) (by rfl)) (pw_and1 (pt_cmpR op_in_seq pe_str (pv 2) (by rfl))))) (pss_one (ps_ret pe_str)) pss_nil)
      (pss_cons (ps_if (PW.pt (pw_and (pt_cmpR op_in_sign pe_str (pv 1) (by rfl)) (pw_and1 (pt_cmpR op_in_seq pe_str (pv 2) (by rfl))))) (pss_one (ps_ret (pe_ix ix_list (pv 2) (pe_sub pe_int (pe_bm PySem.F.plainAttrs_list PySem.F.slot_list_index PySem.F.type_list_index (mt_indexJ hu) (pv 2) (pa_cons pe_str pa_nil))) (fun _ _ => rfl)))) pss_nil)
      (pss_cons (ps_if (PW.pt (pw_and (pt_cmpR op_in_sign pe_str (pv 1) (by rfl)) (pw_and1 (pt_cmpR op_eq (pe_ix ix_list (pv 2) pe_int (fun _ _ => rfl)) (pe_ix ix_list (pv 2) pe_int (fun _ _ => rfl)) (nomark _))))) (pss_one (ps_ret (pe_ix ix_list (pv 2) pe_int (fun _ _ => rfl)))) pss_nil)
      (pss_cons (ps_if (pt_cmpR op_in_sign pe_str (pv 1) (by rfl)) (pss_one (ps_set (i := 2) c_law_tree_form.nd rfl (.inl rfl) (pe_callB cr_sortedS (by rfl) (z_sorted T) (by decide +kernel) (pa_cons (pv 2) pa_nil)))) pss_nil)
      (pss_one (ps_ret (pe_op op_add_str (pe_op op_add_str (pe_op op_add_str (pe_op op_add_str pe_str (pe_ix ix_list (pv 2) pe_int (fun _ _ => rfl))) pe_str) (pe_ix ix_list (pv 2) pe_int (fun _ _ => rfl))) pe_str)))))))), ?_⟩
    cases t with
    | lf x =>
      obtain rfl : v = leafV x := ht
      refine ⟨_, rfl, ?_⟩
      refine isStr_lf ?_
      exact ⟨_, rfl, iteT ⟨_, rfl, k H (Same.refl H)⟩⟩
    | nd a b =>
      obtain ⟨p, x, y, rfl, hp, hx, hy⟩ := ht
      have hd' : max a.depth b.depth + 1 < n + 1 := hd
      have hs' : a.size + b.size ≤ 60 := hs
      refine ⟨_, rfl, ?_⟩
      refine isStr_nd hp ?_
      refine ⟨_, rfl, iteF ?_⟩
      refine ⟨_, rfl, p, _, 0, x, rfl, rfl, SqT.of hp, atI_nat (j := 0) rfl, _, rfl, x, a, R, rfl, hx, by omega, by omega, fun H1 s1 => ?_⟩
      refine ⟨_, rfl, p, _, 1, y, rfl, rfl, SqT.of (s1 _ _ hp), atI_nat (j := 1) rfl, _, rfl, y, b, R, rfl, hy.gr (.of s1), by omega, by omega, fun H2 s2 => ?_⟩
      refine ⟨(by show 2 ≤ sizeLine; decide), fun l nl => ?_⟩
      have s3 : Same H (upd H2 l (.lst [.str (S (tform R a).txt), .str (S (tform R b).txt)])) := Same.upd (fun b o e => s2 b o (s1 b o e)) nl
      have hl : (upd H2 l (.lst [.str (S (tform R a).txt), .str (S (tform R b).txt)])) l = some (txL [tform R a, tform R b]) := upd_same
      generalize upd H2 l (.lst [.str (S (tform R a).txt), .str (S (tform R b).txt)]) = H3 at s3 hl ⊢
      have fs := tform_size R a
      have gs := tform_size R b
      have kk : ∀ H', Same H H' → Q (.str (S (joinF R (tform R a) (tform R b)).txt)) H' := k
      clear k
      generalize tform R a = f at fs kk hl ⊢
      generalize tform R b = g at gs kk hl ⊢
      have lf := f.txt_len
      have lg := g.txt_len
      unfold joinF at kk
      have dz : inV (.str ("z" : Str)) ([f, g].map txV) = decide (Tree.lf .z ∈ [f, g]) := by rw [cz]; exact in_txV
      have de : inV (.str ("e" : Str)) ([f, g].map txV) = decide (Tree.lf .e ∈ [f, g]) := by rw [ce]; exact in_txV
      refine ⟨_, rfl, 90, _, by rw [cZ], rfl, ?_⟩
      rw [S_cps, has_z]
      refine ⟨_, rfl, ?_⟩
      by_cases h1 : R.z = true ∧ (f = .lf .z ∨ g = .lf .z)
      · rw [if_pos h1, ← cz] at kk
        rw [h1.1]
        refine iteT ⟨_, rfl, l, _, rfl, .inl (SqL.of hl), rfl, flat_tx _, ?_⟩
        rw [if_neg Bool.false_ne_true, dz, decide_eq_true (by rcases h1.2 with e | e <;> simp [e])]
        exact ⟨_, rfl, iteT (kk H3 s3)⟩
      rw [if_neg h1] at kk
      refine' suff (fun hN => ?goA) ?goB
      case goA =>
        by_cases hz : R.z = true
        case neg =>
          rw [Bool.eq_false_iff.mpr hz]
          exact iteF (iteF hN)
        case pos =>
          rw [hz]
          refine iteT ⟨_, rfl, l, _, rfl, .inl (SqL.of hl), rfl, flat_tx _, ?_⟩
          rw [if_neg Bool.false_ne_true, dz, decide_eq_false (fun q => h1 ⟨hz, by simpa [eq_comm] using q⟩)]
          exact ⟨_, rfl, iteF hN⟩
      case goB =>
      refine ⟨_, rfl, 85, _, by rw [cU], rfl, ?_⟩
      rw [S_cps, has_u]
      refine ⟨_, rfl, ?_⟩
      by_cases h2 : R.u = true ∧ f = .lf .e
      · rw [if_pos h2] at kk
        rw [h2.1]
        refine iteT ⟨_, rfl, l, _, rfl, .inl (SqL.of hl), rfl, flat_tx _, ?_⟩
        rw [if_neg Bool.false_ne_true, de, decide_eq_true (by simp [h2.2])]
        refine ⟨_, rfl, iteT ⟨_, rfl, _, rfl, .inl ⟨rfl, _, SqL.of hl⟩, ?_⟩⟩
        rw [ce]
        refine idx_tx (j := 0) hl (by rw [h2.2]; rfl) (fun m hm => absurd hm (Nat.not_lt_zero _)) ?_
        refine ⟨_, _, rfl, rfl, l, _, 1, _, rfl, rfl, SqL.of hl, atI_nat (j := 1) rfl, ?_⟩
        exact kk H3 s3
      rw [if_neg h2] at kk
      by_cases h3 : R.u = true ∧ g = .lf .e
      · rw [if_pos h3] at kk
        rw [h3.1]
        refine iteT ⟨_, rfl, l, _, rfl, .inl (SqL.of hl), rfl, flat_tx _, ?_⟩
        rw [if_neg Bool.false_ne_true, de, decide_eq_true (by simp [h3.2])]
        refine ⟨_, rfl, iteT ⟨_, rfl, _, rfl, .inl ⟨rfl, _, SqL.of hl⟩, ?_⟩⟩
        rw [ce]
        refine idx_tx (j := 1) hl (by rw [h3.2]; rfl) (fun m hm => by
          have : m = 0 := by omega
          subst this
          intro e
          exact h2 ⟨h3.1, by injection e⟩) ?_
        refine ⟨_, _, rfl, rfl, l, _, 0, _, rfl, rfl, SqL.of hl, atI_nat (j := 0) rfl, ?_⟩
        exact kk H3 s3
      rw [if_neg h3] at kk
      refine' suff (fun hN => ?goA) ?goB
      case goA =>
        by_cases hz : R.u = true
        case neg =>
          rw [Bool.eq_false_iff.mpr hz]
          exact iteF (iteF hN)
        case pos =>
          rw [hz]
          refine iteT ⟨_, rfl, l, _, rfl, .inl (SqL.of hl), rfl, flat_tx _, ?_⟩
          rw [if_neg Bool.false_ne_true, de, decide_eq_false (fun q => by
            rcases List.mem_cons.mp q with q | q
            · exact h2 ⟨hz, q.symm⟩
            · exact h3 ⟨hz, (List.mem_singleton.mp q).symm⟩)]
          exact ⟨_, rfl, iteF hN⟩
      case goB =>
      have i0 : atI ([f, g].map txV) ((0 : Nat) : Int) = some (txV f) := atI_nat (j := 0) rfl
      have i1 : atI ([f, g].map txV) ((1 : Nat) : Int) = some (txV g) := atI_nat (j := 1) rfl
      refine ⟨_, rfl, 73, _, by rw [cI], rfl, ?_⟩
      rw [S_cps, has_i]
      refine ⟨_, rfl, ?_⟩
      by_cases h4 : R.i = true ∧ f = g
      · rw [if_pos h4] at kk
        rw [h4.1]
        refine iteT ⟨_, rfl, l, _, 0, _, rfl, rfl, SqL.of hl, i0, _, rfl, l, _, 1, _, rfl, rfl, SqL.of hl, i1, rfl, ?_⟩
        rw [show decide (txV f = txV g) = decide (f = g) from tx_eq, decide_eq_true h4.2]
        refine ⟨_, rfl, iteT ⟨_, rfl, l, _, 0, _, rfl, rfl, SqL.of hl, i0, ?_⟩⟩
        exact kk H3 s3
      rw [if_neg h4] at kk
      refine' suff (fun hN => ?goA) ?goB
      case goA =>
        by_cases hz : R.i = true
        case neg =>
          rw [Bool.eq_false_iff.mpr hz]
          exact iteF (iteF hN)
        case pos =>
          rw [hz]
          refine iteT ⟨_, rfl, l, _, 0, _, rfl, rfl, SqL.of hl, i0, _, rfl, l, _, 1, _, rfl, rfl, SqL.of hl, i1, rfl, ?_⟩
          rw [show decide (txV f = txV g) = decide (f = g) from tx_eq, decide_eq_false fun q => h4 ⟨hz, q⟩]
          exact ⟨_, rfl, iteF hN⟩
      case goB =>
      refine ⟨_, rfl, 67, _, by rw [cC], rfl, ?_⟩
      rw [S_cps, has_c]
      refine ⟨_, rfl, ?_⟩
      refine' suffA (A := fun d H2 => Same H H2 ∧ H2 d = some (txL (if R.c = true ∧ ltx g f = true then [g, f] else [f, g]))) (fun hN => ?goA) ?goB
      case goA =>
        by_cases hc : R.c = true
        case pos =>
          rw [hc]
          have e2 : [S f.txt, S g.txt].map V.str = [f, g].map txV := rfl
          refine iteT ⟨_, rfl, l, [S f.txt, S g.txt], rfl, SqL.of (by rw [e2]; exact hl), (by show 2 < 64; decide), fun ys d pm so nd => ?_⟩
          refine hN d _ ⟨Same.upd s3 nd, ?_⟩
          have e : ys = (if R.c = true ∧ ltx g f = true then [g, f] else [f, g]).map fun t => S t.txt := by
            refine sorted_uniq (rising so) ?_ (pm.trans ?_)
            · have le : ∀ {s t : Tree}, ltx t s = false → leS (S s.txt) (S t.txt) := fun {s t} h => by
                unfold leS
                rw [S_cps, S_cps]
                exact List.not_lt.mp (of_decide_eq_false h)
              split
              · rename_i h
                exact List.pairwise_pair.mpr (le (ltx_asymm h.2))
              · rename_i h
                exact List.pairwise_pair.mpr (le (Bool.eq_false_iff.mpr fun q => h ⟨hc, q⟩))
            · split
              · exact List.Perm.swap _ _ _
              · exact List.Perm.refl _
          rw [upd_same, e, List.map_map]
          rfl
        case neg =>
          rw [Bool.eq_false_iff.mpr hc]
          exact iteF (hN l H3 ⟨s3, by rw [if_neg (fun z => hc z.1)]; exact hl⟩)
      case goB =>
      rintro d H4 ⟨s4, hd4⟩
      have kq : ∃ f' g' : Tree, H4 d = some (txL [f', g']) ∧ f'.size + g'.size ≤ 60 ∧ Q (.str (S (Tree.nd f' g').txt)) H4 := by
        have := kk H4 s4
        split at hd4
        · rename_i h
          rw [if_pos h] at this
          exact ⟨g, f, hd4, by omega, this⟩
        · rename_i h
          rw [if_neg h] at this
          exact ⟨f, g, hd4, by omega, this⟩
      obtain ⟨f', g', hd', zz, q⟩ := kq
      have la := f'.txt_len
      have lb := g'.txt_len
      have i0 : atI ([f', g'].map txV) ((0 : Nat) : Int) = some (txV f') := atI_nat (j := 0) rfl
      have i1 : atI ([f', g'].map txV) ((1 : Nat) : Int) = some (txV g') := atI_nat (j := 1) rfl
      have e1 : ("(" : Str) = S [40] := by decide +kernel
      have e2 : (" " : Str) = S [32] := by decide +kernel
      have e3 : (")" : Str) = S [41] := by decide +kernel
      refine ⟨_, rfl, d, _, 0, _, rfl, rfl, SqL.of hd', i0, _, _, rfl, rfl, ?_, ?_⟩
      · rw [e1, S_len, S_len]; exact small_len (by simp; omega)
      rw [e1, S_cat]
      refine ⟨_, _, rfl, rfl, ?_, ?_⟩
      · rw [e2, S_len, S_len]; exact small_len (by simp; omega)
      rw [e2, S_cat]
      refine ⟨_, rfl, d, _, 1, _, rfl, rfl, SqL.of hd', i1, _, _, rfl, rfl, ?_, ?_⟩
      · rw [S_len, S_len]; exact small_len (by simp; omega)
      rw [S_cat]
      refine ⟨_, _, rfl, rfl, ?_, ?_⟩
      · rw [e3, S_len, S_len]; exact small_len (by simp; omega)
      rw [e3, S_cat]
      rw [show ([40] ++ f'.txt ++ [32] ++ g'.txt ++ [41] : List Nat) = (Tree.nd f' g').txt by simp [Tree.txt]]
      exact q
end
end NL
set_option Elab.async false
set_option linter.all false
set_option maxRecDepth 100000
set_option maxHeartbeats 8000000
/-! the law's own plain form; the sets that it wants. -/
namespace NL
open PySem PySem.Spec PyProof.Rows L2 SX LamX
section
variable {P : Program} {w : World} {K : PySem.W.Frag} {mg : Str → Option Value} {base : Heap}
def pm_lplain : Pm := fun vs H Q => ∃ v t R, vs = [v, .str (S (RS.txt R))] ∧ LT H v t ∧ t.size ≤ 60 ∧ ∀ H', Same H H' → Q (.str (S (ptxt R t))) H'
theorem ok_lplain (T : Txt K mg) : Ok P w K mg base 65 (a__law_plain K) pm_lplain := by
  have GL : Ok P w K mg base 61 (a__law_leaves K) (pm_lleaves 60) := ok_lleaves T 60
  have GW : Ok P w K mg base 64 (a__law_word_form K) pm_lwf := ok_lwf T
  have GT : Ok P w K mg base 61 (a__law_tree_form K) (pm_ltf 60) := ok_ltf T 60
  refine ok_of (F__law_plain T) c_law_plain b__law_plain (fun vs H Q h => ?_) (fun cdv A outer s H vs Q E hr h => ?_)
  · obtain ⟨v, t, R, rfl, _⟩ := h
    rfl
  obtain ⟨v, t, R, rfl, ht, zs, k⟩ := h
  refine ⟨_, pss_cons (ps_if (pt_cmpR op_in_sign pe_str (pv 1) (by rfl)) (pss_one (ps_ret (e_call GW hr (by omega) (g__law_word_form T) (k__law_word_form T) (pa_cons (e_call GL hr (by omega) (g__law_leaves T) (k__law_leaves T) (pa_cons (pv 0) pa_nil)) (pa_cons (pv 1) pa_nil))))) pss_nil)
    (pss_one (ps_ret (e_call GT hr (by omega) (g__law_tree_form T) (k__law_tree_form T) (pa_cons (pv 0) (pa_cons (pv 1) pa_nil))))), ?_⟩
  have dl := t.depth_lt
  refine ⟨_, rfl, 65, _, by rw [cA], rfl, ?_⟩
  rw [S_cps, has_a]
  refine ⟨_, rfl, ?_⟩
  unfold ptxt at k
  by_cases h : R.a = true
  · rw [if_pos h] at k
    rw [h]
    refine iteT ⟨_, rfl, v, t, rfl, ht, by omega, zs, fun l H1 s1 nl hl => ?_⟩
    refine ⟨_, rfl, l, t.leaves, R, rfl, hl, t.leaves_ne, by have := t.leaves_len; omega, fun H2 s2 => ?_⟩
    exact k H2 fun b o e => s2 b o (s1 b o e)
  · rw [if_neg h] at k
    rw [Bool.eq_false_iff.mpr h]
    refine iteF ⟨_, rfl, _, rfl, v, t, R, rfl, ht, by omega, zs, k⟩
def pm_ldue (K : PySem.W.Frag) : Pm := fun vs H Q => ∃ v v' s t, vs = [v, v'] ∧ LT H v s ∧ LT H v' t ∧ s.size ≤ 60 ∧ t.size ≤ 60 ∧ Tabs (TT K) H ∧
  ∀ H' l, Ex H H' → Tabs (TT K) H' → Nu H l → H' l = some (.lst ((need s t).map fun R => V.str (S R.txt))) → Q (.ref l) H'
theorem ok_ldue (T : Txt K mg) (TB : TabB base mg (evC K) (evT K)) : Ok P w K mg base 66 (a__law_due K) (pm_ldue K) := by
  have GP : Ok P w K mg base 65 (a__law_plain K) pm_lplain := ok_lplain T
  have GE : Ok P w K mg base 3 (a_Rules_every K) (pm_every K) := ok_every T TB
  refine ok_of (F__law_due T) c_law_due b__law_due (fun vs H Q h => ?_) (fun cdv A outer s H vs Q E hr h => ?_)
  · obtain ⟨v, v', s, t, rfl, _⟩ := h
    rfl
  obtain ⟨v, v', s', t, rfl, hv, hv', zs, zt, hT, k⟩ := h
  refine ⟨_, pss_cons (ps_set (i := 2) c_law_due.nd rfl (.inl rfl) (pe_lst pa_nil))
    (pss_cons (ps_for PassesOwn.never rfl (pi_list (e_cmeth0 (pe_glob (v := .ref (cRules K)) rfl (g_Rules T) rfl) (rules_read T) (rules_every T) GE hr (by omega))) (pg_name (i := 3) c_law_due.nd rfl (.inl rfl))
      (pss_one (ps_if (pt_cmpR op_eq (e_call GP hr (by omega) (g__law_plain T) (k__law_plain T) (pa_cons (pv 0) (pa_cons (pe_fld (pv 3) rfl) pa_nil))) (e_call GP hr (by omega) (g__law_plain T) (k__law_plain T) (pa_cons (pv 1) (pa_cons (pe_fld (pv 3) rfl) pa_nil))) (nomark _)) (pss_one (ps_expr (pe_bm PySem.F.plainAttrs_list PySem.F.slot_list_append PySem.F.type_list_append mt_append (pv 2) (pa_cons (pe_fld (pv 3) rfl) pa_nil)))) pss_nil)))
    (pss_one (ps_ret (pv 2)))), ?_⟩
  refine ⟨Nat.zero_le _, fun l nl => ?_⟩
  have sl := same_upd (o := .lst []) nl
  refine ⟨rfl, rfl, hT.ext sl, fun H2 p rs x1 T1 n1 hp hR => ?_⟩
  obtain ⟨es, rfl, ee, he⟩ := hR.zs
  have le : es.length = 32 := by
    have : (es.map (·.2)).length = everyR.length := by rw [ee]
    rw [every_len] at this
    simpa using this
  have hl2 : H2 l = some (.lst []) := x1 _ _ upd_same (fun _ z => nomatch z)
  have npl : l ≠ p := n1.ne upd_same (fun _ z => nomatch z)
  have X2 : Ex H H2 := LamX.ExtN.trans (.of sl) x1
  refine ⟨p, rfl, ⟨_, SqL.of hp⟩, ?_⟩
  refine for_it (walk_list (K := K) (a := p) (xs := (es.map (·.1)).map V.ref)) (fun i σ H' => Sx [l] H2 H' ∧ ∃ x, σ = [some v, some v', some (.ref l), x] ∧ H' l = some (.lst (((es.take i).filter fun e => decide (Alike e.2 s' t)).map fun e => V.str (S e.2.txt))))
    ⟨fun b o e _ => e, _, rfl, hl2⟩ (fun i σ H' _ q => SqL.of (q.1 _ _ hp (by simpa using npl.symm))) ?_ ?_
  · rintro i z σ Ha Hb hi ⟨sa, x0, rfl, hd⟩ ⟨rfl, hx⟩
    rw [List.map_map] at hx
    obtain ⟨e, e1, rfl⟩ := map_at' hx
    have ga : Gr H2 Hb := Gr.sx sa fun d hd => by
      rw [List.mem_singleton.mp hd]
      exact ⟨_, hl2⟩
    obtain ⟨dx, re⟩ := (he e (List.mem_of_getElem? e1)).gr ga
    have G0 : Gr H Hb := X2.gr.trans ga
    refine ⟨_, rfl, _, rfl, e.1, _, dx, _, _, rfl, re, cl_Rules T, no_Rules_letters T, rf_letters, v, s', e.2, rfl, hv.gr G0, zs, fun H3 s3 => ?_⟩
    refine ⟨_, rfl, _, rfl, e.1, _, dx, _, _, rfl, s3 _ _ re, cl_Rules T, no_Rules_letters T, rf_letters, v', t, e.2, rfl, (hv'.gr G0).gr (.of s3), zt, fun H4 s4 => ?_⟩
    refine ⟨rfl, ?_⟩
    rw [dec_S]
    have s34 : Same Hb H4 := fun b o z => s4 b o (s3 b o z)
    have hd4 := s34 _ _ hd
    have e2 : es.take (i + 1) = es.take i ++ [e] := by
      rw [List.take_add_one, e1]
      rfl
    refine ⟨_, rfl, ?_⟩
    by_cases q : ptxt e.2 s' = ptxt e.2 t
    · rw [decide_eq_true q]
      refine iteT ⟨_, rfl, .inl ⟨rfl, _, SqL.of hd4⟩, _, rfl, e.1, _, dx, _, _, rfl, s34 _ _ re, cl_Rules T, no_Rules_letters T, rf_letters, l, _, _, rfl, rfl, hd4, ?_, ?_⟩
      · have := List.length_filter_le (fun e : Addr × RS => decide (Alike e.2 s' t)) (es.take i)
        rw [List.length_map, sizeLine_eq]
        simp only [List.length_take] at this
        omega
      · refine ⟨(sa.trans (.of s34)).put, _, rfl, ?_⟩
        rw [upd_same, e2, List.filter_append, List.map_append]
        simp [ptxt_iff.mp q]
    · rw [decide_eq_false q]
      refine iteF ⟨sa.trans (.of s34), _, rfl, ?_⟩
      rw [hd4, e2, List.filter_append, List.map_append]
      have : ¬ Alike e.2 s' t := fun z => q (ptxt_iff.mpr z)
      simp [this]
  · rintro σ Ha ⟨sa, x0, rfl, hd⟩
    refine ⟨_, rfl, ?_⟩
    have en : (need s' t).map (fun R => V.str (S R.txt)) = (es.filter fun e => decide (Alike e.2 s' t)).map fun e => V.str (S e.2.txt) := by
      unfold need
      rw [ee, ← map_filter2 (fun z : Addr × RS => z.2) (fun R => decide (Alike R s' t)) es, List.map_map]
      rfl
    refine k Ha l (fun b o e n => ?_) (Tabs.sx T1 sa fun d h => ?_) (Nu.of nl) ?_
    · exact sa _ _ (X2 _ _ e n) (by simpa using ne_of_none e nl)
    · rw [List.mem_singleton.mp h]
      exact ⟨_, hl2, (fun _ z => nomatch z), (fun _ z => nomatch z)⟩
    · rw [hd, en, List.length_map, List.length_map, List.take_length]
end
end NL
set_option Elab.async false
set_option linter.all false
set_option maxRecDepth 100000
set_option maxHeartbeats 8000000
/-! the law's own choice of the sets that it may leave out. -/
namespace NL
open PySem PySem.Spec PyProof.Rows L2 SX LamX
section
variable {P : Program} {w : World} {K : PySem.W.Frag} {mg : Str → Option Value} {base : Heap}
def pm_lspared (K : PySem.W.Frag) : Pm := fun vs H Q => ∃ f m r Rs U, vs = [.ref f, .ref r] ∧ FamAt K H f m Rs ∧ Rs.length ≤ 32 ∧ RulesAt K H r U ∧ ∀ H' l, Same H H' → H l = none → H' l = some (.lst ((spar Rs U).map fun R => V.str (S R.txt))) → Q (.ref l) H'
theorem ok_lspared (T : Txt K mg) : Ok P w K mg base 4 (a__law_spared K) (pm_lspared K) := by
  have GS : Ok P w K mg base 1 (a_Family_sets K) (pm_fsets K) := ok_fsets T
  have GW : Ok P w K mg base 1 (a_Rules_within K) (pm_within K) := ok_within T
  have GE : Ok P w K mg base 1 (a_Rules_eq K) (pm_req K) := ok_req T
  have hne : PySem.W.findIn K (.ref (cRules K)) "__ne__" = some (some (.builtin "object.__ne__")) := He.eqO_ok (T.ex 3 (b := He.eqO (PySem.W.findIn K (.ref (He.ga K "Rules")) "__ne__") (some (some (.builtin "object.__ne__")))) rfl)
  have hob := (ins_Rules T).hm
  refine ok_of (F__law_spared T) c_law_spared b__law_spared (fun vs H Q h => ?_) (fun cdv A outer s H vs Q E hr h => ?_)
  · obtain ⟨f, m, r, Rs, U, rfl, _⟩ := h
    rfl
  obtain ⟨f, m, r, Rs, U, rfl, hF, hn, hr', k⟩ := h
  refine ⟨_, pss_cons (ps_setLc (i := 3) (own := [("_law_one", 2)]) (g := gName 2) rfl c_law_spared.nd rfl rfl rfl (pi_list (e_meth0 (pv 0) (cl_Family T) (m_Family_sets T) GS hr (by omega)))
      (blkOk_by (N := n_law_spared) (sc := defScope s_law_spared) (by decide +kernel)) (fun _ _ _ _ _ => pg_name (i := 2) c_law_spared.nd rfl (Or.inl rfl))
      (fun _ _ _ _ _ => pts_one (pt_val (e_meth (pv 2) (cl_Rules T) (m_Rules_within T) GW hr (by omega) (pa_cons (pv 1) pa_nil)))) (fun _ _ _ _ _ => pv 2))
    (pss_cons (ps_set (i := 4) c_law_spared.nd rfl (.inl rfl) (pe_lst pa_nil))
    (pss_cons (ps_for PassesOwn.never rfl (pi_list (pv 3)) (pg_name (i := 2) c_law_spared.nd rfl (.inr rfl))
      (pss_one (ps_if (pt_not (pt_val (pe_callB (cr_any rfl) (by rfl) (z_any T) (by decide +kernel) (pa_cons (pe_lc (own := [("_law_other", 5)]) (g := gName 5) (tt := tYes) rfl c_law_spared.nd (pi_list (pv 3))
        (blkOk_by (N := n_law_spared) (sc := defScope s_law_spared) (by decide +kernel)) (fun _ _ _ _ _ => pg_name (i := 5) c_law_spared.nd rfl (Or.inl rfl)) (fun _ _ _ _ _ => pts_nil)
        (fun _ _ _ _ _ => pe_and (e_meth (pv 5) (cl_Rules T) (m_Rules_within T) GW hr (by omega) (pa_cons (pv 2) pa_nil)) (pe_one (pe_cmpR (o_ne (j := 2) GE (m_Rules_eq T) hne hob hr (by omega)) (pv 5) (pv 2) (nomark _))))) pa_nil))))
        (pss_one (ps_expr (pe_bm PySem.F.plainAttrs_list PySem.F.slot_list_append PySem.F.type_list_append mt_append (pv 4) (pa_cons (pe_fld (pv 2) rfl) pa_nil)))) pss_nil)))
    (pss_one (ps_ret (pv 4))))), ?_⟩
  obtain ⟨df, qs, of, om, _⟩ := id hF
  refine ⟨_, rfl, f, df, _, rfl, of, ff_sets, f, m, Rs, rfl, hF, fun H2 l qs2 s2 nl hl hR => ?_⟩
  obtain ⟨es, rfl, rfl, he⟩ := hR.zs
  have le : es.length ≤ 32 := by simpa using hn
  refine ⟨l, rfl, ⟨_, SqL.of hl⟩, fun D hD => ?_⟩
  refine lc_pure (walk_list (K := K) (a := l) (xs := (es.map (·.1)).map V.ref)) (es.map fun e => if e.2.le U = true then some (.ref e.1) else none) (by simp) (by simp; omega) hD (fun H3 s3 => SqL.of (s3 _ _ hl)) ?_ ?_
  · intro i x o' H3 R1 R0 hx ho s3 kR k0
    rw [List.map_map] at hx
    obtain ⟨e, e1, rfl⟩ := map_at' hx
    obtain ⟨e', e2, rfl⟩ := map_at' ho
    rw [e1] at e2
    cases e2
    have re := (he e (List.mem_of_getElem? e1)).gr (.of s3)
    obtain ⟨de, oe⟩ := id re
    refine ⟨rfl, _, rfl, e.1, de, _, rfl, oe, rf_within, _, rfl, e.1, r, e.2, U, rfl, re, (hr'.gr (.of s2)).gr (.of s3), fun H5 s5 => ⟨_, rfl, ?_⟩⟩
    cases hb : e.2.le U with
    | true => exact iteT ⟨_, rfl, kR _ _ (if_pos hb) s5⟩
    | false => exact iteF (k0 _ (if_neg (by rw [hb]; simp)) s5)
  intro H3 s3 h3
  rw [filt_map (fun e : Addr × RS => e.2.le U)] at h3
  generalize hes : (es.filter fun e => e.2.le U) = fs at h3
  have hf : ∀ z ∈ fs, RulesAt K H3 z.1 z.2 := fun z hz => by
    rw [← hes] at hz
    exact (he z (List.mem_filter.mp hz).1).gr (.of s3)
  have lf : fs.length ≤ 32 := by
    rw [← hes]
    exact Nat.le_trans (List.length_filter_le _ _) le
  have ef : (es.map (·.2)).filter (fun R => R.le U) = fs.map (·.2) := by
    rw [← hes]
    exact map_filter2 (fun z : Addr × RS => z.2) (fun R => R.le U) es |>.symm
  have s23 : Same H H3 := fun b u x => s3 b u (s2 b u x)
  refine ⟨Nat.zero_le _, fun g ng => ?_⟩
  have sg := same_upd (o := .lst []) ng
  refine ⟨_, rfl, D, rfl, ⟨_, SqL.of (sg _ _ h3)⟩, ?_⟩
  have S3 : Same H (upd H3 g (.lst [])) := Same.upd s23 ng
  have ngH : H g = none := Same.none s23 ng
  refine for_it (walk_list (K := K) (a := D) (xs := fs.map fun z => V.ref z.1)) (fun i σ H' => Sx [g] H3 H' ∧ ∃ x, σ = [some (.ref f), some (.ref r), x, some (.ref D), some (.ref g), none] ∧ H' g = some (.lst (((fs.take i).filter fun e => !overs (fs.map (·.2)) e.2).map fun e => V.str (S e.2.txt))))
    ⟨.of sg, _, rfl, upd_same⟩ (fun i σ H' _ q => SqL.of (q.1 _ _ h3 (by simpa using ne_of_none h3 ng))) ?_ ?_
  · rintro i z σ Ha Hb hi ⟨sa, x0, rfl, hd⟩ ⟨rfl, hx⟩
    obtain ⟨e, e1, rfl⟩ := map_at' hx
    have gb : Gr H3 Hb := fun b o x nl' nt => by
      by_cases hb : b = g
      · rw [hb, ng] at x
        cases x
      · exact sa _ _ x (by simpa using hb)
    have hDb : Hb D = _ := sa _ _ h3 (by simpa using ne_of_none h3 ng)
    have re := (hf e (List.mem_of_getElem? e1)).gr gb
    have e2 : fs.take (i + 1) = fs.take i ++ [e] := by
      rw [List.take_add_one, e1]
      rfl
    refine ⟨_, rfl, D, rfl, ⟨_, SqL.of hDb⟩, fun D3 hD3 => ?_⟩
    refine lc_pure (walk_list (K := K) (a := D) (xs := fs.map fun z => V.ref z.1)) (fs.map fun z => some (.bl (z.2.le e.2 && !decide (z.2 = e.2)))) (by simp) (by simp; omega) hD3 (fun H5 s5 => SqL.of (s5 _ _ hDb)) ?_ ?_
    · intro j x o2 H5 R1' R0' hx ho s5 kR' k0'
      obtain ⟨z, e3, rfl⟩ := map_at' hx
      obtain ⟨z', e4, rfl⟩ := map_at' ho
      rw [e3] at e4
      cases e4
      have rz := ((hf z (List.mem_of_getElem? e3)).gr gb).gr (.of s5)
      have re5 := re.gr (.of s5)
      obtain ⟨dz, oz⟩ := id rz
      refine ⟨rfl, yes1 ?_⟩
      refine ⟨_, rfl, z.1, dz, _, rfl, oz, rf_within, _, rfl, z.1, e.1, z.2, e.2, rfl, rz, re5, fun H6 s6 => ⟨_, rfl, ?_⟩⟩
      cases hb : z.2.le e.2 with
      | false => exact iteF (kR' _ _ (by rw [hb]; rfl) s6)
      | true =>
        have rz6 := rz.gr (.of s6)
        have re6 := re5.gr (.of s6)
        exact iteT ⟨_, rfl, _, rfl, z.1, e.1, rfl, rfl, rz6.is, re6.is, z.1, e.1, z.2, e.2, rfl, rz6, re6, _, rfl, kR' _ _ (by rw [hb]; rfl) s6⟩
    · intro H5 s5 h5
      rw [some_map'] at h5
      refine ⟨D3, fs.map fun z => (z.2.le e.2 && !decide (z.2 = e.2)), rfl, SqL.of (by rw [h5, List.map_map]; rfl), _, rfl, ?_⟩
      have eo : (fs.map fun z => (z.2.le e.2 && !decide (z.2 = e.2))).any id = overs (fs.map (·.2)) e.2 := by
        unfold overs
        rw [List.any_map, List.any_map]
        rfl
      rw [eo]
      have hg5 := s5 _ _ hd
      obtain ⟨dx, re5⟩ := re.gr (.of s5)
      cases hb : overs (fs.map (·.2)) e.2 with
      | false =>
        refine iteT ⟨_, rfl, .inl ⟨rfl, _, SqL.of hg5⟩, _, rfl, e.1, _, dx, _, _, rfl, re5, cl_Rules T, no_Rules_letters T, rf_letters, g, _, _, rfl, rfl, hg5, ?_, ?_⟩
        · have := List.length_filter_le (fun e : Addr × RS => !overs (fs.map (·.2)) e.2) (fs.take i)
          rw [List.length_map, sizeLine_eq]
          simp only [List.length_take] at this
          omega
        · refine ⟨(sa.trans (.of s5)).put, _, rfl, ?_⟩
          rw [upd_same, e2, List.filter_append, List.map_append]
          simp [hb]
      | true =>
        refine iteF ⟨sa.trans (.of s5), _, rfl, ?_⟩
        rw [hg5, e2, List.filter_append, List.map_append]
        simp [hb]
  · rintro σ Ha ⟨sa, x0, rfl, hd⟩
    refine ⟨_, rfl, ?_⟩
    have en : (spar (es.map (·.2)) U).map (fun R => V.str (S R.txt)) = (fs.filter fun z => !overs (fs.map (·.2)) z.2).map fun e => V.str (S e.2.txt) := by
      unfold spar
      rw [ef]
      unfold leasts
      rw [← map_filter2 (fun z : Addr × RS => z.2) (fun R => !overs (fs.map fun x : Addr × RS => x.2) R) fs, List.map_map]
      rfl
    refine k Ha g (fun b o e => sa _ _ (s23 _ _ e) (by simpa using ne_of_none e ngH)) ngH ?_
    rw [hd, en, List.length_map, List.take_length]
end
end NL
set_option Elab.async false
set_option linter.all false
set_option maxRecDepth 100000
set_option maxHeartbeats 8000000
/-! what the law looks at after each deed. -/
namespace NL
open PySem PySem.Spec PyProof.Rows L2 SX LamX
def rsS (R : RS) : Str := S R.txt
theorem rs_map (Rs : List RS) : (Rs.map rsS).map V.str = Rs.map fun R => V.str (S R.txt) := by
  rw [List.map_map]
  rfl
theorem lay_rs (R : RS) : PyData.canLay0 (.str (rsS R)) = true := by
  obtain ⟨a, c, i, u, z⟩ := R
  cases a <;> cases c <;> cases i <;> cases u <;> cases z <;> decide +kernel
theorem shaped_rs (Rs : List RS) : SeqAt.shaped (dTx (Rs.map rsS)) = true := shaped_tx fun x hx => by
  obtain ⟨y, _, rfl⟩ := List.mem_map.mp hx
  exact lay_rs y
section
variable {P : Program} {w : World} {K : PySem.W.Frag} {mg : Str → Option Value} {base : Heap}
theorem BoardAt.ex {H H' : Hp} {p d : Addr} {t : Tree} {ds : List Deed} (hB : BoardAt K H p d t ds) (x : Ex H H') : BoardAt K H' p d t ds := hB.gr x.gr fun o e => by
  obtain ⟨_, _, ts', _, _, od, _⟩ := hB
  rw [od] at e
  cases e
  exact x.lst od
theorem FamAt.ex {H H' : Hp} {f m : Addr} {Rs : List RS} (hF : FamAt K H f m Rs) (x : Ex H H') : FamAt K H' f m Rs := hF.gr x.gr fun o e => by
  obtain ⟨_, _, _, om, _⟩ := hF
  rw [om] at e
  cases e
  exact x.lst om
theorem Ex.trans {H H1 H2 : Hp} (a : Ex H H1) (b : Ex H1 H2) : Ex H H2 := LamX.ExtN.trans a b
theorem Ex.of {H H1 : Hp} (a : Same H H1) : Ex H H1 := LamX.ExtN.of a
theorem spar_len {Rs : List RS} {U : RS} (h : Rs.length ≤ 32) : (spar Rs U).length ≤ 32 := by
  unfold spar leasts
  exact Nat.le_trans (List.length_filter_le _ _) (Nat.le_trans (List.length_filter_le _ _) h)
def pm_llooks (K : PySem.W.Frag) : Pm := fun vs H Q => ∃ p d t ds v v' b, vs = [.ref p, v, v', .bl b] ∧ BoardAt K H p d t ds ∧ Low t ds ∧ ds.length ≤ 1000 ∧ LT H v t ∧ LT H v' (cur t ds) ∧ Tabs (TT K) H ∧
  ∀ H', Ex H H' → Tabs (TT K) H' → Q (.bl true) H'
theorem ok_llooks (T : Txt K mg) (TB : TabB base mg (evC K) (evT K)) : Ok P w K mg base 138 (a__law_looks K) (pm_llooks K) := by
  have GSp : Ok P w K mg base 136 (a_Board_spared K) (pm_bspared K) := ok_bspared T TB
  have GN : Ok P w K mg base 134 (a_Board_needed K) (pm_bneeded K) := ok_bneeded T TB
  have GD : Ok P w K mg base 66 (a__law_due K) (pm_ldue K) := ok_ldue T TB
  have GS : Ok P w K mg base 1 (a_Family_sets K) (pm_fsets K) := ok_fsets T
  have GF : Ok P w K mg base 3 (a_Family_eq K) (pm_feq K) := ok_feq T
  have GA : Ok P w K mg base 73 (a_needed K) (pm_needed K) := ok_needed T TB
  have GB : Ok P w K mg base 1 (a_Board_begun K) (pm_bbegun K) := ok_bbegun T
  have GW : Ok P w K mg base 132 (a_Board_now K) (pm_bnow K) := ok_bnow T
  have GL : Ok P w K mg base 4 (a__law_spared K) (pm_lspared K) := ok_lspared T
  have GU : Ok P w K mg base 3 (a_Board_used K) (pm_bused K) := ok_bused T
  refine ok_of (F__law_looks T) c_law_looks b__law_looks (fun vs H Q h => ?_) (fun cdv A outer s H vs Q E hr h => ?_)
  · obtain ⟨p, d, t, ds, v, v', b, rfl, _⟩ := h
    rfl
  obtain ⟨p, d, t, ds, v, v', b, rfl, hB, lo, ln, hv, hv', hT, k⟩ := h
  refine ⟨_, pss_cons (ps_set (i := 4) c_law_looks.nd rfl (.inl rfl) (pe_lst pa_nil))
    (pss_cons (ps_if (pt_val (pv 3)) (pss_one (ps_set (i := 4) c_law_looks.nd rfl (.inl rfl) (e_meth0 (pv 0) (cl_Board T) (m_Board_spared T) GSp hr (by omega)))) pss_nil)
    (pss_cons (ps_set (i := 5) c_law_looks.nd rfl (.inl rfl) (e_meth0 (pv 0) (cl_Board T) (m_Board_needed T) GN hr (by omega)))
    (pss_cons (ps_if (pt_not (pt_val (pv 3))) (pss_one (ps_set (i := 4) c_law_looks.nd rfl (.inl rfl) (e_meth0 (pv 0) (cl_Board T) (m_Board_spared T) GSp hr (by omega)))) pss_nil)
    (pss_cons (ps_if (pt_cmpR (op_neD hr.units) (pe_callB cr_sortedS (by rfl) (z_sorted T) (by decide +kernel) (pa_cons (pe_lc (own := [("_law_one", 8)]) (g := gName 8) (tt := tYes) rfl c_law_looks.nd (pi_list (e_meth0 (pv 5) (cl_Family T) (m_Family_sets T) GS hr (by omega))) (blkOk_by (N := n_law_looks) (sc := defScope s_law_looks) (by decide +kernel)) (fun _ _ _ _ _ => pg_name (i := 8) c_law_looks.nd rfl (Or.inl rfl)) (fun _ _ _ _ _ => pts_nil) (fun _ _ _ _ _ => e_fld (K := K) (pv 8) rfl)) pa_nil))
        (pe_callB cr_sortedS (by rfl) (z_sorted T) (by decide +kernel) (pa_cons (e_call GD hr (by omega) (g__law_due T) (k__law_due T) (pa_cons (pv 1) (pa_cons (pv 2) pa_nil))) pa_nil)) (nomark _)) (pss_one (ps_ret pe_bl)) pss_nil)
    (pss_cons (ps_if (pt_not (pt_cmpR (o_eq GF (m_Family_eq T) hr (by omega)) (pv 5) (e_call GA hr (by omega) (g_na T) (k_needed T) (pa_cons (e_meth0 (pv 0) (cl_Board T) (m_Board_begun T) GB hr (by omega)) (pa_cons (e_meth0 (pv 0) (cl_Board T) (m_Board_now T) GW hr (by omega)) pa_nil))) (nomark _))) (pss_one (ps_ret pe_bl)) pss_nil)
    (pss_cons (ps_set (i := 6) c_law_looks.nd rfl (.inl rfl) (e_call GL hr (by omega) (g__law_spared T) (k__law_spared T) (pa_cons (pv 5) (pa_cons (e_meth0 (pv 0) (cl_Board T) (m_Board_used T) GU hr (by omega)) pa_nil))))
    (pss_cons (ps_if (pt_cmpR (op_neD hr.units) (pe_lc (own := [("_law_chosen", 7)]) (g := gName 7) (tt := tYes) rfl c_law_looks.nd (pi_list (pv 4)) (blkOk_by (N := n_law_looks) (sc := defScope s_law_looks) (by decide +kernel)) (fun _ _ _ _ _ => pg_name (i := 7) c_law_looks.nd rfl (Or.inl rfl)) (fun _ _ _ _ _ => pts_nil) (fun _ _ _ _ _ => e_fld (K := K) (pv 7) rfl)) (pv 6) (nomark _)) (pss_one (ps_ret pe_bl)) pss_nil)
    (pss_cons (ps_expr (pe_bm PySem.F.plainAttrs_list PySem.F.slot_list_append PySem.F.type_list_append mt_append (pv 4) (pa_cons pe_int pa_nil)))
    (pss_one (ps_ret (pe_cmpR (op_eqD hr.units) (pe_lc (own := [("_law_chosen", 7)]) (g := gName 7) (tt := tYes) rfl c_law_looks.nd (pi_list (e_meth0 (pv 0) (cl_Board T) (m_Board_spared T) GSp hr (by omega))) (blkOk_by (N := n_law_looks) (sc := defScope s_law_looks) (by decide +kernel)) (fun _ _ _ _ _ => pg_name (i := 7) c_law_looks.nd rfl (Or.inl rfl)) (fun _ _ _ _ _ => pts_nil) (fun _ _ _ _ _ => e_fld (K := K) (pv 7) rfl)) (pv 6) (nomark _)))))))))))), ?_⟩
  have ls := spar_len (U := usedR ds) (need_len t (cur t ds))
  refine ⟨Nat.zero_le _, fun l0 n0 => ?_⟩
  have s0 := same_upd (o := .lst []) n0
  have hT0 := hT.ext s0
  have hB0 := hB.same s0
  have X0 : Ex H (upd H l0 (.lst [])) := .of s0
  generalize upd H l0 (.lst []) = H0 at s0 hT0 hB0 X0 ⊢
  refine ⟨_, rfl, _, rfl, ?_⟩
  obtain ⟨dx, pf, ts, o, _⟩ := id hB0
  cases b
  refine iteF ⟨_, rfl, p, dx, _, rfl, o, bf_needed, p, d, t, ds, rfl, hB0, lo, hT0, fun H1 f m x1 T1 n1 hF => ?_⟩
  have hB1 := hB0.ex x1
  obtain ⟨dx1, pf1, ts1, o1, _⟩ := id hB1
  refine ⟨_, rfl, _, rfl, iteT ⟨_, rfl, p, dx1, _, rfl, o1, bf_spared, p, d, t, ds, rfl, hB1, lo, ln, T1, fun H3 l qs x3 T3 n3 hl hR => ?_⟩⟩
  have X3 : Ex H H3 := (X0.trans x1).trans x3
  have N3 : Nu H l := n3.back (X0.trans x1)
  have hF3 := hF.ex x3
  rotate_left
  refine iteT ⟨_, rfl, p, dx, _, rfl, o, bf_spared, p, d, t, ds, rfl, hB0, lo, ln, hT0, fun H1 l qs x1 T1 n1 hl hR => ?_⟩
  have hB1 := hB0.ex x1
  obtain ⟨dx1, pf1, ts1, o1, _⟩ := id hB1
  refine ⟨_, rfl, p, dx1, _, rfl, o1, bf_needed, p, d, t, ds, rfl, hB1, lo, T1, fun H3 f m x3 T3 n3 hF3 => ?_⟩
  have X3 : Ex H H3 := (X0.trans x1).trans x3
  have N3 : Nu H l := n1.back X0
  replace hl := x3 _ _ hl (fun _ z => nomatch z)
  replace hR := hR.gr x3.gr
  refine ⟨_, rfl, _, rfl, iteF ?_⟩
  all_goals
    have hB3 := hB.ex X3
    obtain ⟨es, rfl, ee, he⟩ := hR.zs
    obtain ⟨df, qs5, of, om, _⟩ := id hF3
    have lee : es.length ≤ 32 := by
      rw [ee] at ls
      simpa using ls
    refine ⟨_, rfl, f, df, _, rfl, of, ff_sets, f, m, _, rfl, hF3, fun H4 g qs2 s4 ng hg hR2 => ?_⟩
    obtain ⟨ns, rfl, en, hn⟩ := hR2.zs
    have lnn : ns.length ≤ 32 := by
      have := need_len t (cur t ds)
      rw [en] at this
      simpa using this
    refine ⟨g, rfl, ⟨_, SqL.of hg⟩, fun D hD => ?_⟩
    refine lc_pure (walk_list (K := K) (a := g) (xs := (ns.map (·.1)).map V.ref)) (ns.map fun e => some (.str (rsS e.2))) (by simp) (by simp; omega) hD (fun H5 s5 => SqL.of (s5 _ _ hg)) ?_ ?_
    · intro i x o' H5 R1 R0 hx ho s5 kR k0
      rw [List.map_map] at hx
      obtain ⟨e, e1, rfl⟩ := map_at' hx
      obtain ⟨e', e2, rfl⟩ := map_at' ho
      rw [e1] at e2
      cases e2
      obtain ⟨dz, re⟩ := (hn e (List.mem_of_getElem? e1)).gr (.of s5)
      exact ⟨rfl, yes1 ⟨_, rfl, e.1, _, dz, _, _, rfl, re, cl_Rules T, no_Rules_letters T, rf_letters, kR _ _ rfl (Same.refl _)⟩⟩
    intro H5 s5 h5
    rw [some_map'] at h5
    refine ⟨D, ns.map (fun e => rsS e.2), rfl, SqL.of (by rw [h5, List.map_map]; rfl), by simp; omega, fun ys q1 pm so nq1 => ?_⟩
    rw [show ns.map (fun e => rsS e.2) = (need t (cur t ds)).map rsS by rw [en, List.map_map]; rfl] at pm
    have lc := lo.cur
    have l1 := lo.1
    have S5 : Same H3 (upd H5 q1 (.lst (ys.map V.str))) := Same.upd (fun b o e => s5 b o (s4 b o e)) nq1
    have X5 := X3.trans (.of S5)
    refine ⟨_, rfl, _, rfl, v, v', t, cur t ds, rfl, hv.gr X5.gr, hv'.gr X5.gr, by omega, by omega, T3.ext S5, fun H6 l6 x6 T6 n6 h6 => ?_⟩
    refine ⟨l6, (need t (cur t ds)).map rsS, rfl, SqL.of (by rw [rs_map]; exact h6), by have := need_len t (cur t ds); simp; omega, fun zs q2 pm2 so2 nq2 => ?_⟩
    have hq6 := same_upd (o := .lst (zs.map V.str)) nq2 _ _ (x6 _ _ upd_same (fun _ z => nomatch z))
    have X7 : Ex H3 (upd H6 q2 (.lst (zs.map V.str))) := (Ex.of S5).trans (x6.trans (.of (same_upd nq2)))
    have T7 := T6.ext (same_upd (o := .lst (zs.map V.str)) nq2)
    have sh : ∀ ys : List Str, ys.Perm ((need t (cur t ds)).map rsS) → SeqAt.shaped (dTx ys) = true := fun ys pm => shaped_tx fun x hx => by
      obtain ⟨y, _, rfl⟩ := List.mem_map.mp (pm.mem_iff.mp hx)
      exact lay_rs y
    refine ⟨_, _, dp_tx (SqL.of hq6), dp_tx (SqL.of upd_same), sh _ pm, sh _ pm2, _, rfl, ?_⟩
    rw [eqv_tx, decide_eq_true (sorted_uniq (rising so) (rising so2) (pm.trans pm2.symm))]
    refine iteF ?_
    generalize upd H6 q2 (.lst (zs.map V.str)) = H7 at X7 T7 ⊢
    clear hq6 nq2 h6 n6 T6 x6 nq1 X5 S5 h5 s5
    have hB7 := hB3.ex X7
    have hF7 := hF3.ex X7
    have hl7 := X7 _ _ hl (fun _ z => nomatch z)
    have he7 : ∀ z ∈ es, RulesAt K H7 z.1 z.2 := fun z h => (he z h).gr X7.gr
    obtain ⟨dx7, pf7, ts7, o7, _⟩ := id hB7
    refine ⟨_, rfl, _, rfl, p, dx7, _, rfl, o7, bf_begun, p, d, t, ds, rfl, hB7, fun z wz => ?_⟩
    refine ⟨_, rfl, p, dx7, _, rfl, o7, bf_now, p, d, t, ds, rfl, hB7, lo, fun H9 z9 s9 wz9 => ?_⟩
    refine ⟨z, z9, t, cur t ds, rfl, wz.gr (.of s9), wz9, by omega, by omega, T7.ext s9, fun Hc f2 m2 xc Tc nc hFc => ?_⟩
    have Xc : Ex H7 Hc := (Ex.of s9).trans xc
    have hF9 := hF7.ex Xc
    refine ⟨f, f2, rfl, rfl, hF9.is, hFc.is, f, f2, m, m2, _, rfl, hF9, hFc, fun Hd sd => ⟨_, rfl, iteF ?_⟩⟩
    have Xd : Ex H7 Hd := Xc.trans (.of sd)
    have Td := Tc.ext sd
    have hBd := hB7.ex Xd
    have hFd := hF7.ex Xd
    have hld := Xd _ _ hl7 (fun _ z => nomatch z)
    have hed : ∀ z ∈ es, RulesAt K Hd z.1 z.2 := fun z h => (he7 z h).gr Xd.gr
    obtain ⟨dxd, pfd, tsd, od, _⟩ := id hBd
    have XD : Ex H Hd := (X3.trans X7).trans Xd
    clear hFc Tc xc s9 wz wz9 hB7 hF7 hl7 he7 o7 T7 nc
    refine ⟨_, rfl, _, rfl, p, dxd, _, rfl, od, bf_used, p, d, t, ds, rfl, hBd, ln, fun He u se hu => ?_⟩
    refine ⟨f, m, u, need t (cur t ds), usedR ds, rfl, hFd.same se, need_len _ _, hu, fun Hf g2 sf ng2 hg2 => ?_⟩
    have sdf : Same Hd Hf := fun b o e => sf b o (se b o e)
    have hlf := sdf _ _ hld
    have hef : ∀ z ∈ es, RulesAt K Hf z.1 z.2 := fun z h => (hed z h).gr (.of sdf)
    have ngl : g2 ≠ l := fun e => by
      rw [e, se _ _ hld] at ng2
      cases ng2
    rw [← rs_map] at hg2
    refine ⟨_, rfl, l, rfl, ⟨_, SqL.of hlf⟩, fun D2 hD => ?_⟩
    refine lc_pure (walk_list (K := K) (a := l) (xs := (es.map (·.1)).map V.ref)) (es.map fun e => some (.str (rsS e.2))) (by simp) (by simp; omega) hD (fun H5 s5 => SqL.of (s5 _ _ hlf)) ?_ ?_
    · intro i x o' H5 R1 R0 hx ho s5 kR k0
      rw [List.map_map] at hx
      obtain ⟨e, e1, rfl⟩ := map_at' hx
      obtain ⟨e', e2, rfl⟩ := map_at' ho
      rw [e1] at e2
      cases e2
      obtain ⟨dz, re⟩ := (hef e (List.mem_of_getElem? e1)).gr (.of s5)
      exact ⟨rfl, yes1 ⟨_, rfl, e.1, _, dz, _, _, rfl, re, cl_Rules T, no_Rules_letters T, rf_letters, kR _ _ rfl (Same.refl _)⟩⟩
    intro Hg sg hg5
    rw [some_map'] at hg5
    have ee2 : (spar (need t (cur t ds)) (usedR ds)).map rsS = es.map fun e => rsS e.2 := by rw [ee, List.map_map]; rfl
    refine ⟨_, rfl, _, _, dp_tx (l := es.map fun e => rsS e.2) (SqL.of (by rw [hg5, List.map_map]; rfl)), dp_tx (SqL.of (sg _ _ hg2)), by rw [← ee2]; exact shaped_rs _, shaped_rs _, _, rfl, ?_⟩
    rw [eqv_tx, ee2, decide_eq_true rfl]
    refine iteF ?_
    have sdg : Same Hd Hg := fun b o e => sg b o (sdf b o e)
    have hlg := sdg _ _ hld
    refine ⟨_, rfl, .inl ⟨rfl, _, SqL.of hlg⟩, l, _, _, rfl, rfl, hlg, by simp; exact Nat.lt_of_le_of_lt lee (by decide), ?_⟩
    have XG : Ex H Hg := XD.trans (.of sdg)
    have hdne : d ≠ l := by
      obtain ⟨_, _, ts', _, _, od', _⟩ := hB
      exact N3.ne od' (fun _ z => nomatch z)
    have SX := Sx.set (H := Hg) (a := l) (o := .lst ((es.map (·.1)).map V.ref ++ [.int 1]))
    have Th := Tabs.sx (Td.ext sdg) SX fun d h => by
      rw [List.mem_singleton.mp h]
      exact ⟨_, hlg, (fun _ z => nomatch z), (fun _ z => nomatch z)⟩
    have XH : Ex H (upd Hg l (.lst ((es.map (·.1)).map V.ref ++ [.int 1]))) := fun b o e nt => by
      rw [upd_ne (N3.ne e nt)]
      exact XG b o e nt
    have hgh : (upd Hg l (.lst ((es.map (·.1)).map V.ref ++ [.int 1]))) g2 = some (.lst (((spar (need t (cur t ds)) (usedR ds)).map rsS).map V.str)) := by
      rw [upd_ne ngl]
      exact sg _ _ hg2
    have hBh := hB.ex XH
    generalize upd Hg l (.lst ((es.map (·.1)).map V.ref ++ [.int 1])) = Hh at Th XH hgh hBh ⊢
    obtain ⟨dxh, pfh, tsh, oh, _⟩ := id hBh
    refine ⟨_, rfl, p, dxh, _, rfl, oh, bf_spared, p, d, t, ds, rfl, hBh, lo, ln, Th, fun Hi l2 qs3 xi Ti ni hi hRi => ?_⟩
    obtain ⟨ks, rfl, ek, hk⟩ := hRi.zs
    have lek : ks.length ≤ 32 := by
      rw [ek] at ls
      simpa using ls
    refine ⟨l2, rfl, ⟨_, SqL.of hi⟩, fun D3 hD => ?_⟩
    refine lc_pure (walk_list (K := K) (a := l2) (xs := (ks.map (·.1)).map V.ref)) (ks.map fun e => some (.str (rsS e.2))) (by simp) (by simp; omega) hD (fun H5 s5 => SqL.of (s5 _ _ hi)) ?_ ?_
    · intro i x o' H5 R1 R0 hx ho s5 kR k0
      rw [List.map_map] at hx
      obtain ⟨e, e1, rfl⟩ := map_at' hx
      obtain ⟨e', e2, rfl⟩ := map_at' ho
      rw [e1] at e2
      cases e2
      obtain ⟨dz, re⟩ := (hk e (List.mem_of_getElem? e1)).gr (.of s5)
      exact ⟨rfl, yes1 ⟨_, rfl, e.1, _, dz, _, _, rfl, re, cl_Rules T, no_Rules_letters T, rf_letters, kR _ _ rfl (Same.refl _)⟩⟩
    intro Hj sj hj
    rw [some_map'] at hj
    have ee3 : (spar (need t (cur t ds)) (usedR ds)).map rsS = ks.map fun e => rsS e.2 := by rw [ek, List.map_map]; rfl
    refine ⟨_, rfl, _, _, dp_tx (l := ks.map fun e => rsS e.2) (SqL.of (by rw [hj, List.map_map]; rfl)), dp_tx (SqL.of (sj _ _ (xi _ _ hgh (fun _ z => nomatch z)))), by rw [← ee3]; exact shaped_rs _, shaped_rs _, ?_⟩
    rw [eqv_tx, ee3, decide_eq_true rfl]
    exact k Hj (XH.trans (xi.trans (.of sj))) (Ti.ext sj)
end
end NL
set_option Elab.async false
set_option linter.all false
set_option maxRecDepth 100000
set_option maxHeartbeats 8000000
/-! what the law keeps, and looks at again later. -/
namespace NL
open PySem PySem.Spec PyProof.Rows L2 SX LamX
section
variable {P : Program} {w : World} {K : PySem.W.Frag} {mg : Str → Option Value} {base : Heap}
theorem leasts_len {Rs : List RS} (h : Rs.length ≤ 32) : (leasts Rs).length ≤ 32 := Nat.le_trans (List.length_filter_le _ _) h
/-- a kept row; X: the lists that change -/
def KeptAt (K : PySem.W.Frag) (X : List Addr) (H : Hp) (z : Addr) : Prop := ∃ f l u m Rs U, H z = some (.lst [.ref f, .ref l, .ref u, .str (rsS U)]) ∧ FamAt K H f m Rs ∧ Rs.length ≤ 32 ∧ H l = some (.lst (((leasts Rs).map rsS).map V.str)) ∧ RulesAt K H u U ∧ z ∉ X ∧ l ∉ X ∧ m ∉ X
theorem KeptAt.sx {X Y : List Addr} {H H' : Hp} {z : Addr} (h : KeptAt K X H z) (x : Sx Y H H') (hy : ∀ y ∈ Y, y ∈ X ∧ ∃ xs, H y = some (.lst xs)) : KeptAt K X H' z := by
  obtain ⟨f, l, u, m, Rs, U, hz, hF, hn, hl, hu, n1, n2, n3⟩ := h
  have g : Gr H H' := Gr.sx x fun d hd => (hy d hd).2
  have k : ∀ {a : Addr} {o : HO}, a ∉ X → H a = some o → H' a = some o := fun n e => x _ _ e fun q => n (hy _ q).1
  exact ⟨f, l, u, m, Rs, U, k n1 hz, hF.gr g fun o e => k n3 e, hn, k n2 hl, hu.gr g, n1, n2, n3⟩
theorem KeptAt.ex {X : List Addr} {H H' : Hp} {z : Addr} (h : KeptAt K X H z) (x : Ex H H') : KeptAt K X H' z := by
  obtain ⟨f, l, u, m, Rs, U, hz, hF, hn, hl, hu, n1, n2, n3⟩ := h
  exact ⟨f, l, u, m, Rs, U, x _ _ hz (fun _ z => nomatch z), hF.ex x, hn, x _ _ hl (fun _ z => nomatch z), hu.gr x.gr, n1, n2, n3⟩
def pm_lkept (K : PySem.W.Frag) : Pm := fun vs H Q => ∃ p d t ds, vs = [.ref p] ∧ BoardAt K H p d t ds ∧ Low t ds ∧ ds.length ≤ 1000 ∧ Tabs (TT K) H ∧
  ∀ H' z, Ex H H' → Tabs (TT K) H' → Nu H z → (∀ X : List Addr, (∀ a ∈ X, ∃ xs, H a = some (.lst xs)) → KeptAt K X H' z) → Q (.ref z) H'
theorem ok_lkept (T : Txt K mg) (TB : TabB base mg (evC K) (evT K)) : Ok P w K mg base 136 (a__law_kept K) (pm_lkept K) := by
  have GN : Ok P w K mg base 134 (a_Board_needed K) (pm_bneeded K) := ok_bneeded T TB
  have GU : Ok P w K mg base 3 (a_Board_used K) (pm_bused K) := ok_bused T
  have GL : Ok P w K mg base 4 (a_Family_least K) (pm_fleast K) := ok_fleast T
  refine ok_of (F__law_kept T) c_law_kept b__law_kept (fun vs H Q h => ?_) (fun cdv A outer s H vs Q E hr h => ?_)
  · obtain ⟨p, d, t, ds, rfl, _⟩ := h
    rfl
  obtain ⟨p, d, t, ds, rfl, hB, lo, ln, hT, k⟩ := h
  refine ⟨_, pss_cons (ps_set (i := 1) c_law_kept.nd rfl (.inl rfl) (e_meth0 (pv 0) (cl_Board T) (m_Board_needed T) GN hr (by omega)))
    (pss_cons (ps_set (i := 2) c_law_kept.nd rfl (.inl rfl) (e_meth0 (pv 0) (cl_Board T) (m_Board_used T) GU hr (by omega)))
    (pss_one (ps_ret (pe_lst (pa_cons (pv 1) (pa_cons (pe_lc (own := [("_law_one", 3)]) (g := gName 3) (tt := tYes) rfl c_law_kept.nd (pi_list (e_meth0 (pv 1) (cl_Family T) (m_Family_least T) GL hr (by omega))) (blkOk_by (N := n_law_kept) (sc := defScope s_law_kept) (by decide +kernel)) (fun _ _ _ _ _ => pg_name (i := 3) c_law_kept.nd rfl (Or.inl rfl)) (fun _ _ _ _ _ => pts_nil) (fun _ _ _ _ _ => e_fld (K := K) (pv 3) rfl)) (pa_cons (pv 2) (pa_cons (pe_fld (pv 2) rfl) pa_nil)))))))), ?_⟩
  obtain ⟨dx, pf, ts, o, _⟩ := id hB
  refine ⟨_, rfl, p, dx, _, rfl, o, bf_needed, p, d, t, ds, rfl, hB, lo, hT, fun H1 f m x1 T1 n1 hF => ?_⟩
  have hB1 := hB.ex x1
  obtain ⟨dx1, pf1, ts1, o1, _⟩ := id hB1
  refine ⟨_, rfl, p, dx1, _, rfl, o1, bf_used, p, d, t, ds, rfl, hB1, ln, fun H2 u s2 hu => ?_⟩
  have hF2 := hF.same s2
  obtain ⟨df, qs5, of, om, _⟩ := id hF2
  have lnd := need_len t (cur t ds)
  generalize need t (cur t ds) = Rs at hF2 lnd
  refine ⟨_, rfl, _, rfl, f, df, _, rfl, of, ff_least, f, m, Rs, rfl, hF2, lnd, fun H3 l qs s3 nl hl hR => ?_⟩
  obtain ⟨es, rfl, ee, he⟩ := hR.zs
  have le : es.length ≤ 32 := by
    have := leasts_len lnd
    rw [ee] at this
    simpa using this
  refine ⟨l, rfl, ⟨_, SqL.of hl⟩, fun D hD => ?_⟩
  refine lc_pure (walk_list (K := K) (a := l) (xs := (es.map (·.1)).map V.ref)) (es.map fun e => some (.str (rsS e.2))) (by simp) (by simp; omega) hD (fun H5 s5 => SqL.of (s5 _ _ hl)) ?_ ?_
  · intro i x o' H5 R1 R0 hx ho s5 kR k0
    rw [List.map_map] at hx
    obtain ⟨e, e1, rfl⟩ := map_at' hx
    obtain ⟨e', e2, rfl⟩ := map_at' ho
    rw [e1] at e2
    cases e2
    obtain ⟨dz, re⟩ := (he e (List.mem_of_getElem? e1)).gr (.of s5)
    exact ⟨rfl, yes1 ⟨_, rfl, e.1, _, dz, _, _, rfl, re, cl_Rules T, no_Rules_letters T, rf_letters, kR _ _ rfl (Same.refl _)⟩⟩
  intro H4 s4 h4
  rw [some_map'] at h4
  have s34 : Same H2 H4 := fun b o e => s4 b o (s3 b o e)
  obtain ⟨du, ou⟩ := hu.gr (.of s34)
  refine ⟨_, rfl, _, rfl, u, _, du, _, _, rfl, ou, cl_Rules T, no_Rules_letters T, rf_letters, (by show 4 ≤ sizeLine; decide), fun z nz => ?_⟩
  have S5 : Same H2 (upd H4 z (.lst [.ref f, .ref D, .ref u, .str (S (usedR ds).txt)])) := Same.upd s34 nz
  have x4 : Ex H H4 := x1.trans (.of fun b o e => s34 b o (s2 b o e))
  have x3 : Ex H H3 := x1.trans (.of fun b o e => s3 b o (s2 b o e))
  refine k _ z (x4.trans (.of (same_upd nz))) ((T1.ext s2).ext S5) ((Nu.of nz).back x4) fun X hX => ?_
  refine ⟨f, D, u, m, Rs, usedR ds, upd_same, hF2.same S5, lnd, same_upd nz _ _ ?_, hu.gr (.of S5), fun h => ?_, fun h => ?_, fun h => ?_⟩
  · rw [h4, ee, List.map_map, List.map_map]
    rfl
  · obtain ⟨xs, e⟩ := hX _ h
    have := x4 _ _ e (fun _ z => nomatch z)
    rw [nz] at this
    cases this
  · obtain ⟨xs, e⟩ := hX _ h
    have := x3 _ _ e (fun _ z => nomatch z)
    rw [hD] at this
    cases this
  · obtain ⟨xs, e⟩ := hX _ h
    exact n1.ne e (fun _ z => nomatch z) rfl
def pm_lstays (K : PySem.W.Frag) : Pm := fun vs H Q => ∃ (r : Addr) (X zs : List Addr), vs = [.ref r] ∧ H r = some (.lst (zs.map V.ref)) ∧ (∀ z ∈ zs, KeptAt K X H z) ∧ ∀ H', Same H H' → Q (.bl true) H'
theorem ok_lstays (T : Txt K mg) : Ok P w K mg base 5 (a__law_stays K) (pm_lstays K) := by
  have GL : Ok P w K mg base 4 (a_Family_least K) (pm_fleast K) := ok_fleast T
  refine ok_of (F__law_stays T) c_law_stays b__law_stays (fun vs H Q h => ?_) (fun cdv A outer s H vs Q E hr h => ?_)
  · obtain ⟨r, X, zs, rfl, _⟩ := h
    rfl
  obtain ⟨r, X, zs, rfl, hr0, hK, k⟩ := h
  refine ⟨_, pss_cons (ps_for PassesOwn.never rfl (pi_list (pv 0)) (pg_unl (n := 4) rfl (pgs_cons (pg_name (i := 1) c_law_stays.nd rfl (.inl rfl)) (pgs_cons (pg_name (i := 2) c_law_stays.nd rfl (.inl rfl)) (pgs_cons (pg_name (i := 3) c_law_stays.nd rfl (.inl rfl)) (pgs_cons (pg_name (i := 4) c_law_stays.nd rfl (.inl rfl)) pgs_nil)))))
      (pss_one (ps_if (PW.pt (pw_or (pt_cmpR (op_neD hr.units) (pe_lc (own := [("_law_one", 5)]) (g := gName 5) (tt := tYes) rfl c_law_stays.nd (pi_list (e_meth0 (pv 1) (cl_Family T) (m_Family_least T) GL hr (by omega))) (blkOk_by (N := n_law_stays) (sc := defScope s_law_stays) (by decide +kernel)) (fun _ _ _ _ _ => pg_name (i := 5) c_law_stays.nd rfl (Or.inl rfl)) (fun _ _ _ _ _ => pts_nil) (fun _ _ _ _ _ => e_fld (K := K) (pv 5) rfl)) (pv 2) (nomark _)) (pw_or1 (pt_cmpR op_ne (pe_fld (pv 3) rfl) (pv 4) (nomark _))))) (pss_one (ps_ret pe_bl)) pss_nil)))
    (pss_one (ps_ret pe_bl)), ?_⟩
  refine ⟨_, rfl, r, rfl, ⟨_, SqL.of hr0⟩, ?_⟩
  refine for_it (walk_list (K := K) (a := r) (xs := zs.map V.ref)) (fun i σ H' => Same H H' ∧ ∃ a b c d, σ = [some (.ref r), a, b, c, d, none]) ⟨Same.refl H, _, _, _, _, rfl⟩ (fun i σ H' _ q => SqL.of (q.1 _ _ hr0)) ?_ ?_
  · rintro i z σ Ha Hb hi ⟨sa, a0, b0, c0, d0, rfl⟩ ⟨rfl, hx⟩
    obtain ⟨y, e1, rfl⟩ := map_at' hx
    obtain ⟨f, l, u, m, Rs, U, hz, hF, hn, hl, hu, n1, n2, n3⟩ := hK y (List.mem_of_getElem? e1)
    have hF2 := hF.same sa
    obtain ⟨df, qs5, of, om, _⟩ := id hF2
    refine ⟨y, _, rfl, SqL.of (sa _ _ hz), rfl, ?_⟩
    refine ⟨_, _, rfl, _, _, rfl, _, _, rfl, _, _, rfl, rfl, ?_⟩
    refine ⟨_, rfl, f, df, _, rfl, of, ff_least, f, m, Rs, rfl, hF2, hn, fun H3 g qs s3 ng hg hR => ?_⟩
    obtain ⟨es, rfl, ee, he⟩ := hR.zs
    have le : es.length ≤ 32 := by
      have := leasts_len hn
      rw [ee] at this
      simpa using this
    refine ⟨g, rfl, ⟨_, SqL.of hg⟩, fun D hD => ?_⟩
    refine lc_pure (walk_list (K := K) (a := g) (xs := (es.map (·.1)).map V.ref)) (es.map fun e => some (.str (rsS e.2))) (by simp) (by simp; omega) hD (fun H5 s5 => SqL.of (s5 _ _ hg)) ?_ ?_
    · intro i x o' H5 R1 R0 hx ho s5 kR k0
      rw [List.map_map] at hx
      obtain ⟨e, e1, rfl⟩ := map_at' hx
      obtain ⟨e', e2, rfl⟩ := map_at' ho
      rw [e1] at e2
      cases e2
      obtain ⟨dz, re⟩ := (he e (List.mem_of_getElem? e1)).gr (.of s5)
      exact ⟨rfl, yes1 ⟨_, rfl, e.1, _, dz, _, _, rfl, re, cl_Rules T, no_Rules_letters T, rf_letters, kR _ _ rfl (Same.refl _)⟩⟩
    intro H4 s4 h4
    rw [some_map'] at h4
    have s34 : Same Hb H4 := fun b o e => s4 b o (s3 b o e)
    have S4 : Same H H4 := fun b o e => s34 b o (sa b o e)
    have ee2 : (leasts Rs).map rsS = es.map fun e => rsS e.2 := by rw [ee, List.map_map]; rfl
    refine ⟨_, rfl, _, _, dp_tx (l := es.map fun e => rsS e.2) (SqL.of (by rw [h4, List.map_map]; rfl)), dp_tx (SqL.of (S4 _ _ hl)), by rw [← ee2]; exact shaped_rs _, shaped_rs _, _, rfl, ?_⟩
    rw [eqv_tx, ee2, decide_eq_true rfl]
    obtain ⟨du, ou⟩ := hu.gr (.of S4)
    refine iteF ⟨_, rfl, u, _, du, _, _, rfl, ou, cl_Rules T, no_Rules_letters T, rf_letters, _, rfl, rfl, _, rfl, ?_⟩
    rw [show decide (V.str (S U.txt) = V.str (rsS U)) = true from decide_eq_true rfl]
    exact iteF ⟨S4, _, _, _, _, rfl⟩
  · rintro σ Ha ⟨sa, a0, b0, c0, d0, rfl⟩
    exact k Ha sa
end
end NL
set_option Elab.async false
set_option linter.all false
set_option maxRecDepth 100000
set_option maxHeartbeats 8000000
/-! some set is always spared. -/
namespace NL
open PySem PySem.Spec PyProof.Rows L2 SX LamX
def cntR (R : RS) : Nat := R.a.toNat + R.c.toNat + R.i.toNat + R.u.toNat + R.z.toNat
theorem le_cnt {S R : RS} (h : S.le R = true) (n : S ≠ R) : cntR S < cntR R := by
  obtain ⟨h1, h2, h3, h4, h5⟩ := RS.le_iff.mp h
  obtain ⟨a, c, i, u, z⟩ := S
  obtain ⟨a', c', i', u', z'⟩ := R
  have le : ∀ {x y : Bool}, (x = true → y = true) → x.toNat ≤ y.toNat := fun {x y} h => by cases x <;> cases y <;> simp_all
  have inj : ∀ {x y : Bool}, x.toNat = y.toNat → x = y := fun {x y} h => by cases x <;> cases y <;> simp_all
  have e1 := le h1
  have e2 := le h2
  have e3 := le h3
  have e4 := le h4
  have e5 := le h5
  unfold cntR
  refine Nat.lt_of_not_le fun q => n ?_
  simp only at e1 e2 e3 e4 e5 q
  rw [inj (x := a) (y := a') (by omega), inj (x := c) (y := c') (by omega), inj (x := i) (y := i') (by omega), inj (x := u) (y := u') (by omega), inj (x := z) (y := z') (by omega)]
theorem leasts_ne : ∀ (n : Nat) {F : List RS} {R : RS}, R ∈ F → cntR R ≤ n → leasts F ≠ [] := by
  intro n
  induction n with
  | zero =>
    intro F R hR hn e
    have : R ∈ leasts F := by
      unfold leasts
      refine List.mem_filter.mpr ⟨hR, ?_⟩
      rw [Bool.not_eq_true', Bool.eq_false_iff]
      intro q
      unfold overs at q
      obtain ⟨S, hS, q⟩ := List.any_eq_true.mp q
      simp only [Bool.and_eq_true, Bool.not_eq_true', decide_eq_false_iff_not] at q
      have := le_cnt q.1 q.2
      omega
    rw [e] at this
    cases this
  | succ n ih =>
    intro F R hR hn
    by_cases q : overs F R = true
    · unfold overs at q
      obtain ⟨S, hS, q⟩ := List.any_eq_true.mp q
      simp only [Bool.and_eq_true, Bool.not_eq_true', decide_eq_false_iff_not] at q
      have := le_cnt q.1 q.2
      exact ih hS (by omega)
    · intro e
      have : R ∈ leasts F := by
        unfold leasts
        refine List.mem_filter.mpr ⟨hR, ?_⟩
        rw [Bool.not_eq_true']
        exact Bool.eq_false_iff.mpr q
      rw [e] at this
      cases this
theorem used_need {t : Tree} {ds : List Deed} (h : Steps t ds) : usedR ds ∈ need t (cur t ds) := mem_need.mpr (h.sound fun d hd => usedR_has hd)
theorem spar_ne {t : Tree} {ds : List Deed} (h : Steps t ds) : spar (need t (cur t ds)) (usedR ds) ≠ [] :=
  leasts_ne _ (List.mem_filter.mpr ⟨used_need h, le_refl _⟩) (Nat.le_refl _)
end NL
set_option Elab.async false
set_option linter.all false
set_option maxRecDepth 100000
set_option maxHeartbeats 8000000
/-! a list beside the empty one. -/
namespace NL
open PySem PySem.Spec PyProof.Rows L2 SX LamX
section
variable {X : Cx}
theorem o_neLen (hu : X.A.units < cLine) : OpR X (compareOp .NotEq) (fun x y H Q => ∃ a b xs ys, x = .ref a ∧ y = .ref b ∧ H a = some (.lst xs) ∧ H b = some (.lst ys) ∧ xs.length ≠ ys.length ∧ Q (.bl true) H) := by
  intro pins s σ H x y v u Q I rx ry ⟨a, b, xs, ys, ex, ey, ha, hb, hne, q⟩
  subst ex ey
  obtain rfl : v = Value.ref a := rx
  obtain rfl : u = Value.ref b := ry
  obtain ⟨_, its, n, r, hl1⟩ := I.hok a _ ha
  obtain ⟨_, its2, n2, r2, hb1⟩ := I.hok b _ hb
  have hn : (its.toArray.size != its2.toArray.size) = true := by
    rw [List.size_toArray, List.size_toArray, ← r.length, ← r2.length]
    simpa using hne
  have fin : EP X pins σ Q (.bool true) s := ⟨.bl true, H, I, rfl, q⟩
  show wpAny _ _ (richCompare .NotEq (.ref a) (.ref b)) _ _ _
  refine wpAny_richCompare_same_room (op := .NotEq) ⟨_, hl1, rfl⟩ ⟨_, hb1, rfl⟩ PySem.F.slot_list_ne (GQ.call_here PySem.F.slot_list_ne ⟨_, hl1, rfl⟩ PySem.F.entry_list_ne (PySem.F.args_list_ne_2 _ _) ?_) hu
  have f3 := PySem.AutoSeq1.sub_list_list
  obtain ⟨hp, g, d, tk, os⟩ := s
  wp_walk using PySem.AutoSeq1.wpAny_loadPart' hl1, PySem.AutoSeq1.wpAny_loadPart' hb1
  rw [if_pos hn]
  exact wpAny_bind (wpAny_rule (wpAny_pure ⟨(fun z => nomatch z), fin⟩))
theorem op_nnil {X : Cx} {j : Nat} (hr : Room j X.A) : OpR X (compareOp .NotEq) (fun x y H Q => ∃ a b xs, x = .ref a ∧ y = .ref b ∧ H a = some (.lst xs) ∧ H b = some (.lst []) ∧ Q (.bl (!decide (xs = []))) H) := by
  have h := (op_neD (X := X) hr.units).or (o_neLen hr.units0)
  intro pins s σ H x y v u Q I rx ry ⟨a, b, xs, ex, ey, ha, hb, q⟩
  refine h pins s σ H x y v u Q I rx ry ?_
  cases xs with
  | nil =>
    refine .inl ⟨.list [], .list [], ?_, ?_, by decide +kernel, by decide +kernel, by rw [show PyData.eqv (.list []) (.list []) = true from by decide +kernel]; simpa using q⟩
    · rw [ex]; exact .lst (SqL.of ha) .nil
    · rw [ey]; exact .lst (SqL.of hb) .nil
  | cons z zs => exact .inr ⟨a, b, z :: zs, [], ex, ey, ha, hb, by simp, by simpa using q⟩
end
end NL
set_option Elab.async false
set_option linter.all false
set_option maxRecDepth 100000
set_option maxHeartbeats 8000000
/-! the law's end. -/
namespace NL
open PySem PySem.Spec PyProof.Rows L2 SX LamX
section
variable {P : Program} {w : World} {K : PySem.W.Frag} {mg : Str → Option Value} {base : Heap}
/-- the trees that the law keeps beside the board -/
def TreesAt (H : Hp) (l : Addr) (t : Tree) (ds : List Deed) : Prop := ∃ ws : List V, H l = some (.lst ws) ∧ ws.length = ds.length + 1 ∧ ∀ (i : Nat) v, ws[i]? = some v → LT H v (cur t (ds.take i))
def pm_lends (K : PySem.W.Frag) : Pm := fun vs H Q => ∃ p d l v t ds, vs = [.ref p, v, .ref l] ∧ BoardAt K H p d t ds ∧ Low t ds ∧ ds.length ≤ 100 ∧ Steps t ds ∧ LT H v t ∧ TreesAt H l t ds ∧ l ≠ d ∧ Tabs (TT K) H ∧
  ∀ H', (∀ b o, H b = some o → b ≠ d → (∀ ps, o ≠ .tbl ps) → H' b = some o) → Q (.bl true) H'
theorem ok_lends (T : Txt K mg) (TB : TabB base mg (evC K) (evT K)) : Ok P w K mg base 203 (a__law_ends K) (pm_lends K) := by
  have GU : Ok P w K mg base 3 (a_Board_used K) (pm_bused K) := ok_bused T
  have GB : Ok P w K mg base 1 (a_Board_begun K) (pm_bbegun K) := ok_bbegun T
  have GW : Ok P w K mg base 132 (a_Board_now K) (pm_bnow K) := ok_bnow T
  have GN : Ok P w K mg base 134 (a_Board_needed K) (pm_bneeded K) := ok_bneeded T TB
  have GSp : Ok P w K mg base 136 (a_Board_spared K) (pm_bspared K) := ok_bspared T TB
  have GSt : Ok P w K mg base 1 (a_Board_steps K) (pm_bsteps K) := ok_bsteps T
  have GUn : Ok P w K mg base 1 (a_Board_undo K) (pm_bundo K) := ok_bundo T
  have GFC : Ok P w K mg base 3 (a_Family_contains K) (pm_fcontains K) := ok_fcontains T
  have GRC : Ok P w K mg base 1 (a_Rules_contains K) (pm_rcontains K) := ok_rcontains T
  have GWi : Ok P w K mg base 1 (a_Rules_within K) (pm_within K) := ok_within T
  have GE : Ok P w K mg base 3 (a_Rules_every K) (pm_every K) := ok_every T TB
  have GS : Ok P w K mg base 1 (a_Way_str K) (pm_wstr K) := ok_wstr T
  have GT : Ok P w K mg base 61 (a__law_text K) (pm_ltext 60) := ok_ltext T 60
  have GLv : Ok P w K mg base 61 (a__law_leaves K) (pm_lleaves 60) := ok_lleaves T 60
  have GLo : Ok P w K mg base 138 (a__law_looks K) (pm_llooks K) := ok_llooks T TB
  have GWk := ok_walked (P := P) (w := w) (base := base) T
  have GAl := ok_alike (P := P) (w := w) (base := base) T
  have mc := m_Rules_contains T
  refine ok_of (F__law_ends T) c_law_ends b__law_ends (fun vs H Q h => ?_) (fun cdv A outer s H vs Q E hr h => ?_)
  · obtain ⟨p, d, l, v, t, ds, rfl, _⟩ := h
    rfl
  obtain ⟨p, d, l, v, t, ds, rfl, hB, lo, ln, hS, hv, hL, nld, hT, k⟩ := h
  refine ⟨_, pss_cons (ps_set (i := 3) c_law_ends.nd rfl (.inl rfl) (e_meth0 (pv 0) (cl_Board T) (m_Board_used T) GU hr (by omega)))
    (pss_cons (ps_set (i := 4) c_law_ends.nd rfl (.inl rfl) (pe_lst (pa_cons (e_meth0 (pv 0) (cl_Board T) (m_Board_begun T) GB hr (by omega)) (pa_cons (e_meth0 (pv 0) (cl_Board T) (m_Board_now T) GW hr (by omega)) pa_nil))))
    (pss_cons (ps_if (PW.pt (pw_or (pt_cmpR (o_notIn GFC (m_Family_contains T) hr (by omega)) (pv 3) (e_meth0 (pv 0) (cl_Board T) (m_Board_needed T) GN hr (by omega)) (by rfl)) (pw_or1 (pt_cmpR (op_nil hr) (e_meth0 (pv 0) (cl_Board T) (m_Board_spared T) GSp hr (by omega)) (pe_lst pa_nil) (nomark _))))) (pss_one (ps_ret pe_bl)) pss_nil)
    (pss_cons (ps_if (PW.pt (pw_and (pt_cmpR (o_notIn GRC mc hr (by omega)) pe_str (pv 3) (by rfl)) (pw_and1 (pt_not (pt_val (e_callK GWk hr (by omega) (g_walked T) (k_walked T) (pa_cons (pe_ix ix_list (pv 4) pe_int (fun _ _ => rfl)) (pa_cons (pe_ix ix_list (pv 4) pe_int (fun _ _ => rfl)) (pa_cons (e_meth0 (pv 0) (cl_Board T) (m_Board_steps T) GSt hr (by omega)) pa_nil))) (pk_cons (pv 3) pk_nil))))))) (pss_one (ps_ret pe_bl)) pss_nil)
    (pss_cons (ps_for PassesOwn.never rfl (pi_list (e_cmeth0 (pe_glob (v := .ref (cRules K)) rfl (g_Rules T) rfl) (rules_read T) (rules_every T) GE hr (by omega))) (pg_name (i := 5) c_law_ends.nd rfl (.inl rfl))
      (pss_one (ps_if (PW.pt (pw_and (pt_val (e_meth (pv 3) (cl_Rules T) (m_Rules_within T) GWi hr (by omega) (pa_cons (pv 5) pa_nil))) (pw_and1 (pt_not (pt_val (e_callK GAl hr (by omega) (g_alike T) (k_alike T) (pa_cons (pe_ix ix_list (pv 4) pe_int (fun _ _ => rfl)) (pa_cons (pe_ix ix_list (pv 4) pe_int (fun _ _ => rfl)) pa_nil)) (pk_cons (pv 5) pk_nil))))))) (pss_one (ps_ret pe_bl)) pss_nil)))
    (pss_cons (ps_for PassesOwn.never rfl (pi_reversed (by rfl) (z_reversed T) (pa_cons (pv 2) pa_nil)) (pg_name (i := 6) c_law_ends.nd rfl (.inl rfl))
      (pss_cons (ps_if (pt_cmpR op_ne (pe_callTy (c_str GS (m_Way_str T) hr (by omega)) (by rfl) (z_str T) (by decide +kernel) (pa_cons (e_meth0 (pv 0) (cl_Board T) (m_Board_now T) GW hr (by omega)) pa_nil)) (e_call GT hr (by omega) (g__law_text T) (k__law_text T) (pa_cons (pv 6) pa_nil)) (nomark _)) (pss_one (ps_ret pe_bl)) pss_nil)
      (pss_cons (ps_if (PW.pt (pw_and (pt_cmpR op_lt (pe_callB call_len_seq (by rfl) (z_len T) PySem.boot_len (pa_cons (e_call GLv hr (by omega) (g__law_leaves T) (k__law_leaves T) (pa_cons (pv 6) pa_nil)) pa_nil)) pe_int (nomark _)) (pw_and1 (pt_not (pt_val (e_call GLo hr (by omega) (g__law_looks T) (k__law_looks T) (pa_cons (pv 0) (pa_cons (pv 1) (pa_cons (pv 6) (pa_cons (pe_cmpR op_eq (pe_op op_mod (pe_callB call_len_seq (by rfl) (z_len T) PySem.boot_len (pa_cons (pv 2) pa_nil)) pe_int) pe_int (nomark _)) pa_nil)))))))))) (pss_one (ps_ret pe_bl)) pss_nil)
      (pss_one (ps_if (pt_cmpR (op_nnil hr) (e_meth0 (pv 0) (cl_Board T) (m_Board_steps T) GSt hr (by omega)) (pe_lst pa_nil) (nomark _)) (pss_one (ps_expr (e_meth0 (pv 0) (cl_Board T) (m_Board_undo T) GUn hr (by omega)))) pss_nil)))))
    (pss_one (ps_ret (pe_and (pe_cmpR (op_nil hr) (e_meth0 (pv 0) (cl_Board T) (m_Board_steps T) GSt hr (by omega)) (pe_lst pa_nil) (nomark _)) (pe_one (pe_cmpR op_eq (pe_callTy (c_str GS (m_Way_str T) hr (by omega)) (by rfl) (z_str T) (by decide +kernel) (pa_cons (e_meth0 (pv 0) (cl_Board T) (m_Board_now T) GW hr (by omega)) pa_nil)) (e_call GT hr (by omega) (g__law_text T) (k__law_text T) (pa_cons (pv 1) pa_nil)) (nomark _))))))))))), ?_⟩
  obtain ⟨dx, pf, ts, o, _⟩ := id hB
  refine ⟨_, rfl, p, dx, _, rfl, o, bf_used, p, d, t, ds, rfl, hB, by omega, fun H1 u s1 hu => ?_⟩
  have hB1 := hB.same s1
  refine ⟨_, rfl, p, dx, _, rfl, s1 _ _ o, bf_begun, p, d, t, ds, rfl, hB1, fun q1 wq1 => ?_⟩
  refine ⟨_, rfl, p, dx, _, rfl, s1 _ _ o, bf_now, p, d, t, ds, rfl, hB1, lo, fun H2 q2 s2 wq2 => ?_⟩
  refine ⟨(by show 2 ≤ sizeLine; decide), fun y ny => ?_⟩
  have s13 : Same H1 (upd H2 y (.lst [.ref q1, .ref q2])) := Same.upd s2 ny
  have s3 : Same H (upd H2 y (.lst [.ref q1, .ref q2])) := fun b o e => s13 b o (s1 b o e)
  have hy : (upd H2 y (.lst [.ref q1, .ref q2])) y = some (.lst [.ref q1, .ref q2]) := upd_same
  have w1 := wq1.gr (.of s13)
  have w2 := wq2.gr (.of (same_upd (o := .lst [.ref q1, .ref q2]) ny))
  have hu3 := hu.gr (.of s13)
  have nyd : y ≠ d := fun e => by
    obtain ⟨_, _, _, _, _, od, _⟩ := hB1
    have := s2 _ _ od
    rw [← e, ny] at this
    cases this
  have hyH : H y = none := Same.none s1 (Same.none s2 ny)
  generalize upd H2 y (.lst [.ref q1, .ref q2]) = H3 at s3 hy w1 w2 hu3
  have hB3 := hB.same s3
  have T3 := hT.ext s3
  clear s13 wq1 wq2 hu hB1
  refine ⟨_, rfl, _, rfl, p, dx, _, rfl, s3 _ _ o, bf_needed, p, d, t, ds, rfl, hB3, lo, T3, fun H4 f m x4 T4 n4 hF => ?_⟩
  refine ⟨f, rfl, hF.is, f, m, _, u, usedR ds, rfl, hF, need_len _ _, hu3.gr x4.gr, fun H5 s5 => ⟨_, rfl, _, rfl, ?_⟩⟩
  rw [decide_eq_true (used_need hS)]
  have X5 : Ex H3 H5 := x4.trans (.of s5)
  have hB5 := hB3.ex X5
  obtain ⟨dx5, pf5, ts5, o5, _⟩ := id hB5
  refine iteF ⟨_, rfl, p, dx5, _, rfl, o5, bf_spared, p, d, t, ds, rfl, hB5, lo, by omega, T4.ext s5, fun H6 l6 qs6 x6 T6 n6 hl6 hR6 => ?_⟩
  refine ⟨Nat.zero_le _, fun c nc => ?_⟩
  have sc := same_upd (o := .lst []) nc
  refine ⟨l6, c, _, rfl, rfl, sc _ _ hl6, upd_same, _, rfl, ?_⟩
  have hne : qs6.map V.ref ≠ [] := fun e => spar_ne hS (List.eq_nil_of_length_eq_zero (by rw [← hR6.1, List.map_eq_nil_iff.mp e]; rfl))
  rw [decide_eq_false hne]
  refine iteF ?_
  have X6 : Ex H3 (upd H6 c (.lst [])) := X5.trans (x6.trans (.of sc))
  have T6' := T6.ext sc
  generalize upd H6 c (.lst []) = H7 at X6 T6'
  clear hne hl6 hR6 n6 nc sc x6 T6 hB5 o5 X5 s5 hF n4 T4 x4
  have hB7 := hB3.ex X6
  have hy7 := X6 _ _ hy (fun _ z => nomatch z)
  have hu7 := hu3.gr X6.gr
  have w17 := w1.gr X6.gr
  have w27 := w2.gr X6.gr
  obtain ⟨dx7, pf7, ts7, o7, _⟩ := id hB7
  refine ⟨_, rfl, u, rfl, hu7.is, u, 65, usedR ds, by rw [cA], hu7, _, rfl, _, rfl, ?_⟩
  rw [has_a]
  refine' suffH (A := fun H2 => Same H7 H2) (fun hN => ?goA) ?goB
  case goA =>
    by_cases ha : (usedR ds).a = true
    case pos =>
      rw [ha]
      exact iteF (iteF (hN H7 (Same.refl H7)))
    case neg =>
      have ha := Bool.eq_false_iff.mpr ha
      rw [ha]
      refine iteT ⟨_, rfl, y, _, 0, _, rfl, rfl, SqL.of hy7, atI_nat (j := 0) rfl, _, rfl, y, _, 1, _, rfl, rfl, SqL.of hy7, atI_nat (j := 1) rfl, _, rfl, p, dx7, _, rfl, o7, bf_steps, p, d, t, ds, rfl, hB7, fun H8 l8 ts8 s8 nl8 hl8 he8 => ?_⟩
      refine ⟨_, rfl, rfl, rfl, q1, q2, l8, u, t, ds, ts8, usedR ds, rfl, w17.gr (.of s8), w27.gr (.of s8), hl8, he8, hu7.gr (.of s8), lo, ha, fun d hd => usedR_has hd, hS, fun H9 s9 => ⟨_, rfl, iteF ?_⟩⟩
      exact hN H9 fun b o e => s9 b o (s8 b o e)
  case goB =>
  intro H8 s8
  have X8 : Ex H3 H8 := X6.trans (.of s8)
  refine ⟨rfl, rfl, T6'.ext s8, fun H9 r rs x9 T9 n9 hr9 hR9 => ?_⟩
  obtain ⟨es, rfl, ee, he⟩ := hR9.zs
  have X9 : Ex H3 H9 := X8.trans x9
  have hy9 := X9 _ _ hy (fun _ z => nomatch z)
  have hu9 := hu3.gr X9.gr
  have w19 := w1.gr X9.gr
  have w29 := w2.gr X9.gr
  have lc := lo.cur
  have l1 := lo.1
  refine ⟨r, rfl, ⟨_, SqL.of hr9⟩, ?_⟩
  refine for_it (walk_list (K := K) (a := r) (xs := (es.map (·.1)).map V.ref)) (fun i σ H' => Same H9 H' ∧ ∃ x, σ = [some (.ref p), some v, some (.ref l), some (.ref u), some (.ref y), x, none]) ⟨Same.refl H9, _, rfl⟩ (fun i σ H' _ q => SqL.of (q.1 _ _ hr9)) ?_ ?_
  · rintro i z σ Ha Hb hi ⟨sa, x0, rfl⟩ ⟨rfl, hx⟩
    rw [List.map_map] at hx
    obtain ⟨e, e1, rfl⟩ := map_at' hx
    have re := (he e (List.mem_of_getElem? e1)).gr (.of sa)
    have hub := hu9.gr (.of sa)
    obtain ⟨du, ou⟩ := id hub
    refine ⟨_, rfl, u, du, _, rfl, ou, rf_within, _, rfl, u, e.1, usedR ds, e.2, rfl, hub, re, fun Hc sc => ⟨_, rfl, ?_⟩⟩
    have sac : Same H9 Hc := fun b o e => sc b o (sa b o e)
    cases hb : (usedR ds).le e.2 with
    | false => exact iteF (iteF ⟨sac, _, rfl⟩)
    | true =>
      refine iteT ⟨_, rfl, y, _, 0, _, rfl, rfl, SqL.of (sac _ _ hy9), atI_nat (j := 0) rfl, _, rfl, y, _, 1, _, rfl, rfl, SqL.of (sac _ _ hy9), atI_nat (j := 1) rfl, _, rfl, rfl, q1, q2, e.1, t, cur t ds, e.2, rfl, rfl, w19.gr (.of sac), w29.gr (.of sac), re.gr (.of sc), by omega, by omega, fun Hd sd => ⟨_, rfl, ?_⟩⟩
      rw [decide_eq_true (hS.sound fun d hd => RS.le_has hb (usedR_has hd))]
      exact iteF ⟨fun b o e => sd b o (sac b o e), _, rfl⟩
  rintro σ H10 ⟨s10, x0, rfl⟩
  have X10 : Ex H3 H10 := X9.trans (.of s10)
  have T10 := T9.ext s10
  clear hy9 hu9 w19 w29 hr9 hR9 n9 s10 x9 T9 X9 X8 s8 w17 w27 hu7 hy7 hB7 X6 T6'
  obtain ⟨ws, hws, lws, hw⟩ := hL
  have R10 : ∀ b o, H b = some o → b ≠ d → (∀ ps, o ≠ .tbl ps) → H10 b = some o := fun b o e _ n => X10 _ _ (s3 _ _ e) n
  have hB10 := hB3.ex X10
  refine ⟨_, rfl, l, _, rfl, SqL.of (R10 _ _ hws nld (fun _ z => nomatch z)), ?_⟩
  have low : ∀ n, Low t (ds.take n) := fun n => ⟨lo.1, fun x hx => lo.2 x (List.mem_of_mem_take hx)⟩
  refine for_it (walk_rev (K := K) (a := l) (xs := ws)) (fun i σ H' => (∀ b o, H b = some o → b ≠ d → (∀ ps, o ≠ .tbl ps) → H' b = some o) ∧ BoardAt K H' p d t (ds.take (ds.length - i)) ∧ Tabs (TT K) H' ∧ ∃ x y', σ = [some (.ref p), some v, some (.ref l), some (.ref u), some (.ref y), x, y'])
    ⟨R10, by rw [Nat.sub_zero, List.take_length]; exact hB10, T10, _, _, rfl⟩ (fun i σ H' _ q => SqL.of (q.1 _ _ hws nld (fun _ z => nomatch z))) ?_ ?_
  · rintro i z σ Ha Hb hi ⟨ra, hBa, Ta, x0, y0, rfl⟩ ⟨rfl, hx⟩
    rw [show ws.length - 1 - i = ds.length - i by omega] at hx
    have lz := hw _ _ hx
    obtain ⟨_, _, ts0, _, _, od0, _⟩ := id hB
    have g0 : Gr H Hb := fun b o e nl nt => ra b o e (fun h => by
      rw [h, od0] at e
      cases e
      exact nl _ rfl) nt
    have ej : ds.length - (i + 1) = (ds.length - i) - 1 := by omega
    rw [ej]
    have lj : ds.length - i ≤ ds.length := by omega
    generalize ds.length - i = j at hBa lz lj ⊢
    have lcj := (low j).cur
    have dcj := (cur t (ds.take j)).depth_lt
    obtain ⟨dxa, pfa, tsa, oa, _⟩ := id hBa
    refine ⟨_, rfl, p, dxa, _, rfl, oa, bf_now, p, d, t, ds.take j, rfl, hBa, low j, fun Hc q sc wq => ?_⟩
    refine ⟨q, rfl, wq.is, q, _, rfl, wq, _, rfl, ?_⟩
    have lzc := (lz.gr g0).gr (.of sc)
    refine ⟨_, rfl, z, _, rfl, lzc, by omega, by omega, ?_⟩
    refine ⟨rfl, _, rfl, ?_⟩
    rw [decide_eq_true rfl]
    refine iteF ?_
    refine' suffH (A := fun H2 => Ex Hc H2 ∧ Tabs (TT K) H2) (fun hN => ?goA) ?goB
    case goA =>
      refine ⟨_, rfl, z, _, rfl, lzc, by omega, by omega, fun l2 H2 s2 nl2 hl2 => ?_⟩
      refine ⟨l2, _, rfl, .inl (SqL.of hl2), _, _, rfl, rfl, _, rfl, ?_⟩
      by_cases hq : (((cur t (ds.take j)).leaves.map leafV).length : Int) < 11
      case neg =>
        rw [decide_eq_false hq]
        exact iteF (iteF (hN H2 ⟨(Ex.of s2), (Ta.ext sc).ext s2⟩))
      case pos =>
        rw [decide_eq_true hq]
        have sc2 : Same Hb H2 := fun b o e => s2 b o (sc b o e)
        have hws2 := sc2 _ _ (ra _ _ hws nld (fun _ z => nomatch z))
        refine iteT ⟨_, rfl, _, rfl, _, rfl, _, rfl, l, _, rfl, .inl (SqL.of hws2), _, _, rfl, rfl, (by show (0 : Int) < 2; decide), ?_⟩
        refine ⟨rfl, p, d, t, ds.take j, v, z, _, rfl, hBa.same sc2, low j, by rw [List.length_take]; omega, (hv.gr g0).gr (.of sc2), lzc.gr (.of s2), Ta.ext sc2, fun H3' x3 T3' => ⟨_, rfl, iteF ?_⟩⟩
        exact hN H3' ⟨(Ex.of s2).trans x3, T3'⟩
    case goB =>
    rintro Hd ⟨Xd, Td⟩
    have hBd := (hBa.same sc).ex Xd
    have rd : ∀ b o, H b = some o → b ≠ d → (∀ ps, o ≠ .tbl ps) → Hd b = some o := fun b o e n1 n2 => Xd _ _ (sc _ _ (ra b o e n1 n2)) n2
    obtain ⟨dxd, pfd, tsd, od, _⟩ := id hBd
    refine ⟨_, rfl, p, dxd, _, rfl, od, bf_steps, p, d, t, ds.take j, rfl, hBd, fun He l8 ts8 s8 nl8 hl8 he8 => ?_⟩
    refine ⟨Nat.zero_le _, fun c nc => ?_⟩
    have sce := same_upd (o := .lst []) nc
    refine ⟨l8, c, _, rfl, rfl, sce _ _ hl8, upd_same, _, rfl, ?_⟩
    have s9 : Same Hd (upd He c (.lst [])) := Same.upd s8 nc
    have hB9 := hBd.same s9
    have T9 := Td.ext s9
    generalize upd He c (.lst []) = H9 at s9 hB9 T9
    have r9 : ∀ b o, H b = some o → b ≠ d → (∀ ps, o ≠ .tbl ps) → H9 b = some o := fun b o e n1 n2 => s9 _ _ (rd b o e n1 n2)
    have dec : decide (ts8.map V.ref = []) = decide (ds.take j = []) := by
      refine decide_eq_decide.mpr ⟨fun z => List.eq_nil_of_length_eq_zero (by rw [← he8.1, List.map_eq_nil_iff.mp z]; rfl), fun z => ?_⟩
      rw [List.map_eq_nil_iff]
      exact List.eq_nil_of_length_eq_zero (by rw [he8.1, z]; rfl)
    rw [dec]
    by_cases hn : ds.take j = []
    · rw [decide_eq_true hn]
      refine iteF ⟨r9, ?_, T9, _, _, rfl⟩
      have : ds.take (j - 1) = ds.take j := by
        rw [hn]
        have : j = 0 ∨ ds = [] := by simpa using hn
        rcases this with h | h <;> simp [h]
      rw [this]
      exact hB9
    · rw [decide_eq_false hn]
      obtain ⟨dx9, pf9, ts9, o9, _⟩ := id hB9
      refine iteT ⟨_, rfl, p, dx9, _, rfl, o9, bf_undo, p, d, t, ds.take j, rfl, hB9, hn, fun Hf xf hBf => ?_⟩
      obtain ⟨_, _, ts9', _, _, od9, _⟩ := id hB9
      have sx : Sx [d] H9 Hf := fun b o e n => xf b o e (by simpa using n)
      refine ⟨fun b o e n1 n2 => xf _ _ (r9 _ _ e n1 n2) n1, ?_, Tabs.sx T9 sx fun b h => ?_, _, _, rfl⟩
      · have : ds.take (j - 1) = (ds.take j).dropLast := by
          rw [List.dropLast_eq_take, List.take_take, List.length_take]
          congr 1
          omega
        rw [this]
        exact hBf
      · rw [List.mem_singleton.mp h]
        exact ⟨_, od9, (fun _ z => nomatch z), (fun _ z => nomatch z)⟩
  · rintro σ Ha ⟨ra, hBa, Ta, x0, y0, rfl⟩
    rw [show ds.length - ws.length = 0 by omega, List.take_zero] at hBa
    obtain ⟨_, _, ts0, _, _, od0, _⟩ := id hB
    obtain ⟨dxa, pfa, tsa, oa, _⟩ := id hBa
    have g0 : Gr H Ha := fun b o e nl nt => ra b o e (fun h => by
      rw [h, od0] at e
      cases e
      exact nl _ rfl) nt
    have dt := t.depth_lt
    refine ⟨_, rfl, p, dxa, _, rfl, oa, bf_steps, p, d, t, [], rfl, hBa, fun He l8 ts8 s8 nl8 hl8 he8 => ?_⟩
    refine ⟨Nat.zero_le _, fun c nc => ?_⟩
    have sce := same_upd (o := .lst []) nc
    refine ⟨l8, c, _, rfl, rfl, sce _ _ hl8, upd_same, ?_⟩
    have e8 : ts8 = [] := List.eq_nil_of_length_eq_zero (by rw [he8.1]; rfl)
    rw [e8, show decide (([] : List Addr).map V.ref = []) = true from decide_eq_true rfl]
    have s9 : Same Ha (upd He c (.lst [])) := Same.upd s8 nc
    have hB9 := hBa.same s9
    generalize upd He c (.lst []) = H9 at s9 hB9
    obtain ⟨dx9, pf9, ts9, o9, _⟩ := id hB9
    refine ⟨_, rfl, iteT ?_⟩
    refine ⟨_, rfl, p, dx9, _, rfl, o9, bf_now, p, d, t, [], rfl, hB9, ⟨lo.1, fun x hx => (nomatch hx)⟩, fun Hc q sc wq => ?_⟩
    refine ⟨q, rfl, wq.is, q, _, rfl, wq, _, rfl, ?_⟩
    refine ⟨_, rfl, v, t, rfl, (hv.gr g0).gr (.of fun b o e => sc b o (s9 b o e)), by omega, by omega, rfl, ?_⟩
    rw [show decide (V.str (S (cur t []).txt) = V.str (S t.txt)) = true from decide_eq_true rfl]
    exact k Hc fun b o e n1 n2 => sc _ _ (s9 _ _ (ra b o e n1 n2))
end
end NL
set_option Elab.async false
set_option linter.all false
set_option maxRecDepth 100000
set_option maxHeartbeats 8000000
/-! what stands between the law's turns. -/
namespace NL
open PySem PySem.Spec PyProof.Rows L2 SX LamX
section
variable {K : PySem.W.Frag}
/-- lists at Y and tables may change -/
def Kp (Y : List Addr) (H H' : Hp) : Prop := ∀ b o, H b = some o → b ∉ Y → (∀ ps, o ≠ .tbl ps) → H' b = some o
theorem Kp.ex {Y : List Addr} {H H' : Hp} (x : Ex H H') : Kp Y H H' := fun b o e _ n => x b o e n
theorem Kp.sx {Y : List Addr} {H H' : Hp} (x : Sx Y H H') : Kp Y H H' := fun b o e n _ => x b o e n
theorem Kp.of {Y : List Addr} {H H' : Hp} (x : Same H H') : Kp Y H H' := fun b o e _ _ => x b o e
theorem Kp.lst {Y : List Addr} {H H' : Hp} (x : Kp Y H H') {a : Addr} {xs : List V} (e : H a = some (.lst xs)) (n : a ∉ Y) : H' a = some (.lst xs) := x a _ e n fun _ z => nomatch z
theorem Kp.gr {Y : List Addr} {H H' : Hp} (x : Kp Y H H') (hY : ∀ y ∈ Y, ∃ xs, H y = some (.lst xs)) : Gr H H' := fun b o e n m => x b o e (fun h => by
  obtain ⟨xs, q⟩ := hY _ h
  rw [e] at q
  exact n xs (Option.some.inj q)) m
theorem KeptAt.kp {X Y : List Addr} {H H' : Hp} {z : Addr} (h : KeptAt K X H z) (x : Kp Y H H') (hY : ∀ y ∈ Y, y ∈ X ∧ ∃ xs, H y = some (.lst xs)) : KeptAt K X H' z := by
  obtain ⟨f, l, u, m, Rs, U, hz, hF, hn, hl, hu, n1, n2, n3⟩ := h
  have g : Gr H H' := x.gr fun d hd => (hY d hd).2
  have k : ∀ {a : Addr} {xs : List V}, a ∉ X → H a = some (.lst xs) → H' a = some (.lst xs) := fun n e => x.lst e fun q => n (hY _ q).1
  obtain ⟨df, qs, of, om, _⟩ := id hF
  exact ⟨f, l, u, m, Rs, U, k n1 hz, hF.gr g fun o e => by
    rw [om] at e
    cases e
    exact k n3 om, hn, k n2 hl, hu.gr g, n1, n2, n3⟩
theorem KeptAt.cons {X : List Addr} {H : Hp} {z p : Addr} (h : KeptAt K X H z) (n : H p = none) : KeptAt K (p :: X) H z := by
  obtain ⟨f, l, u, m, Rs, U, hz, hF, hn, hl, hu, n1, n2, n3⟩ := h
  obtain ⟨df, qs, of, om, _⟩ := id hF
  have k : ∀ {a : Addr} {o : HO}, a ∉ X → H a = some o → a ∉ p :: X := fun na e q => by
    rcases List.mem_cons.mp q with z | z
    · rw [z, n] at e
      cases e
    · exact na z
  exact ⟨f, l, u, m, Rs, U, hz, hF, hn, hl, hu, k n1 hz, k n2 hl, k n3 om⟩
theorem KeptAt.less {X : List Addr} {H : Hp} {z p : Addr} (h : KeptAt K (p :: X) H z) : KeptAt K X H z := by
  obtain ⟨f, l, u, m, Rs, U, hz, hF, hn, hl, hu, n1, n2, n3⟩ := h
  exact ⟨f, l, u, m, Rs, U, hz, hF, hn, hl, hu, fun q => n1 (List.mem_cons_of_mem _ q), fun q => n2 (List.mem_cons_of_mem _ q), fun q => n3 (List.mem_cons_of_mem _ q)⟩
/-- between two steps of the law: the pool at pl, the board at p, its deeds at d, the trees at tr, the kept rows at ke, the cells at q -/
structure LS (K : PySem.W.Frag) (H : Hp) (pl p d tr ke q : Addr) (cs : List Int) (v : V) (t : Tree) (ds : List Deed) (i j : Nat) : Prop where
  po : PoolAt H pl
  b : BoardAt K H p d t ds
  lo : Low t ds
  st : Steps t ds
  ln : ds.length ≤ i
  ts : TreesAt H tr t ds
  ks : ∃ zs : List Addr, H ke = some (.lst (zs.map V.ref)) ∧ zs.length ≤ j ∧ ∀ z ∈ zs, KeptAt K [pl, d, tr, ke] H z
  vt : LT H v t
  tb : Tabs (TT K) H
  ql : H q = some (.lst (cs.map V.int))
  ne : pl ≠ d ∧ pl ≠ tr ∧ pl ≠ ke ∧ pl ≠ q ∧ d ≠ tr ∧ d ≠ ke ∧ d ≠ q ∧ tr ≠ ke ∧ tr ≠ q ∧ ke ≠ q
variable {H H' H1 H2 : Hp} {pl p d tr ke q : Addr} {cs : List Int} {v : V} {t : Tree} {ds : List Deed} {i j : Nat}
theorem BoardAt.dl (h : BoardAt K H p d t ds) : ∃ xs, H d = some (.lst xs) := let ⟨_, _, _, _, _, o, _⟩ := h; ⟨_, o⟩
theorem BoardAt.kp {Y : List Addr} (h : BoardAt K H p d t ds) (x : Kp Y H H') (hY : ∀ y ∈ Y, ∃ xs, H y = some (.lst xs)) (n : d ∉ Y) : BoardAt K H' p d t ds := h.gr (x.gr hY) fun o e => by
  obtain ⟨xs, z⟩ := h.dl
  rw [z] at e
  cases e
  exact x.lst z n
theorem TreesAt.kp {Y : List Addr} (h : TreesAt H tr t ds) (x : Kp Y H H') (hY : ∀ y ∈ Y, ∃ xs, H y = some (.lst xs)) (n : tr ∉ Y) : TreesAt H' tr t ds := by
  obtain ⟨ws, e, l, z⟩ := h
  exact ⟨ws, x.lst e n, l, fun i v g => (z i v g).gr (x.gr hY)⟩
theorem LS.lists (h : LS K H pl p d tr ke q cs v t ds i j) : ∀ y ∈ [pl, d, tr, ke], ∃ xs, H y = some (.lst xs) := by
  obtain ⟨a, b, c, e⟩ := h.po
  obtain ⟨xs, e1⟩ := h.b.dl
  obtain ⟨ws, e2, _⟩ := h.ts
  obtain ⟨zs, e3, _⟩ := h.ks
  intro y hy
  simp only [List.mem_cons, List.not_mem_nil, or_false] at hy
  rcases hy with rfl | rfl | rfl | rfl
  · exact ⟨_, e⟩
  · exact ⟨_, e1⟩
  · exact ⟨_, e2⟩
  · exact ⟨_, e3⟩
theorem LS.keep (h : LS K H pl p d tr ke q cs v t ds i j) (x : Kp [pl] H H') (T' : Tabs (TT K) H') (po' : PoolAt H' pl) : LS K H' pl p d tr ke q cs v t ds i j := by
  obtain ⟨n1, n2, n3, n4, n5, n6, n7, n8, n9, n0⟩ := h.ne
  have hl := h.lists
  have hY : ∀ y ∈ [pl], ∃ xs, H y = some (.lst xs) := fun y hy => hl y (by simp at hy; simp [hy])
  obtain ⟨zs, e3, l3, k3⟩ := h.ks
  exact ⟨po', h.b.kp x hY (by simpa using n1.symm), h.lo, h.st, h.ln, h.ts.kp x hY (by simpa using n2.symm), ⟨zs, x.lst e3 (by simpa using n3.symm), l3, fun z hz => (k3 z hz).kp x fun y hy => ⟨by simp at hy; simp [hy], hY y hy⟩⟩,
    h.vt.gr (x.gr hY), T', x.lst h.ql (by simpa using n4.symm), h.ne⟩
theorem LS.pool (h : LS K H pl p d tr ke q cs v t ds i j) (x : Sx [pl] H H') (po' : PoolAt H' pl) : LS K H' pl p d tr ke q cs v t ds i j :=
  h.keep (.sx x) (Tabs.sx h.tb x fun y hy => by
    obtain ⟨xs, e⟩ := h.lists y (by simp at hy; simp [hy])
    exact Plain1.lst e) po'
theorem LS.ex (h : LS K H pl p d tr ke q cs v t ds i j) (x : Ex H H') (T' : Tabs (TT K) H') : LS K H' pl p d tr ke q cs v t ds i j :=
  h.keep (.ex x) T' (let ⟨a, b, c, e⟩ := h.po; ⟨a, b, c, x.lst e⟩)
theorem LS.same (h : LS K H pl p d tr ke q cs v t ds i j) (s : Same H H') : LS K H' pl p d tr ke q cs v t ds i j :=
  h.ex (.of s) (h.tb.ext s)
theorem LS.newPool {pl' : Addr} (h : LS K H pl p d tr ke q cs v t ds i j) (s : Same H H') (n : H pl' = none) (po : PoolAt H' pl') : LS K H' pl' p d tr ke q cs v t ds i j := by
  have h' := h.same s
  obtain ⟨zs, e3, l3, k3⟩ := h.ks
  obtain ⟨xs, e1⟩ := h.b.dl
  obtain ⟨ws, e2, _⟩ := h.ts
  have w : ∀ {a : Addr} {o : HO}, H a = some o → pl' ≠ a := fun e z => by
    rw [← z, n] at e
    cases e
  obtain ⟨n1, n2, n3, n4, n5⟩ := h.ne
  exact ⟨po, h'.b, h'.lo, h'.st, h'.ln, h'.ts, ⟨zs, s _ _ e3, l3, fun z hz => ((k3 z hz).less.cons n).kp (Y := []) (.of s) fun y hy => absurd hy (by simp)⟩, h'.vt, h'.tb, h'.ql, w e1, w e2, w e3, w h.ql, n5⟩
theorem LS.last (h : LS K H pl p d tr ke q cs v t ds i j) : ∃ ws v', H tr = some (.lst ws) ∧ ws.length = ds.length + 1 ∧ ws[ws.length - 1]? = some v' ∧ atI ws (-1) = some v' ∧ LT H v' (cur t ds) := by
  obtain ⟨ws, e, l, k⟩ := h.ts
  have hj : ws.length - 1 < ws.length := by omega
  have g : ws[ws.length - 1]? = some ws[ws.length - 1] := List.getElem?_eq_getElem hj
  refine ⟨ws, _, e, l, g, ?_, ?_⟩
  · unfold atI ixN
    rw [if_neg (by decide), if_pos (by omega), show (-1 + (ws.length : Int)).toNat = ws.length - 1 by omega]
    exact g
  · have := k _ _ g
    have e2 : List.take (ws.length - 1) ds = ds := List.take_of_length_le (by omega)
    rw [e2] at this
    exact this
theorem take_dropLast {α : Type} (l : List α) {n : Nat} (h : n + 1 ≤ l.length) : l.dropLast.take n = l.take n := by
  rw [List.dropLast_eq_take, List.take_take]
  congr 1
  omega
theorem take_snoc {α : Type} (l : List α) (x : α) {n : Nat} (h : n ≤ l.length) : (l ++ [x]).take n = l.take n := List.take_append_of_le_length h
/-- a deed taken back, its tree dropped -/
theorem LS.back {ws : List V} (h : LS K H pl p d tr ke q cs v t ds i j) (hne : ds ≠ []) (hw : H tr = some (.lst ws)) (x : ∀ b o, H b = some o → b ≠ d → H1 b = some o) (b1 : BoardAt K H1 p d t ds.dropLast) :
    LS K (upd H1 tr (.lst ws.dropLast)) pl p d tr ke q cs v t ds.dropLast i j := by
  obtain ⟨n1, n2, n3, n4, n5, n6, n7, n8, n9, n0⟩ := h.ne
  have hl := h.lists
  have hw1 : H1 tr = some (.lst ws) := x _ _ hw n5.symm
  have X : Sx [d, tr] H (upd H1 tr (.lst ws.dropLast)) := fun b o e n => by
    simp only [List.mem_cons, List.not_mem_nil, or_false, not_or] at n
    rw [upd_ne n.2]
    exact x b o e n.1
  have X1 : Sx [tr] H1 (upd H1 tr (.lst ws.dropLast)) := Sx.set
  have hY : ∀ y ∈ [d, tr], ∃ xs, H y = some (.lst xs) := fun y hy => hl y (by simp at hy; rcases hy with e | e <;> simp [e])
  have g := Kp.gr (.sx X) hY
  obtain ⟨zs, e3, l3, k3⟩ := h.ks
  obtain ⟨ws', e2, l2, k2⟩ := h.ts
  rw [hw] at e2
  cases e2
  have dl : 0 < ds.length := by
    cases ds with
    | nil => exact absurd rfl hne
    | cons => simp
  refine ⟨let ⟨a, b, c, e⟩ := h.po; ⟨a, b, c, X _ _ e (by simp [n1, n2])⟩, b1.kp (Y := [tr]) (.sx X1) (fun y hy => by simp at hy; rw [hy]; exact ⟨_, hw1⟩) (by simpa using n5), ⟨h.lo.1, fun y hy => h.lo.2 y (List.dropLast_subset _ hy)⟩, h.st.dropLast, by rw [List.length_dropLast]; have := h.ln; omega,
    ⟨ws.dropLast, upd_same, by rw [List.length_dropLast, List.length_dropLast]; omega, fun a y hy => ?_⟩, ⟨zs, X _ _ e3 (by simp [n6.symm, n8.symm]), l3, fun z hz => (k3 z hz).kp (.sx X) fun y hy => ⟨by simp at hy; rcases hy with e | e <;> simp [e], hY y hy⟩⟩,
    h.vt.gr g, Tabs.sx h.tb X fun y hy => ?_, X _ _ h.ql (by simp [n7.symm, n9.symm]), h.ne⟩
  · have ha : a < ws.dropLast.length := (List.getElem?_eq_some_iff.mp hy).1
    rw [List.length_dropLast] at ha
    rw [take_dropLast _ (by omega)]
    refine (k2 a y ?_).gr g
    rw [List.getElem?_dropLast] at hy
    rw [if_pos (by omega)] at hy
    exact hy
  · obtain ⟨xs, e⟩ := hY y hy
    exact Plain1.lst e
theorem LS.mid {ws ws' : List V} (h : LS K H pl p d tr ke q cs v t ds i j) (hw : H tr = some (.lst ws)) : BoardAt K (upd H tr (.lst ws')) p d t ds :=
  h.b.kp (Y := [tr]) (.sx Sx.set) (fun y hy => by simp at hy; rw [hy]; exact ⟨_, hw⟩) (by simpa using h.ne.2.2.2.2.1)
/-- a deed done, its tree appended -/
theorem LS.go {ws : List V} {z : V} {e : Deed} (h : LS K H pl p d tr ke q cs v t ds i j) (hw : H tr = some (.lst ws)) (lz : LT H z e.to) (hs : e.to.size ≤ 20) (hst : Step (cur t ds) e) (x : Sx [d] (upd H tr (.lst (ws ++ [z]))) H2) (b2 : BoardAt K H2 p d t (ds ++ [e])) :
    LS K H2 pl p d tr ke q cs v t (ds ++ [e]) (i + 1) j := by
  obtain ⟨n1, n2, n3, n4, n5, n6, n7, n8, n9, n0⟩ := h.ne
  have hl := h.lists
  have X : Sx [d, tr] H H2 := fun b o e n => by
    simp only [List.mem_cons, List.not_mem_nil, or_false, not_or] at n
    exact x b o (by rw [upd_ne n.2]; exact e) (by simpa using n.1)
  have hY : ∀ y ∈ [d, tr], ∃ xs, H y = some (.lst xs) := fun y hy => hl y (by simp at hy; rcases hy with e | e <;> simp [e])
  have g := Kp.gr (.sx X) hY
  obtain ⟨zs, e3, l3, k3⟩ := h.ks
  obtain ⟨ws', e2, l2, k2⟩ := h.ts
  rw [hw] at e2
  cases e2
  refine ⟨let ⟨a, b, c, e⟩ := h.po; ⟨a, b, c, X _ _ e (by simp [n1, n2])⟩, b2, ⟨h.lo.1, fun y hy => ?_⟩, h.st.snoc hst, by rw [List.length_append]; have := h.ln; simp; omega,
    ⟨ws ++ [z], x _ _ upd_same (by simpa using n5.symm), by simp [l2], fun a y hy => ?_⟩, ⟨zs, X _ _ e3 (by simp [n6.symm, n8.symm]), l3, fun z hz => (k3 z hz).kp (.sx X) fun y hy => ⟨by simp at hy; rcases hy with e | e <;> simp [e], hY y hy⟩⟩,
    h.vt.gr g, Tabs.sx h.tb X fun y hy => ?_, X _ _ h.ql (by simp [n7.symm, n9.symm]), h.ne⟩
  · rcases List.mem_append.mp hy with m | m
    · exact h.lo.2 y m
    · rw [List.mem_singleton.mp m]
      exact hs
  · by_cases ha : a < ws.length
    · rw [List.getElem?_append_left ha] at hy
      rw [take_snoc _ _ (by omega)]
      exact (k2 a y hy).gr g
    · have ha' : a < (ws ++ [z]).length := (List.getElem?_eq_some_iff.mp hy).1
      simp at ha'
      have ea : a = ws.length := by omega
      rw [ea, List.getElem?_append_right (Nat.le_refl _), Nat.sub_self] at hy
      obtain rfl : z = y := by simpa using hy
      rw [ea, List.take_of_length_le (by simp [l2]), cur_snoc]
      exact lz.gr g
  · obtain ⟨xs, e⟩ := hY y hy
    exact Plain1.lst e
/-- a row kept -/
theorem LS.add {zs : List Addr} {z : Addr} (h : LS K H pl p d tr ke q cs v t ds i j) (hk : H ke = some (.lst (zs.map V.ref))) (hz : KeptAt K [pl, d, tr, ke] H z) (hzs : ∀ z ∈ zs, KeptAt K [pl, d, tr, ke] H z) (lz : zs.length ≤ j) :
    LS K (upd H ke (.lst (zs.map V.ref ++ [.ref z]))) pl p d tr ke q cs v t ds i (j + 1) := by
  obtain ⟨n1, n2, n3, n4, n5, n6, n7, n8, n9, n0⟩ := h.ne
  have X : Sx [ke] H (upd H ke (.lst (zs.map V.ref ++ [.ref z]))) := Sx.set
  have hY : ∀ y ∈ [ke], ∃ xs, H y = some (.lst xs) := fun y hy => h.lists y (by simp at hy; simp [hy])
  have g := Kp.gr (.sx X) hY
  have kk : ∀ {y : Addr}, KeptAt K [pl, d, tr, ke] H y → KeptAt K [pl, d, tr, ke] (upd H ke (.lst (zs.map V.ref ++ [.ref z]))) y := fun hy => hy.kp (.sx X) fun y hy => ⟨by simp at hy; simp [hy], hY y hy⟩
  refine ⟨let ⟨a, b, c, e⟩ := h.po; ⟨a, b, c, X _ _ e (by simpa using n3)⟩, h.b.kp (.sx X) hY (by simpa using n6), h.lo, h.st, h.ln, h.ts.kp (.sx X) hY (by simpa using n8), ⟨zs ++ [z], by rw [upd_same, List.map_append]; rfl, by simp; omega, fun y hy => ?_⟩,
    h.vt.gr g, Tabs.sx h.tb X fun y hy => ?_, X _ _ h.ql (by simpa using n0.symm), h.ne⟩
  · rcases List.mem_append.mp hy with m | m
    · exact kk (hzs y m)
    · rw [List.mem_singleton.mp m]
      exact kk hz
  · obtain ⟨xs, e⟩ := hY y hy
    exact Plain1.lst e
theorem deed_size {u x y : Tree} {k : Nat} {l : Bool} (h : deedF u k l x = some y) (hx : x.size ≤ 2) (hk : k < 8) : y.size ≤ 2 * u.size + 1 := by
  have n9 : k = 0 ∨ k = 1 ∨ k = 2 ∨ k = 3 ∨ k = 4 ∨ k = 5 ∨ k = 6 ∨ k = 7 := by omega
  have up := u.size_pos
  unfold deedF at h
  rcases n9 with rfl | rfl | rfl | rfl | rfl | rfl | rfl | rfl <;> simp at h <;> (repeat' split at h) <;> (try simp only [Option.some.injEq, reduceCtorEq] at h) <;> (try subst h) <;> (try simp only [Tree.size] at *) <;> (try omega)
  all_goals
    rw [← h.2]
    simp only [Tree.size]
    omega
end
end NL
set_option Elab.async false
set_option linter.all false
set_option maxRecDepth 100000
set_option maxHeartbeats 8000000
/-! the law. -/
namespace NL
open PySem PySem.Spec PyProof.Rows L2 SX LamX
section
variable {P : Program} {w : World} {K : PySem.W.Frag} {mg : Str → Option Value} {base : Heap}
theorem cut_cells (ns : List Int) : ∃ cs : List Int, cutV (ns.map V.int) (some 2) (some 9) = cs.map V.int ∧ cs.length ≤ 9 := by
  refine ⟨(ns.drop (HT.sIx (ns.map V.int).length 0 (some 2))).take (HT.sIx (ns.map V.int).length (ns.map V.int).length (some 9) - HT.sIx (ns.map V.int).length 0 (some 2)), ?_, ?_⟩
  · unfold cutV
    rw [← List.map_drop, ← List.map_take]
  · have h : HT.sIx (ns.map V.int).length (ns.map V.int).length (some 9) ≤ 9 := by
      rw [show (some 9 : Option Int) = some ((9 : Nat) : Int) from rfl, HT.sIx_nat]
      omega
    rw [List.length_take]
    omega
theorem lim_if {b : Bool} {C : L2.St → Hp → Prop} {D : Ends} {o0 o1 : Option V} {r : List (Option V)} {H : Hp} (h : ∀ lim : Int, lim = 11 ∨ lim = 21 → C (o0 :: o1 :: some (.int lim) :: r) H) :
    if b = true then tAsg (tC (.int 21)) (gName 2) { D with nx := C } (o0 :: o1 :: some (.int 11) :: r) H else C (o0 :: o1 :: some (.int 11) :: r) H := by
  cases b with
  | true => exact iteT (h 21 (.inr rfl))
  | false => exact iteF (h 11 (.inl rfl))
def pm_law (K : PySem.W.Frag) : Pm := fun vs H Q => ∃ (a : Addr) (ns : List Int), vs = [.ref a] ∧ SqL K H a (ns.map V.int) ∧ ns.length ≤ 1000 ∧ Tabs (TT K) H ∧ ∀ H', Q (.bl true) H'
theorem bod_law (T : Txt K mg) (TB : TabB base mg (evC K) (evT K)) : Bod P w K mg base nlaw "law" slaw (a_law K) 207 (pm_law K) := by
  have GPo : Ok P w K mg base 1 (a__law_pool K) pm_pool := ok_pool T
  have GTk : Ok P w K mg base 1 (a__law_take K) pm_takeI := ok_takeI T
  have GCe : Ok P w K mg base 1 (a__law_cell K) (pm_cell K) := ok_cell T
  have GTr : Ok P w K mg base 62 (a__law_tree K) (pm_ltree 60) := ok_ltree T 60
  have GTx : Ok P w K mg base 61 (a__law_text K) (pm_ltext 60) := ok_ltext T 60
  have GLv : Ok P w K mg base 61 (a__law_leaves K) (pm_lleaves 60) := ok_lleaves T 60
  have GPu : Ok P w K mg base 61 (a__law_put K) (pm_lput 60) := ok_lput T 60
  have GDe : Ok P w K mg base 6 (a__law_deed K) pm_ldeed := ok_ldeed T
  have GDr : Ok P w K mg base 67 (a__law_drawn K) pm_ldrawn := ok_ldrawn T
  have GDn : Ok P w K mg base 205 (a__law_done K) (pm_ldone K) := ok_ldone T
  have GLo : Ok P w K mg base 138 (a__law_looks K) (pm_llooks K) := ok_llooks T TB
  have GKe : Ok P w K mg base 136 (a__law_kept K) (pm_lkept K) := ok_lkept T TB
  have GSy : Ok P w K mg base 5 (a__law_stays K) (pm_lstays K) := ok_lstays T
  have GEn : Ok P w K mg base 203 (a__law_ends K) (pm_lends K) := ok_lends T TB
  have GBi : Ok P w K mg base 1 (a_Board_init K) (pm_binit K) := ok_binit T
  have GWy : Ok P w K mg base 130 (a_Way_init K) (pm_winit (K := K) 64) := ok_way T
  have GUn : Ok P w K mg base 1 (a_Board_undo K) (pm_bundo K) := ok_bundo T
  intro cdv A outer s H vs Q E hr h
  obtain ⟨a, ns, rfl, ha, hn, hT, k⟩ := h
  refine ⟨_, (pss_cons (ps_set (i := 1) claw.nd rfl (.inl rfl) (e_call GPo hr (by omega) (g__law_pool T) (k__law_pool T) (pa_cons (e_call GCe hr (by omega) (g__law_cell T) (k__law_cell T) (pa_cons (pv 0) (pa_cons pe_int pa_nil))) pa_nil)))
      (pss_cons (ps_set (i := 2) claw.nd rfl (.inl rfl) pe_int)
      (pss_cons (ps_if (pt_cmpR op_eq (e_call GTk hr (by omega) (g__law_take T) (k__law_take T) (pa_cons (pv 1) (pa_cons pe_int pa_nil))) pe_int (nomark _)) (pss_one (ps_set (i := 2) claw.nd rfl (.inl rfl) pe_int)) pss_nil)
      (pss_cons (ps_set (i := 3) claw.nd rfl (.inl rfl) (e_call GTr hr (by omega) (g__law_tree T) (k__law_tree T) (pa_cons (pv 1) (pa_cons (pe_op op_add (pe_op op_add pe_int (e_call GTk hr (by omega) (g__law_take T) (k__law_take T) (pa_cons (pv 1) (pa_cons pe_int pa_nil)))) (pe_op op_mul (pe_op op_fdiv (pv 2) pe_int) pe_int)) (pa_cons (pe_lst (pa_cons pe_str (pa_cons pe_str (pa_cons pe_str (pa_cons pe_str (pa_cons pe_str pa_nil)))))) pa_nil)))))
      (pss_cons (ps_set (i := 4) claw.nd rfl (.inl rfl) (e_make (mk_Board T) GBi hr (by omega) (g_Board T) (pa_cons (e_make (mk_Way T) GWy hr (by omega) (g_Way T) (pa_cons (e_call GTx hr (by omega) (g__law_text T) (k__law_text T) (pa_cons (pv 3) pa_nil)) pa_nil)) pa_nil)))
      (pss_cons (ps_set (i := 5) claw.nd rfl (.inl rfl) (pe_lst (pa_cons (pv 3) pa_nil)))
      (pss_cons (ps_set (i := 6) claw.nd rfl (.inl rfl) (pe_lst pa_nil))
      (pss_cons (ps_for PassesOwn.never rfl (pi_list (pe_op op_cat (pe_lst (pa_cons (e_call GCe hr (by omega) (g__law_cell T) (k__law_cell T) (pa_cons (pv 0) (pa_cons pe_int pa_nil))) pa_nil)) (pe_callTy call_list_of (by rfl) (z_list T) (by decide +kernel) (pa_cons (pe_slice sl_list (pv 0) (po_some pe_int) (po_some pe_int)) pa_nil)))) (pg_name (i := 7) claw.nd rfl (.inl rfl))
      (pss_cons (ps_set (i := 1) claw.nd rfl (.inl rfl) (e_call GPo hr (by omega) (g__law_pool T) (k__law_pool T) (pa_cons (pv 7) pa_nil)))
      (pss_cons (ps_if (PW.pt (pw_and (pt_cmpR op_eq (e_call GTk hr (by omega) (g__law_take T) (k__law_take T) (pa_cons (pv 1) (pa_cons pe_int pa_nil))) pe_int (nomark _)) (pw_and1 (pt_cmpR op_gt (pe_callB call_len_seq (by rfl) (z_len T) PySem.boot_len (pa_cons (pv 5) pa_nil)) pe_int (nomark _))))) (pss_cons (ps_expr (e_meth0 (pv 4) (cl_Board T) (m_Board_undo T) GUn hr (by omega)))
      (pss_one (ps_expr (pe_bm0 PySem.F.plainAttrs_list PySem.F.slot_list_pop PySem.F.type_list_pop mt_pop (pv 5))))) pss_nil)
      (pss_cons (ps_set (i := 8) claw.nd rfl (.inl rfl) (e_call GDr hr (by omega) (g__law_drawn T) (k__law_drawn T) (pa_cons (pv 1) (pa_cons (pe_ix ix_list (pv 5) (pe_un un_neg pe_int) (fun _ _ => rfl)) pa_nil))))
      (pss_cons (ps_set (i := 9) claw.nd rfl (.inl rfl) (e_call GDe hr (by omega) (g__law_deed T) (k__law_deed T) (pa_cons (pe_ix ix_list (pv 5) (pe_un un_neg pe_int) (fun _ _ => rfl)) (pa_cons (pe_ix ix_list (pv 8) pe_int (fun _ _ => rfl)) (pa_cons (pe_ix ix_list (pv 8) pe_int (fun _ _ => rfl)) (pa_cons (pe_ix ix_list (pv 8) pe_int (fun _ _ => rfl)) (pa_cons (pe_ix ix_list (pv 8) pe_int (fun _ _ => rfl)) pa_nil)))))))
      (pss_cons (ps_if (PW.pt (pw_and (pt_cmpR op_notN (pv 9) pe_non (nomark _)) (pw_and1 (pt_cmpR op_lt (pe_callB call_len_seq (by rfl) (z_len T) PySem.boot_len (pa_cons (e_call GLv hr (by omega) (g__law_leaves T) (k__law_leaves T) (pa_cons (e_call GPu hr (by omega) (g__law_put T) (k__law_put T) (pa_cons (pe_ix ix_list (pv 5) (pe_un un_neg pe_int) (fun _ _ => rfl)) (pa_cons (pe_ix ix_list (pv 8) pe_int (fun _ _ => rfl)) (pa_cons (pv 9) pa_nil)))) pa_nil)) pa_nil)) (pv 2) (nomark _))))) (pss_cons (ps_expr (pe_bm PySem.F.plainAttrs_list PySem.F.slot_list_append PySem.F.type_list_append mt_append (pv 5) (pa_cons (e_call GPu hr (by omega) (g__law_put T) (k__law_put T) (pa_cons (pe_ix ix_list (pv 5) (pe_un un_neg pe_int) (fun _ _ => rfl)) (pa_cons (pe_ix ix_list (pv 8) pe_int (fun _ _ => rfl)) (pa_cons (pv 9) pa_nil)))) pa_nil)))
      (pss_one (ps_if (pt_cmpR op_notN (e_call GDn hr (by omega) (g__law_done T) (k__law_done T) (pa_cons (pv 4) (pa_cons (pe_ix ix_list (pv 8) pe_int (fun _ _ => rfl)) (pa_cons (pe_ix ix_list (pv 8) pe_int (fun _ _ => rfl)) (pa_cons (pe_ix ix_list (pv 8) pe_int (fun _ _ => rfl)) (pa_cons (pe_ix ix_list (pv 8) pe_int (fun _ _ => rfl)) pa_nil)))))) pe_non (nomark _)) (pss_one (ps_ret pe_bl)) pss_nil))) pss_nil)
      (pss_cons (ps_if (pt_not (pt_val (e_call GLo hr (by omega) (g__law_looks T) (k__law_looks T) (pa_cons (pv 4) (pa_cons (pv 3) (pa_cons (pe_ix ix_list (pv 5) (pe_un un_neg pe_int) (fun _ _ => rfl)) (pa_cons (pe_cmpR op_eq (e_call GTk hr (by omega) (g__law_take T) (k__law_take T) (pa_cons (pv 1) (pa_cons pe_int pa_nil))) pe_int (nomark _)) pa_nil))))))) (pss_one (ps_ret pe_bl)) pss_nil)
      (pss_one (ps_expr (pe_bm PySem.F.plainAttrs_list PySem.F.slot_list_append PySem.F.type_list_append mt_append (pv 6) (pa_cons (e_call GKe hr (by omega) (g__law_kept T) (k__law_kept T) (pa_cons (pv 4) pa_nil)) pa_nil)))))))))))
      (pss_one (ps_ret (pe_and (e_call GSy hr (by omega) (g__law_stays T) (k__law_stays T) (pa_cons (pv 6) pa_nil)) (pe_and (e_call GEn hr (by omega) (g__law_ends T) (k__law_ends T) (pa_cons (pv 4) (pa_cons (pv 3) (pa_cons (pv 5) pa_nil)))) (pe_one (e_call GSy hr (by omega) (g__law_stays T) (k__law_stays T) (pa_cons (pv 6) pa_nil))))))))))))))), ?_⟩
  refine ⟨_, rfl, a, ns, 0, rfl, ha, hn, fun c0 => ⟨c0, rfl, fun p H1 s1 np hp => ?_⟩⟩
  refine ⟨_, rfl, ?_⟩
  refine to_take hp (by decide) (by decide) fun r1 H2 _ x2 p2 => ?_
  refine ⟨rfl, _, rfl, ?_⟩
  refine lim_if fun lim hlim => ?_
  refine ⟨_, rfl, _, rfl, ?_⟩
  refine to_take p2 (by decide) (by decide) fun r2 H3 r2b x3 p3 => ?_
  refine ⟨_, _, rfl, rfl, _, rfl, _, _, rfl, rfl, ⟨by decide, by decide⟩, _, _, rfl, rfl, .inr (by decide), _, _, rfl, rfl, (by show 5 ≤ sizeLine; decide), fun nm nn => ?_⟩
  have s4 := same_upd (o := .lst [.str "a", .str "b", .str "e", .str "z", .str "a"]) nn
  have p4 : PoolAt (upd H3 nm (.lst [.str "a", .str "b", .str "e", .str "z", .str "a"])) p := let ⟨a, b, c, e⟩ := p3; ⟨a, b, c, s4 _ _ e⟩
  obtain ⟨m, hm, m1, m2⟩ : ∃ m : Nat, 1 + (r2 : Int) + lim / 21 * 5 = m ∧ 1 ≤ m ∧ m ≤ 10 := by
    rcases hlim with rfl | rfl
    · exact ⟨1 + r2, by omega, by omega, by omega⟩
    · exact ⟨1 + r2 + 5, by omega, by omega, by omega⟩
  refine ⟨p, m, nm, [.a, .b, .e, .z, .a], by rw [← hm], p4, ?_, by simp, by simp, m1, by omega, by omega, fun H5 v t x5 p5 hv zt => ?_⟩
  · rw [upd_same, show Str.ofString "a" = S [L.a.code] by decide +kernel, show Str.ofString "z" = S [L.z.code] by decide +kernel, show Str.ofString "b" = S [L.b.code] by decide +kernel, show Str.ofString "e" = S [L.e.code] by decide +kernel]
    rfl
  have X5 : Sx [p] H1 H5 := x2.trans (x3.trans ((Sx.of s4).trans x5))
  have T5 : Tabs (TT K) H5 := Tabs.sx (hT.ext s1) X5 fun y hy => by
    obtain ⟨a, b, c, e⟩ := hp
    rw [List.mem_singleton.mp hy]
    exact Plain1.lst e
  clear p4 s4 nn x5 x3 x2 p3 p2 hm nm
  have lt := t.txt_len
  have dt := t.depth_lt
  refine ⟨_, rfl, v, t, rfl, hv, by omega, by omega, ?_⟩
  intro wz wd nz nd ne
  refine ⟨wz, wd, t, rfl, upd_same, by omega, by omega, fun H6 x6 w6 => ⟨rfl, ?_⟩⟩
  have s6 : Same H5 H6 := same_made (o := .lst []) nz nd x6
  have S6 : Same H H6 := fun b o e => s6 b o (X5 b o (s1 b o e) (by
    intro q
    rw [List.mem_singleton.mp q, np] at e
    cases e))
  have hv6 := hv.gr (.of s6)
  have T6 := T5.ext s6
  have p6 : PoolAt H6 p := let ⟨a, b, c, e⟩ := p5; ⟨a, b, c, s6 _ _ e⟩
  clear X5 T5 p5 hv x6 nz nd ne s6
  intro bz bd nbz nbd nb
  have sm : Same H6 (upd (upd H6 bd (.own bz)) bz (.ins (cBoard K) bd [])) := Same.upd (same_upd nbd) (by rw [upd_ne nb.symm]; exact nbz)
  refine ⟨bz, bd, wz, t, rfl, upd_same, w6.gr (.of sm), fun H7 d x7 nd7 b7 => ⟨rfl, ?_⟩⟩
  have s7 : Same H6 H7 := same_made (o := .lst []) nbz nbd x7
  have npd : p ≠ d := fun z => by
    obtain ⟨a, b, c, e⟩ := p6
    have q := sm _ _ e
    rw [z] at q
    exact absurd (q.symm.trans nd7) (by simp)
  refine ⟨_, rfl, (by show 1 ≤ sizeLine; decide), fun tr ntr => ?_⟩
  have s8 := same_upd (o := .lst [v]) ntr
  refine ⟨Nat.zero_le _, fun ke nke => ?_⟩
  have s9 := same_upd (o := .lst []) nke
  have k8 : (upd H7 tr (.lst [v])) tr = some (.lst [v]) := upd_same
  generalize upd H7 tr (.lst [v]) = H8 at s8 s9 k8 nke ⊢
  have k9 : (upd H8 ke (.lst [])) ke = some (.lst []) := upd_same
  generalize upd H8 ke (.lst []) = H9 at s9 k9 ⊢
  have S79 : Same H7 H9 := fun b o e => s9 b o (s8 b o e)
  have S9 : Same H H9 := fun b o e => S79 b o (s7 b o (S6 b o e))
  have S69 : Same H6 H9 := fun b o e => S79 b o (s7 b o e)
  refine ⟨_, rfl, a, ns, 1, rfl, ha.ext S9, hn, fun c1 => ?_⟩
  refine ⟨(by show 1 ≤ sizeLine; decide), fun l1 nl1 => ?_⟩
  have s10 := same_upd (o := .lst [.int c1]) nl1
  have k10 : (upd H9 l1 (.lst [.int c1])) l1 = some (.lst [.int c1]) := upd_same
  generalize upd H9 l1 (.lst [.int c1]) = H10 at s10 k10 ⊢
  refine ⟨_, rfl, _, rfl, _, rfl, a, _, rfl, ha.ext (fun b o e => s10 b o (S9 b o e)), fun l2 nl2 => ?_⟩
  obtain ⟨cs, ecs, lcs⟩ := cut_cells ns
  have s11 := same_upd (o := .lst (cutV (ns.map V.int) (some 2) (some 9))) nl2
  have k11 : (upd H10 l2 (.lst (cutV (ns.map V.int) (some 2) (some 9)))) l2 = some (.lst (cs.map V.int)) := by rw [← ecs]; exact upd_same
  generalize upd H10 l2 (.lst (cutV (ns.map V.int) (some 2) (some 9))) = H11 at s11 k11 ⊢
  refine ⟨l2, _, rfl, .inl (SqL.of k11), fun l3 nl3 => ?_⟩
  have s12 := same_upd (o := .lst (cs.map V.int)) nl3
  have k12 : (upd H11 l3 (.lst (cs.map V.int))) l3 = some (.lst (cs.map V.int)) := upd_same
  generalize upd H11 l3 (.lst (cs.map V.int)) = H12 at s12 k12 ⊢
  have S912 : Same H9 H12 := fun b o e => s12 b o (s11 b o (s10 b o e))
  refine ⟨l1, l3, _, _, rfl, rfl, s12 _ _ (s11 _ _ k10), k12, (by simp; exact Nat.le_trans (by omega : _ ≤ 10) (by decide)), fun q nq => ?_⟩
  have s13 := same_upd (o := .lst ([.int c1] ++ cs.map V.int)) nq
  have k13 : (upd H12 q (.lst ([.int c1] ++ cs.map V.int))) q = some (.lst ((c1 :: cs).map V.int)) := upd_same
  generalize upd H12 q (.lst ([.int c1] ++ cs.map V.int)) = H13 at s13 k13 ⊢
  have S913 : Same H9 H13 := fun b o e => s13 b o (S912 b o e)
  have S613 : Same H6 H13 := fun b o e => S913 b o (S69 b o e)
  have S713 : Same H7 H13 := fun b o e => S913 b o (S79 b o e)
  have w : ∀ {Ha : Hp} {x y : Addr} {o : HO}, Ha x = some o → Ha y = none → x ≠ y := fun e n z => by
    rw [z, n] at e
    cases e
  obtain ⟨pa, pb, pc, pe⟩ := id p6
  obtain ⟨dxs, de⟩ := b7.dl
  have L0 : LS K H13 p bz d tr ke q (c1 :: cs) v t [] 0 0 :=
    ⟨⟨pa, pb, pc, S613 _ _ pe⟩, b7.same S713, ⟨by show t.size ≤ 20; omega, fun y hy => absurd hy (by simp)⟩, trivial, Nat.le_refl _, ⟨[v], S913 _ _ (s9 _ _ k8), rfl, fun i y hy => ?_⟩, ⟨[], S913 _ _ k9, Nat.le_refl _, fun z hz => absurd hz (by simp)⟩,
      hv6.gr (.of S613), T6.ext S613, k13, npd, w (s7 _ _ pe) ntr, w (s8 _ _ (s7 _ _ pe)) nke, w (S912 _ _ (S69 _ _ pe)) nq, w de ntr, w (s8 _ _ de) nke, w (S912 _ _ (S79 _ _ de)) nq, w k8 nke, w (S912 _ _ (s9 _ _ k8)) nq, w (S912 _ _ k9) nq⟩
  rotate_left
  · obtain ⟨rfl, rfl⟩ : i = 0 ∧ v = y := by
      cases i with
      | zero => exact ⟨rfl, by simpa using hy⟩
      | succ n => simp at hy
    exact hv6.gr (.of S613)
  clear pe de w b7 S713 S613 S913 k13 s13 nq k12 s12 nl3 k11 s11 nl2 k10 s10 nl1 S912 S69 S79 s9 s8 s7 k9 k8 nke ntr npd nd7 x7 sm p6 T6 hv6 w6 ecs
  generalize hcl : c1 :: cs = cl at L0
  have lcl : cl.length ≤ 10 := by rw [← hcl]; simp; omega
  refine ⟨q, rfl, ⟨_, SqL.of L0.ql⟩, ?_⟩
  refine for_it (walk_list (K := K) (a := q) (xs := cl.map V.int)) (fun i σ H' => ∃ pl ds vc vd vp, σ = [some (.ref a), some (.ref pl), some (.int lim), some v, some (.ref bz), some (.ref tr), some (.ref ke), vc, vd, vp] ∧ LS K H' pl bz d tr ke q cl v t ds i i)
    ⟨p, [], _, _, _, rfl, L0⟩ (fun i σ H' _ ⟨_, _, _, _, _, _, l⟩ => SqL.of l.ql) ?_ ?_
  · rintro i z σ Ha Hb hi ⟨pl, ds, vc, vd, vp, rfl, L⟩ ⟨rfl, hx⟩
    obtain ⟨c, e1, rfl⟩ := map_at' hx
    rw [List.length_map] at hi
    refine ⟨_, rfl, c, rfl, fun pl' H14 s14 npl hpl => ?_⟩
    have L1 := L.newPool s14 npl hpl
    refine ⟨_, rfl, ?_⟩
    refine to_take hpl (by decide) (by decide) fun r Hc rb xc pc => ?_
    have L2 := L1.pool xc pc
    refine ⟨rfl, _, rfl, ?_⟩
    refine' suffH (A := fun H2 => ∃ ds', LS K H2 pl' bz d tr ke q cl v t ds' i i) (fun hN => ?goA) ?goB
    case goA =>
      by_cases hb : V.int (r : Int) = V.int 1
      case neg =>
        rw [decide_eq_false hb]
        exact iteF (iteF (hN _ ⟨_, L2⟩))
      case pos =>
        rw [decide_eq_true hb]
        obtain ⟨ws, v', hw, lw, g1, g2, lv⟩ := L2.last
        refine iteT ⟨_, rfl, tr, _, rfl, .inl (SqL.of hw), _, _, rfl, rfl, _, rfl, ?_⟩
        by_cases h1 : ((ws.length : Nat) : Int) > 1
        case neg =>
          rw [decide_eq_false h1]
          exact iteF (hN _ ⟨_, L2⟩)
        case pos =>
          rw [decide_eq_true h1]
          have hne : ds ≠ [] := fun z => by
            rw [z] at lw
            rw [lw] at h1
            exact absurd h1 (by decide)
          obtain ⟨dxa, pfa, tsa, oa, _⟩ := id L2.b
          refine iteT ⟨_, rfl, bz, dxa, _, rfl, oa, bf_undo, bz, d, t, ds, rfl, L2.b, hne, fun H3 x3 b3 => ?_⟩
          have hw3 := x3 _ _ hw L2.ne.2.2.2.2.1.symm
          refine ⟨_, rfl, .inl ⟨rfl, _, SqL.of hw3⟩, tr, ws, v', rfl, rfl, hw3, g1, ?_⟩
          exact hN _ ⟨_, L2.back hne hw x3 b3⟩
    case goB =>
    rintro Hd ⟨ds1, L3⟩
    clear L1 L2 L xc pc hpl s14 npl rb
    obtain ⟨ws, v', hw, lw, g1, g2, lv⟩ := L3.last
    have cs3 := L3.lo.cur
    refine ⟨_, rfl, _, rfl, _, rfl, tr, ws, _, v', rfl, rfl, SqL.of hw, g2, ?_⟩
    refine ⟨pl', v', cur t ds1, rfl, L3.po, lv, cs3, fun He l q' k' b xv x xe pe' nl hl hq hk hx zx => ?_⟩
    have L4 := L3.pool xe pe'
    have nlt : l ≠ tr := fun z => by
      rw [z, hw] at nl
      cases nl
    clear hw g1 g2 lv lw nl xe
    obtain ⟨ws, v', hw, lw, g1, g2, lv⟩ := L4.last
    obtain ⟨u, hu⟩ := (mem_places _ q').mp hq
    refine ⟨_, rfl, _, rfl, tr, ws, _, v', rfl, rfl, SqL.of hw, g2, _, rfl, l, _, 0, _, rfl, rfl, SqL.of hl, atI_nat (j := 0) rfl, _, rfl, l, _, 1, _, rfl, rfl, SqL.of hl, atI_nat (j := 1) rfl, _, rfl, l, _, 2, _, rfl, rfl, SqL.of hl, atI_nat (j := 2) rfl, _, rfl, l, _, 3, _, rfl, rfl, SqL.of hl, atI_nat (j := 3) rfl, ?_⟩
    refine ⟨v', cur t ds1, q', u, k', b, xv, x, rfl, lv, hu, by omega, hx, by omega, hk, fun Hf z sf hz => ?_⟩
    refine ⟨_, rfl, rfl, _, rfl, ?_⟩
    have L5 := L4.same sf
    have hl5 := sf _ _ hl
    have hx5 := hx.gr (.of sf)
    clear hw g1 g2 lv lw L4 L3 hl hx pe' Hc
    obtain ⟨ws, v', hw, lw, g1, g2, lv⟩ := L5.last
    have m1 : ∀ {Hx : Hp}, LS K Hx pl' bz d tr ke q cl v t ds1 i i → ∃ ds', LS K Hx pl' bz d tr ke q cl v t ds' (i + 1) i := fun L => ⟨_, { L with ln := Nat.le_succ_of_le L.ln }⟩
    refine' suffH (A := fun H2 => ∃ ds', LS K H2 pl' bz d tr ke q cl v t ds' (i + 1) i) (fun hN => ?goA) ?goB
    case goA =>
      cases hdf : deedF u k' b x with
      | none =>
        rw [hdf] at hz
        have hz' : z = .non := hz
        rw [decide_eq_true hz']
        exact iteF (iteF (hN _ (m1 L5)))
      | some y =>
        rw [hdf] at hz
        have lz : LT Hf z y := hz
        have zn : z ≠ .non := fun e => by
          rw [e] at lz
          cases y with
          | lf y => cases (show V.non = leafV y from lz)
          | nd a b =>
            obtain ⟨_, _, _, e, _⟩ := lz
            cases e
        rw [decide_eq_false zn]
        have dsz := deed_size hdf zx hk
        have psz := put_size (v := y) hu
        have psu := part_size hu
        have pdp := part_depth hu
        have cdl := (cur t ds1).depth_lt
        have pdl := (put (cur t ds1) q' y).depth_lt
        have clv := (put (cur t ds1) q' y).leaves_len
        refine iteT ⟨_, rfl, _, rfl, tr, ws, _, v', rfl, rfl, SqL.of hw, g2, _, rfl, l, _, 0, _, rfl, rfl, SqL.of hl5, atI_nat (j := 0) rfl, _, rfl, ?_⟩
        refine ⟨v', cur t ds1, q', u, z, y, rfl, lv, lz, hu, by omega, by omega, fun Hg o sg lo => ?_⟩
        refine ⟨o, _, rfl, lo, by omega, by omega, fun ll Hh sh nll hll => ?_⟩
        have S5 : Same Hf Hh := fun b o e => sh b o (sg b o e)
        have L6 := L5.same S5
        have hw6 := S5 _ _ hw
        have hl6 := S5 _ _ hl5
        have lv6 := lv.gr (.of S5)
        have lz6 := lz.gr (.of S5)
        have hx6 := hx5.gr (.of S5)
        refine ⟨ll, _, rfl, .inl (SqL.of hll), _, rfl, _, _, rfl, rfl, _, rfl, ?_⟩
        by_cases hq : (((put (cur t ds1) q' y).leaves.map leafV).length : Int) < lim
        case neg =>
          rw [decide_eq_false hq]
          exact iteF (hN _ (m1 L6))
        case pos =>
          rw [decide_eq_true hq]
          rw [List.length_map, clv] at hq
          have p20 : (put (cur t ds1) q' y).size ≤ 20 := by omega
          refine iteT ⟨_, rfl, .inl ⟨rfl, _, SqL.of hw6⟩, _, rfl, _, rfl, tr, ws, _, v', rfl, rfl, SqL.of hw6, g2, _, rfl, l, _, 0, _, rfl, rfl, SqL.of hl6, atI_nat (j := 0) rfl, _, rfl, ?_⟩
          refine ⟨v', cur t ds1, q', u, z, y, rfl, lv6, lz6, hu, by omega, by omega, fun Hi o2 si lo2 => ?_⟩
          have L7 := L6.same si
          have hw7 := si _ _ hw6
          have hl7 := si _ _ hl6
          have hx7 := hx6.gr (.of si)
          have ln7 := L7.ln
          refine ⟨tr, ws, o2, rfl, rfl, hw7, Nat.lt_of_le_of_lt (by omega : _ ≤ 100) (by decide), ?_⟩
          have xt : Sx [tr] Hi (upd Hi tr (.lst (ws ++ [o2]))) := Sx.set
          have gt : Gr Hi (upd Hi tr (.lst (ws ++ [o2]))) := Gr.sx xt fun y hy => by
            rw [List.mem_singleton.mp hy]
            exact ⟨_, hw7⟩
          have hl8 := xt _ _ hl7 (by simpa using nlt)
          have hx8 := hx7.gr gt
          refine ⟨_, rfl, _, rfl, l, _, 0, _, rfl, rfl, SqL.of hl8, atI_nat (j := 0) rfl, _, rfl, l, _, 1, _, rfl, rfl, SqL.of hl8, atI_nat (j := 1) rfl, _, rfl, l, _, 2, _, rfl, rfl, SqL.of hl8, atI_nat (j := 2) rfl, _, rfl, l, _, 3, _, rfl, rfl, SqL.of hl8, atI_nat (j := 3) rfl, ?_⟩
          refine ⟨bz, d, t, ds1, q', u, k', b, xv, x, y, rfl, ⟨L7.mid hw7, L7.lo, by omega, hu⟩, hx8, by omega, hk, hdf, p20, fun Hj xj bj => ⟨rfl, _, rfl, ?_⟩⟩
          rw [show (!decide (V.non = V.non)) = false from rfl]
          exact iteF (hN _ ⟨_, L7.go hw7 lo2 p20 ⟨u, y, hu, rfl, deed_one hdf hk⟩ xj bj⟩)
    case goB =>
    rintro Hg ⟨ds2, L6⟩
    clear hw g1 g2 lv lw L5 hl5 hx5 m1
    obtain ⟨ws, v', hw, lw, g1, g2, lv⟩ := L6.last
    refine ⟨_, rfl, _, rfl, _, rfl, _, rfl, tr, ws, _, v', rfl, rfl, SqL.of hw, g2, _, rfl, ?_⟩
    refine to_take L6.po (by decide) (by decide) fun r2 Hh rb xh ph => ?_
    have L7 := L6.pool xh ph
    have ln7 := L7.ln
    refine ⟨rfl, bz, d, t, ds2, v, v', _, rfl, L7.b, L7.lo, by omega, L7.vt, lv.gr (L6.po.gr xh), L7.tb, fun Hi xi Ti => ⟨_, rfl, iteF ?_⟩⟩
    have L8 := L7.ex xi Ti
    obtain ⟨zs, hzs, lzs, hks⟩ := L8.ks
    refine ⟨_, rfl, .inl ⟨rfl, _, SqL.of hzs⟩, _, rfl, bz, d, t, ds2, rfl, L8.b, L8.lo, by omega, L8.tb, fun Hj y xj Tj ny hy => ?_⟩
    have L9 := L8.ex xj Tj
    have hzs9 := xj.lst hzs
    refine ⟨ke, _, .ref y, rfl, rfl, hzs9, Nat.lt_of_le_of_lt (by rw [List.length_map]; omega : _ ≤ 100) (by decide), ?_⟩
    exact ⟨pl', ds2, _, _, _, rfl, L9.add hzs9 (hy _ L8.lists) (fun z hz => (hks z hz).kp (Y := []) (.ex xj) fun y hy => absurd hy (by simp)) lzs⟩
  · rintro σ Ha ⟨pl, ds, vc, vd, vp, rfl, L⟩
    obtain ⟨zs, hzs, lzs, hk⟩ := L.ks
    refine ⟨_, rfl, ke, [pl, d, tr, ke], zs, rfl, hzs, hk, fun Hb sb => ⟨true, rfl, iteT ?_⟩⟩
    have L2 := L.same sb
    have ln := L2.ln
    rw [List.length_map] at ln
    obtain ⟨n1, n2, n3, n4, n5, n6, n7, n8, n9, n0⟩ := L2.ne
    refine ⟨_, rfl, _, rfl, _, rfl, bz, d, tr, v, t, ds, rfl, L2.b, L2.lo, by omega, L2.st, L2.vt, L2.ts, n5.symm, L2.tb, fun Hc xc => ⟨true, rfl, iteT ?_⟩⟩
    have kx : Kp [d] Hb Hc := fun b o e n nt => xc b o e (by simpa using n) nt
    refine ⟨_, rfl, ke, [pl, d, tr, ke], zs, rfl, kx.lst (sb _ _ hzs) (by simpa using n6.symm), fun z hz => ((hk z hz).kp (Y := []) (.of sb) fun y hy => absurd hy (by simp)).kp kx fun y hy => ?_, fun Hd _ => k Hd⟩
    have ey : y = d := by simpa using hy
    exact ⟨by rw [ey]; simp, L2.lists y (by rw [ey]; simp)⟩
end
end NL
set_option Elab.async false
set_option linter.all false
set_option maxRecDepth 100000
set_option maxHeartbeats 0
/-! the end. -/
namespace NL
open PySem PySem.Spec PyProof.Rows L2 SX LamX
theorem law_at {w : World} {K : PySem.W.Frag} {mg : Str → Option Value} {fa : Addr} {h : Heap} (l : PySem.W.OpenLaw) (X : K.In h) (G : h.Ns mainGlobals mg) (hm : mg "law" = some (.ref fa)) (c : Says K) (e : h.get? (evT K) = some { cls := .none, data := .fields #[] }) :
    LawAtS l w K L2.CX0 208 63 "_law_script" mg fa h := by
  have T : Txt K mg := ⟨c, h, X, G⟩
  obtain ⟨fd, F⟩ := F_law T
  have efa : fa = a_law K := by
    have z := hm.symm.trans (g_law T)
    injection z with z
    injection z
  subst efa
  have one : ∀ {q : Addr × Addr → Prop}, q (evC K, evT K) → ∀ p ∈ [(evC K, evT K)], q p := fun h p hp => by rw [List.mem_singleton.mp hp]; exact h
  refine ⟨fd, [(evC K, evT K)], fun vs H Q _ => pm_law K vs H Q, one (q := fun p => h.get? p.2 = some { cls := .none, data := .fields #[] }) e, one (q := fun p => K.lookup p.2 = none) (Option.isNone_iff_eq_none.mp (T.ex 10)), one (q := fun p => PySem.W.CodeHd h p.1 p.2) (PySem.W.codeHd_of_K X (T.ex 9)),
    fun s u => FunD.bindsA (ps := ["_law_script"]) F b_law s [u] rfl, fun H a ns hl _ ht hS => ⟨a, ns, rfl, hS, by omega, fun p hp => ?_, fun _ => rfl⟩, fun base _ _ TB => ?_⟩
  · have ep : p = (evT K, LamQ) := List.mem_singleton.mp hp
    rw [ep]
    exact TabS.nil (ht (evC K, evT K) (List.mem_singleton.mpr rfl))
  · have B := bod_law (P := l.prog) (w := w) (base := base) T (TB (evC K, evT K) (List.mem_singleton.mpr rfl))
    exact fnok F claw (fun vs H Q h => by
      obtain ⟨a, ns, rfl, _⟩ := h
      rfl) B
end NL
open PySem PySem.W PySem.Calls PyProof.Rows
theorem PySem.Challenge.cw_neededlaws_k98_whole_boards_and_needs_holds : PySem.Challenge.rw_neededlaws_k98_whole_boards_and_needs.Holds := by
  w_on; o_law
  refine HandSHeadRun.head_any (r := OpenLaw.row PySem.Challenge.rw_neededlaws_k98_whole_boards_and_needs) (q := view (OpenLaw.row PySem.Challenge.rw_neededlaws_k98_whole_boards_and_needs).prog [70]) (H := NL.hookN) (ob := NL.ob) (M := 6000) (loose := NL.nms) (d := HandSHeadRun.topDef (OpenLaw.row PySem.Challenge.rw_neededlaws_k98_whole_boards_and_needs).prog 70) (kwd := []) NL.ob_eq
    (by kernel_rfl) (fun s => by kernel_rfl) NL.run (by kernel_rfl) (by kernel_rfl) (by kernel_rfl) (by rfl) (by first | assumption | decide +kernel) (by decide +kernel) ⟨rfl, rfl, rfl, rfl, rfl, by decide +kernel⟩ ?hw ?hc
  case hw => w_witness2
  case hc =>
    refine LamX.walk_ofTsE (l := PySem.Challenge.rw_neededlaws_k98_whole_boards_and_needs) (n := 63) (k := 208) (x := "_law_script") (CX := fun _ => L2.CX0) rfl (by decide) (by kernel_rfl) ⟨rfl, by decide, by decide⟩ ?F (fun _ _ _ _ _ z => z)
    intro w mg fa h Y G hmg0
    obtain ⟨K, KX, c, e⟩ := Y
    have hmg : mg ("law" : PySem.Str) = some (.ref fa) := by
      have e : (HandSHeadRun.topDef (OpenLaw.row PySem.Challenge.rw_neededlaws_k98_whole_boards_and_needs).prog 70).name = ("law" : PySem.Str) := by kernel_rfl
      rw [← e]
      exact hmg0
    exact ⟨K, KX, NL.law_at _ KX G hmg c e⟩
