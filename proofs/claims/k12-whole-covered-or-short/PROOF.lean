import PyProof.Rows.All
import Wide.All
import OpenK.AllK
import Wide.FinOn
import KE.KStateDown
import HandS.Base
import HandS.Call
import HandS.Words
import KE.KTryMore
import KE.KIsAll
import Lean
import HandS.Ends
import HandS.More
import HandS.WordsExc
import HandS.Defaults
import HandS.ExcField
import HandS.ExcInit
import HandS.ExcIs
import HandS.Head0
import HandS.Head1
import HandS.Head2
import HandS.HeadEnd
import HandS.HeadHook1
import HandS.HeadHook2
import HandS.HeadHook3
import HandS.HeadHook4
import PyProof.EqAt
import PyProof.EqKinds
import PyProof.TupleCall
import KE.GoesEnum
import HandS.List
import HandS.Comp
import HandS.Dict
import HandS.Iter
import HandS.Walk
import KE.SortData
import KE.KExcPX
import HandS.Exc
import HandS.IsInst
import HandS.TupAny
import HandS.Style
import KE.KExcIs
import HandS.Conv
import HandS.RevRange
import HandS.Steps
import HandS.Zip
import HandS.Wide
import PySem.Challenge.RW_purseahead_k12_whole_covered_or_short_fo
section
set_option autoImplicit false
set_option linter.all false
/-! Walks along arrows, closed walks, simple rings and paths: plain Lean. -/
namespace Pa

/-- a walk from a to b along the arrows r, all its tails from lo on -/
def Wk (ar : List (Nat × Nat)) (lo : Nat) : Nat → List Nat → Nat → Prop
  | a, [], b => a = b
  | a, k :: r, b => ∃ h, ar[k]? = some (a, h) ∧ lo ≤ a ∧ Wk ar lo h r b
def tlOf (ar : List (Nat × Nat)) (k : Nat) : Nat := (ar[k]?.getD (0, 0)).1
def hdOf (ar : List (Nat × Nat)) (k : Nat) : Nat := (ar[k]?.getD (0, 0)).2
/-- the visited places -/
def pls (ar : List (Nat × Nat)) : Nat → List Nat → List Nat
  | a, [] => [a]
  | a, k :: r => a :: pls ar (hdOf ar k) r
/-- what a walk gains -/
def gs (g : Nat → Int) : List Nat → Int
  | [] => 0
  | k :: r => g k + gs g r

section
variable {ar : List (Nat × Nat)} {lo a b c k : Nat} {g : Nat → Int}

theorem gs_append (x y : List Nat) : gs g (x ++ y) = gs g x + gs g y := by
  induction x with
  | nil => simp [gs]
  | cons k x ih => simp [gs, ih]; omega

theorem tlOf_of {h : Nat} (e : ar[k]? = some (a, h)) : tlOf ar k = a := by simp [tlOf, e]
theorem hdOf_of {h : Nat} (e : ar[k]? = some (a, h)) : hdOf ar k = h := by simp [hdOf, e]

theorem Wk.append : ∀ {x y : List Nat} {a b c : Nat}, Wk ar lo a x b → Wk ar lo b y c → Wk ar lo a (x ++ y) c
  | [], y, a, b, c, h, k => by
    have h' : a = b := h
    subst h'
    exact k
  | i :: x, y, a, b, c, ⟨h, e, l, w⟩, k => ⟨h, e, l, Wk.append w k⟩
theorem Wk.split : ∀ {x y : List Nat} {a c : Nat}, Wk ar lo a (x ++ y) c → ∃ b, Wk ar lo a x b ∧ Wk ar lo b y c
  | [], y, a, c, h => ⟨a, rfl, h⟩
  | i :: x, y, a, c, ⟨h, e, l, w⟩ => by
    obtain ⟨b, h1, h2⟩ := Wk.split (x := x) w
    exact ⟨b, ⟨h, e, l, h1⟩, h2⟩
theorem Wk.snoc {x : List Nat} : Wk ar lo a (x ++ [k]) c ↔ ∃ b, Wk ar lo a x b ∧ ar[k]? = some (b, c) ∧ lo ≤ b := by
  constructor
  · intro w
    obtain ⟨b, h1, h, e, l, h2⟩ := w.split
    have h2' : h = c := h2
    subst h2'
    exact ⟨b, h1, e, l⟩
  · rintro ⟨b, h1, e, l⟩
    exact h1.append ⟨c, e, l, rfl⟩
theorem Wk.det : ∀ {x : List Nat} {a b c : Nat}, Wk ar lo a x b → Wk ar lo a x c → b = c
  | [], a, b, c, h, k => (show a = b from h).symm.trans (show a = c from k)
  | i :: x, a, b, c, ⟨h, e, _, w⟩, ⟨h', e', _, w'⟩ => by
    rw [e] at e'
    cases e'
    exact Wk.det w w'
theorem Wk.start : ∀ {x : List Nat} {a b c d : Nat}, x ≠ [] → Wk ar lo a x b → Wk ar lo c x d → a = c
  | i :: x, a, b, c, d, _, ⟨h, e, _, w⟩, ⟨h', e', _, w'⟩ => by
    rw [e] at e'
    cases e'
    rfl
theorem pls_append : ∀ {x y : List Nat} {a b : Nat}, Wk ar lo a x b → pls ar a (x ++ y) = (pls ar a x).dropLast ++ pls ar b y
  | [], y, a, b, h => by
    have h' : a = b := h
    subst h'
    simp [pls]
  | i :: x, y, a, b, ⟨h, e, _, w⟩ => by
    simp only [List.cons_append, pls, hdOf_of e]
    rw [pls_append w]
    cases q : pls ar h x with
    | nil => cases x <;> simp [pls] at q
    | cons p ps => simp [List.dropLast]
theorem pls_ne {x : List Nat} : pls ar a x ≠ [] := by cases x <;> simp [pls]
theorem pls_length : ∀ {x : List Nat} {a : Nat}, (pls ar a x).length = x.length + 1
  | [], a => rfl
  | i :: x, a => by simp [pls, pls_length (x := x)]
theorem pls_snoc : ∀ {x : List Nat} {a : Nat}, pls ar a (x ++ [k]) = pls ar a x ++ [hdOf ar k]
  | [], a => by simp [pls]
  | i :: x, a => by simp [pls, pls_snoc (x := x)]
/-- the tails of a walk are its places but the last -/
theorem tails_pls : ∀ {x : List Nat} {a b : Nat}, Wk ar lo a x b → x.map (tlOf ar) ++ [b] = pls ar a x
  | [], a, b, h => by
    have h' : a = b := h
    subst h'
    rfl
  | i :: x, a, b, ⟨h, e, _, w⟩ => by
    simp only [List.map_cons, List.cons_append, pls, hdOf_of e, tlOf_of e]
    rw [tails_pls w]
theorem Wk.last {x : List Nat} (w : Wk ar lo a x b) : (pls ar a x).getLast? = some b := by
  rw [← tails_pls w]
  simp
theorem Wk.tails_ge : ∀ {x : List Nat} {a b : Nat}, Wk ar lo a x b → ∀ t ∈ x.map (tlOf ar), lo ≤ t
  | i :: x, a, b, ⟨h, e, l, w⟩, t, ht => by
    simp only [List.map_cons, List.mem_cons] at ht
    rcases ht with q | q
    · rw [q, tlOf_of e]
      exact l
    · exact Wk.tails_ge w t q
theorem Wk.relo {lo' : Nat} : ∀ {x : List Nat} {a b : Nat}, Wk ar lo a x b → (∀ t ∈ x.map (tlOf ar), lo' ≤ t) → Wk ar lo' a x b
  | [], a, b, h, _ => h
  | i :: x, a, b, ⟨h, e, l, w⟩, ht => by
    refine ⟨h, e, ?_, Wk.relo w fun t m => ht t (List.mem_cons_of_mem _ m)⟩
    have := ht (tlOf ar i) (by simp)
    rw [tlOf_of e] at this
    exact this
theorem Wk.zero {x : List Nat} (w : Wk ar lo a x b) : Wk ar 0 a x b := w.relo fun _ _ => Nat.zero_le _
theorem Wk.lt : ∀ {x : List Nat} {a b : Nat}, Wk ar lo a x b → ∀ k ∈ x, k < ar.length
  | i :: x, a, b, ⟨h, e, l, w⟩, k, hk => by
    rcases List.mem_cons.mp hk with q | q
    · subst q
      exact (List.getElem?_eq_some_iff.mp e).1
    · exact Wk.lt w k q
/-- a place that a walk visits splits it -/
theorem Wk.at_place : ∀ {x : List Nat} {a b p : Nat}, Wk ar lo a x b → p ∈ pls ar a x → ∃ y z, x = y ++ z ∧ Wk ar lo a y p ∧ Wk ar lo p z b
  | [], a, b, p, h, m => by
    simp [pls] at m
    subst m
    exact ⟨[], [], rfl, rfl, h⟩
  | i :: x, a, b, p, ⟨h, e, l, w⟩, m => by
    simp only [pls, List.mem_cons] at m
    rcases m with q | q
    · subst q
      exact ⟨[], i :: x, rfl, rfl, h, e, l, w⟩
    · rw [hdOf_of e] at q
      obtain ⟨y, z, e1, w1, w2⟩ := Wk.at_place w q
      exact ⟨i :: y, z, by rw [e1]; rfl, ⟨h, e, l, w1⟩, w2⟩
/-- a walk that comes twice to a place holds a closed walk -/
theorem Wk.cut : ∀ {x : List Nat} {a b : Nat}, Wk ar lo a x b → ¬ (pls ar a x).Nodup →
    ∃ p u y z, x = u ++ y ++ z ∧ y ≠ [] ∧ Wk ar lo a u p ∧ Wk ar lo p y p ∧ Wk ar lo p z b
  | [], a, b, h, n => by simp [pls] at n
  | i :: x, a, b, ⟨h, e, l, w⟩, n => by
    by_cases q : (pls ar h x).Nodup
    · have m : a ∈ pls ar h x := by
        simp only [pls, hdOf_of e, List.nodup_cons, q, and_true, Classical.not_not] at n
        exact n
      obtain ⟨y, z, e1, w1, w2⟩ := w.at_place m
      exact ⟨a, [], i :: y, z, by rw [e1]; rfl, by simp, rfl, ⟨h, e, l, w1⟩, w2⟩
    · obtain ⟨p, u, y, z, e1, ny, w1, w2, w3⟩ := Wk.cut w q
      exact ⟨p, i :: u, y, z, by rw [e1]; simp, ny, ⟨h, e, l, w1⟩, w2, w3⟩
/-- the least of a list -/
theorem exists_least : ∀ {l : List Nat}, l ≠ [] → ∃ q ∈ l, ∀ t ∈ l, q ≤ t
  | [x], _ => ⟨x, by simp, by simp⟩
  | x :: y :: r, _ => by
    obtain ⟨q, hq, hl⟩ := exists_least (l := y :: r) (by simp)
    by_cases h : x ≤ q
    · refine ⟨x, by simp, fun t ht => ?_⟩
      rcases List.mem_cons.mp ht with e | e
      · rw [e]; exact Nat.le_refl _
      · exact Nat.le_trans h (hl t e)
    · refine ⟨q, List.mem_cons_of_mem _ hq, fun t ht => ?_⟩
      rcases List.mem_cons.mp ht with e | e
      · rw [e]; omega
      · exact hl t e
/-- a closed walk, written from its least place -/
theorem Wk.turned {y : List Nat} {p : Nat} (w : Wk ar lo p y p) (n : y ≠ []) : ∃ q y', lo ≤ q ∧ y' ≠ [] ∧ y'.length = y.length ∧ gs g y' = gs g y ∧ Wk ar q q y' q := by
  obtain ⟨q, hq, hl⟩ := exists_least (l := y.map (tlOf ar)) (by simpa using n)
  have m : q ∈ pls ar p y := by
    rw [← tails_pls w]
    exact List.mem_append_left _ hq
  obtain ⟨y1, y2, e, w1, w2⟩ := w.at_place m
  subst e
  refine ⟨q, y2 ++ y1, w.tails_ge q hq, by intro z; apply n; rw [List.append_eq_nil_iff] at z ⊢; exact ⟨z.2, z.1⟩, by simp; omega, by rw [gs_append, gs_append]; omega, (w2.append w1).relo fun t ht => hl t ?_⟩
  simp only [List.map_append, List.mem_append] at ht ⊢
  exact ht.symm

end
/-! ### bounds -/
theorem nodup_bound : ∀ (n : Nat) (l : List Nat), l.Nodup → (∀ x ∈ l, x < n) → l.length ≤ n
  | 0, l, _, h => by
    cases l with
    | nil => simp
    | cons x r => exact absurd (h x (by simp)) (Nat.not_lt_zero x)
  | n + 1, l, nd, h => by
    have h1 : (l.erase n).length ≤ n := nodup_bound n (l.erase n) (nd.erase n) fun x hx => by
      have h2 := (List.Nodup.mem_erase_iff nd).mp hx
      have h3 := h x h2.2
      have := h2.1
      omega
    have h4 : l.length ≤ (l.erase n).length + 1 := by
      rw [List.length_erase]
      split <;> omega
    omega
theorem nodup_between {lo n : Nat} {l : List Nat} (nd : l.Nodup) (h : ∀ x ∈ l, lo ≤ x ∧ x < n) : l.length ≤ n - lo := by
  have := nodup_bound (n - lo) (l.map (· - lo)) ?_ ?_
  · simpa using this
  · refine List.pairwise_map.mpr (nd.imp_of_mem fun {x y} hx hy q z => ?_)
    have h1 := h x hx
    have h2 := h y hy
    exact q (by omega)
  · intro x hx
    obtain ⟨y, hy, e⟩ := List.mem_map.mp hx
    have := h y hy
    omega

/-- a simple ring, written from its least place s -/
def Ring (ar : List (Nat × Nat)) (r : List Nat) : Prop := r ≠ [] ∧ ∃ s, Wk ar s s r s ∧ (r.map (tlOf ar)).Nodup
/-- a simple path from place 0 -/
def Path (ar : List (Nat × Nat)) (r : List Nat) (b : Nat) : Prop := Wk ar 0 0 r b ∧ (pls ar 0 r).Nodup

section
variable {ar : List (Nat × Nat)} {lo a b c k : Nat} {g : Nat → Int}
/-- a closed walk that is no ring: two shorter ones -/
theorem closed_cut {s : Nat} {r : List Nat} (n : r ≠ []) (w : Wk ar s s r s) (d : ¬ (r.map (tlOf ar)).Nodup) :
    ∃ q y z, y ≠ [] ∧ z ≠ [] ∧ y.length < r.length ∧ z.length < r.length ∧ gs g y + gs g z = gs g r ∧ Wk ar q q y q ∧ Wk ar s s z s := by
  obtain ⟨x, k, rfl⟩ : ∃ x k, r = x ++ [k] := ⟨r.dropLast, r.getLast n, (List.dropLast_concat_getLast n).symm⟩
  obtain ⟨b, w1, e, l⟩ := Wk.snoc.mp w
  have e1 : (x ++ [k]).map (tlOf ar) = pls ar s x := by
    rw [← tails_pls w1, List.map_append]
    simp [tlOf_of e]
  rw [e1] at d
  obtain ⟨p, u, y, z, rfl, ny, w2, w3, w4⟩ := w1.cut d
  obtain ⟨q, y', _, ny', ly, gy, w5⟩ := w3.turned (g := g) ny
  have hy : 0 < y.length := List.length_pos_iff.mpr ny
  refine ⟨q, y', (u ++ z) ++ [k], ny', by simp, ?_, ?_, ?_, w5, Wk.snoc.mpr ⟨b, w2.append w4, e, l⟩⟩
  · rw [ly]; simp; omega
  · simp; omega
  · rw [gy]; simp only [gs_append]; omega
/-- a closed walk that falls: a simple ring that falls and is no longer; shorter, if it is no simple ring itself -/
theorem fall_ring : ∀ (n s : Nat) (r : List Nat), r.length ≤ n → r ≠ [] → Wk ar s s r s → gs g r < 0 →
    ∃ r', Ring ar r' ∧ gs g r' < 0 ∧ r'.length ≤ r.length ∧ ((r.map (tlOf ar)).Nodup ∨ r'.length < r.length)
  | 0, s, r, h, n, _, _ => absurd (List.length_eq_zero_iff.mp (Nat.le_zero.mp h)) n
  | m + 1, s, r, h, n, w, f => by
    by_cases d : (r.map (tlOf ar)).Nodup
    · exact ⟨r, ⟨n, s, w, d⟩, f, Nat.le_refl _, .inl d⟩
    · obtain ⟨q, y, z, ny, nz, ly, lz, e, wy, wz⟩ := closed_cut (g := g) n w d
      by_cases fy : gs g y < 0
      · obtain ⟨r', h1, h2, h3, _⟩ := fall_ring m q y (by omega) ny wy fy
        exact ⟨r', h1, h2, by omega, .inr (by omega)⟩
      · obtain ⟨r', h1, h2, h3, _⟩ := fall_ring m s z (by omega) nz wz (by omega)
        exact ⟨r', h1, h2, by omega, .inr (by omega)⟩
/-- where no simple ring falls, no closed walk does -/
theorem no_fall (nf : ∀ r, Ring ar r → 0 ≤ gs g r) {p : Nat} {y : List Nat} (w : Wk ar lo p y p) : 0 ≤ gs g y := by
  by_cases n : y = []
  · subst n; simp [gs]
  · obtain ⟨q, y', _, ny', ly, gy, w5⟩ := w.turned (g := g) n
    by_cases f : gs g y' < 0
    · obtain ⟨r', h1, h2, _⟩ := fall_ring y'.length q y' (Nat.le_refl _) ny' w5 f
      have := nf r' h1
      omega
    · omega
/-- where no simple ring falls: a walk's simple path gains no more -/
theorem to_path (nf : ∀ r, Ring ar r → 0 ≤ gs g r) : ∀ (n : Nat) (x : List Nat) (b : Nat), x.length ≤ n → Wk ar 0 0 x b →
    ∃ x', Path ar x' b ∧ gs g x' ≤ gs g x ∧ x'.length ≤ x.length ∧ ((pls ar 0 x).Nodup ∨ x'.length < x.length)
  | n, x, b, h, w => by
    by_cases d : (pls ar 0 x).Nodup
    · exact ⟨x, ⟨w, d⟩, Int.le_refl _, Nat.le_refl _, .inl d⟩
    · obtain ⟨p, u, y, z, rfl, ny, w1, w2, w3⟩ := w.cut d
      have hy : 0 < y.length := List.length_pos_iff.mpr ny
      have gy := no_fall nf w2
      cases n with
      | zero => rw [List.length_append, List.length_append] at h; omega
      | succ n =>
        obtain ⟨x', h1, h2, h3, _⟩ := to_path nf n (u ++ z) b (by simp at h ⊢; omega) (w1.append w3)
        simp only [gs_append, List.length_append] at h2 h3 ⊢
        exact ⟨x', h1, by omega, by omega, .inr (by omega)⟩
theorem Wk.places_lt {n : Nat} (ok : ∀ p ∈ ar, p.1 < n ∧ p.2 < n) : ∀ {x : List Nat} {a b : Nat}, a < n → Wk ar lo a x b → ∀ p ∈ pls ar a x, p < n
  | [], a, b, ha, w, p, hp => by
    simp [pls] at hp
    omega
  | i :: x, a, b, ha, ⟨h, e, l, w⟩, p, hp => by
    simp only [pls, List.mem_cons, hdOf_of e] at hp
    rcases hp with q | q
    · omega
    · exact Wk.places_lt ok (ok _ (List.mem_of_getElem? e)).2 w p q
theorem Path.short {n : Nat} (ok : ∀ p ∈ ar, p.1 < n ∧ p.2 < n) (hn : 0 < n) {x : List Nat} (p : Path ar x b) : x.length < n := by
  have h1 := nodup_bound n _ p.2 (p.1.places_lt ok hn)
  rw [pls_length] at h1
  omega
/-- a ring of L arrows from s: s + L ≤ n -/
theorem ring_short {n s : Nat} (ok : ∀ p ∈ ar, p.1 < n ∧ p.2 < n) {r : List Nat} (w : Wk ar s s r s) (d : (r.map (tlOf ar)).Nodup) (ne : r ≠ []) : s + r.length ≤ n := by
  have hs : s < n := by
    cases r with
    | nil => exact absurd rfl ne
    | cons i r =>
      obtain ⟨h, e, _⟩ := w
      exact (ok _ (List.mem_of_getElem? e)).1
  have h1 := nodup_between (lo := s) (n := n) d fun t ht => ⟨w.tails_ge t ht, w.places_lt ok hs t (by rw [← tails_pls w]; exact List.mem_append_left _ ht)⟩
  rw [List.length_map] at h1
  omega
end
end Pa
end
section
set_option autoImplicit false
set_option linter.all false
/-! Order of tuples, greatest worths, the greedy least walk. -/
namespace Pa
/-- the order of tuples -/
def LexLe : List Nat → List Nat → Prop
  | [], _ => True
  | _ :: _, [] => False
  | a :: x, b :: y => a < b ∨ (a = b ∧ LexLe x y)
theorem LexLe.refl : ∀ x : List Nat, LexLe x x
  | [] => trivial
  | a :: x => .inr ⟨rfl, LexLe.refl x⟩
theorem LexLe.trans : ∀ {x y z : List Nat}, LexLe x y → LexLe y z → LexLe x z
  | [], _, _, _, _ => trivial
  | _ :: _, [], _, h, _ => h.elim
  | _ :: _, _ :: _, [], _, h => h.elim
  | a :: x, b :: y, c :: z, h, k => by
    rcases h with h | ⟨rfl, h⟩
    · rcases k with k | ⟨rfl, k⟩
      · exact .inl (Nat.lt_trans h k)
      · exact .inl h
    · rcases k with k | ⟨rfl, k⟩
      · exact .inl k
      · exact .inr ⟨rfl, h.trans k⟩
theorem LexLe.antisymm : ∀ {x y : List Nat}, LexLe x y → LexLe y x → x = y
  | [], [], _, _ => rfl
  | [], _ :: _, _, h => h.elim
  | _ :: _, [], h, _ => h.elim
  | a :: x, b :: y, h, k => by
    rcases h with h | ⟨rfl, h⟩
    · rcases k with k | ⟨rfl, k⟩
      · omega
      · omega
    · rcases k with k | ⟨_, k⟩
      · omega
      · rw [h.antisymm k]
theorem LexLe.total : ∀ (x y : List Nat), LexLe x y ∨ LexLe y x
  | [], _ => .inl trivial
  | _ :: _, [] => .inr trivial
  | a :: x, b :: y => by
    rcases Nat.lt_trichotomy a b with h | rfl | h
    · exact .inl (.inl h)
    · rcases LexLe.total x y with h | h
      · exact .inl (.inr ⟨rfl, h⟩)
      · exact .inr (.inr ⟨rfl, h⟩)
    · exact .inr (.inl h)
/-- a prefix, or less for good -/
theorem LexLe.front : ∀ {p w : List Nat}, LexLe p w → (∃ t, w = p ++ t) ∨ ∀ u, LexLe (p ++ u) w
  | [], w, _ => .inl ⟨w, rfl⟩
  | _ :: _, [], h => h.elim
  | a :: p, b :: w, h => by
    rcases h with h | ⟨rfl, h⟩
    · exact .inr fun u => .inl h
    · rcases h.front with ⟨t, e⟩ | q
      · exact .inl ⟨t, by rw [e]; rfl⟩
      · exact .inr fun u => .inr ⟨rfl, q u⟩
theorem LexLe.append : ∀ {p u w : List Nat}, LexLe u w → LexLe (p ++ u) (p ++ w)
  | [], _, _, h => h
  | a :: p, _, _, h => .inr ⟨rfl, LexLe.append (p := p) h⟩
/-- the greedy step: k the least number that goes on -/
theorem greedy_step {Good : List Nat → Prop} {p : List Nat} {k : Nat} (hp : ∀ w, Good w → w.length > p.length → LexLe p w) (hk : ∀ j t, Good (p ++ j :: t) → k ≤ j) :
    ∀ w, Good w → w.length > p.length → LexLe (p ++ [k]) w := fun w hw hl => by
  rcases (hp w hw hl).front with ⟨t, rfl⟩ | q
  · cases t with
    | nil => simp at hl
    | cons j t =>
      have := hk j t hw
      apply LexLe.append
      by_cases e : k = j
      · exact .inr ⟨e, trivial⟩
      · exact .inl (by omega)
  · exact q [k]

/-! ### the greatest number, or none -/
def Best (P : Int → Prop) : Option Int → Prop
  | none => ∀ w, ¬ P w
  | some w => P w ∧ ∀ v, P v → v ≤ w
theorem Best.none_iff {P : Int → Prop} {o : Option Int} (h : Best P o) : o = none ↔ ∀ w, ¬ P w := by
  cases o with
  | none => exact ⟨fun _ => h, fun _ => rfl⟩
  | some w => exact ⟨(fun e => by cases e), fun q => absurd h.1 (q w)⟩
theorem Best.congr {P Q : Int → Prop} {o : Option Int} (h : Best P o) (e : ∀ w, P w ↔ Q w) : Best Q o := by
  cases o with
  | none => exact fun w q => h w ((e w).mpr q)
  | some w => exact ⟨(e w).mp h.1, fun v q => h.2 v ((e v).mpr q)⟩
/-- above a bound: there is one exactly if the best is -/
theorem Best.reach {P : Int → Prop} {o : Option Int} {m : Int} (h : Best P o) : (∃ w, P w ∧ m ≤ w) ↔ ∃ b, o = some b ∧ m ≤ b := by
  cases o with
  | none => exact ⟨fun ⟨w, p, _⟩ => absurd p (h w), fun ⟨b, e, _⟩ => by cases e⟩
  | some b => exact ⟨fun ⟨w, p, q⟩ => ⟨b, rfl, Int.le_trans q (h.2 w p)⟩, fun ⟨c, e, q⟩ => by cases e; exact ⟨b, h.1, q⟩⟩
/-- one more candidate -/
theorem Best.more {P Q : Int → Prop} {o : Option Int} {c : Int} (h : Best P o) (e : ∀ w, Q w ↔ P w ∨ w = c) : Best Q (match o with
    | none => some c
    | some b => if c > b then some c else some b) := by
  cases o with
  | none => exact ⟨(e c).mpr (.inr rfl), fun v q => ((e v).mp q).elim (fun p => absurd p (h v)) fun p => by omega⟩
  | some b =>
    show Best Q (if c > b then some c else some b)
    split
    · exact ⟨(e c).mpr (.inr rfl), fun v q => ((e v).mp q).elim (fun p => by have := h.2 v p; omega) fun p => by omega⟩
    · exact ⟨(e b).mpr (.inl h.1), fun v q => ((e v).mp q).elim (fun p => h.2 v p) fun p => by omega⟩

/-! ### rows -/
section
variable {ar : List (Nat × Nat)} {lo : Nat} {g : Nat → Int} {s : Int} {last : Nat → Option Int}
/-- the worth of a walk of k arrows from v: s times its gain and the last place's number -/
def Rest (ar : List (Nat × Nat)) (lo : Nat) (g : Nat → Int) (s : Int) (last : Nat → Option Int) (k v : Nat) (w : Int) : Prop := ∃ r b c, Wk ar lo v r b ∧ r.length = k ∧ last b = some c ∧ w = s * gs g r + c
theorem rest_zero {v : Nat} {w : Int} : Rest ar lo g s last 0 v w ↔ last v = some w := by
  constructor
  · rintro ⟨r, b, c, h, l, e, rfl⟩
    have : r = [] := List.length_eq_zero_iff.mp l
    subst this
    have h' : v = b := h
    subst h'
    rw [e]
    simp [gs]
  · intro e
    exact ⟨[], v, w, rfl, rfl, e, by simp [gs]⟩
theorem rest_succ {k v : Nat} {w : Int} : Rest ar lo g s last (k + 1) v w ↔ ∃ a h, ar[a]? = some (v, h) ∧ lo ≤ v ∧ ∃ x, Rest ar lo g s last k h x ∧ w = x + s * g a := by
  constructor
  · rintro ⟨r, b, c, h, l, e, rfl⟩
    cases r with
    | nil => simp at l
    | cons a r =>
      obtain ⟨hd, e1, l1, w1⟩ := h
      refine ⟨a, hd, e1, l1, _, ⟨r, b, c, w1, by simpa using l, e, rfl⟩, ?_⟩
      simp only [gs]
      rw [Int.mul_add]
      omega
  · rintro ⟨a, hd, e1, l1, x, ⟨r, b, c, w1, l, e, rfl⟩, rfl⟩
    refine ⟨a :: r, b, c, ⟨hd, e1, l1, w1⟩, by simp [l], e, ?_⟩
    simp only [gs]
    rw [Int.mul_add]
    omega
/-- .. by the arrows below i -/
def RestI (ar : List (Nat × Nat)) (lo : Nat) (g : Nat → Int) (s : Int) (row : Nat → Option Int) (i v : Nat) (w : Int) : Prop := ∃ a h, a < i ∧ ar[a]? = some (v, h) ∧ lo ≤ v ∧ ∃ x, row h = some x ∧ w = x + s * g a
theorem restI_zero {row : Nat → Option Int} {v : Nat} {w : Int} : ¬ RestI ar lo g s row 0 v w := fun ⟨_, _, h, _⟩ => Nat.not_lt_zero _ h
theorem restI_succ {row : Nat → Option Int} {i v t h : Nat} {w : Int} (e : ar[i]? = some (t, h)) :
    RestI ar lo g s row (i + 1) v w ↔ RestI ar lo g s row i v w ∨ (v = t ∧ lo ≤ t ∧ ∃ x, row h = some x ∧ w = x + s * g i) := by
  constructor
  · rintro ⟨a, h', l, e1, l1, x, hx, rfl⟩
    by_cases q : a = i
    · subst q
      rw [e] at e1
      cases e1
      exact .inr ⟨rfl, l1, x, hx, rfl⟩
    · exact .inl ⟨a, h', by omega, e1, l1, x, hx, rfl⟩
  · rintro (⟨a, h', l, e1, l1, x, hx, rfl⟩ | ⟨rfl, l1, x, hx, rfl⟩)
    · exact ⟨a, h', by omega, e1, l1, x, hx, rfl⟩
    · exact ⟨i, h, by omega, e, l1, x, hx, rfl⟩
/-- all arrows, over a row of bests -/
theorem restI_all {row : Nat → Option Int} {k v : Nat} (hr : ∀ h : Nat, (∃ a t : Nat, ar[a]? = some (t, h)) → Best (Rest ar lo g s last k h) (row h)) {o : Option Int} (h : Best (RestI ar lo g s row ar.length v) o) : Best (Rest ar lo g s last (k + 1) v) o := by
  cases o with
  | none =>
    intro w q
    obtain ⟨a, hd, e, l, x, hx, rfl⟩ := rest_succ.mp q
    have b := hr hd ⟨a, v, e⟩
    cases q2 : row hd with
    | none =>
      rw [q2] at b
      exact b x hx
    | some y => exact h (y + s * g a) ⟨a, hd, (List.getElem?_eq_some_iff.mp e).1, e, l, y, q2, rfl⟩
  | some w =>
    obtain ⟨⟨a, hd, la, e, l, y, hy, rfl⟩, hm⟩ := h
    have b := hr hd ⟨a, v, e⟩
    rw [hy] at b
    refine ⟨rest_succ.mpr ⟨a, hd, e, l, y, b.1, rfl⟩, fun u q => ?_⟩
    obtain ⟨a', hd', e', l', x', hx', rfl⟩ := rest_succ.mp q
    have b' := hr hd' ⟨a', v, e'⟩
    cases q2 : row hd' with
    | none =>
      rw [q2] at b'
      exact absurd hx' (b' x')
    | some z =>
      rw [q2] at b'
      have h1 := b'.2 x' hx'
      have h2 := hm (z + s * g a') ⟨a', hd', (List.getElem?_eq_some_iff.mp e').1, e', l', z, q2, rfl⟩
      omega
/-- the worth of a walk of k arrows from 0 that comes to v -/
def Lead (ar : List (Nat × Nat)) (g : Nat → Int) (s first : Int) (k v : Nat) (w : Int) : Prop := ∃ r, Wk ar 0 0 r v ∧ r.length = k ∧ w = s * (first + gs g r)
theorem lead_zero {first : Int} {v : Nat} {w : Int} : Lead ar g s first 0 v w ↔ v = 0 ∧ w = s * first := by
  constructor
  · rintro ⟨r, h, l, rfl⟩
    have : r = [] := List.length_eq_zero_iff.mp l
    subst this
    have h' : 0 = v := h
    subst h'
    simp [gs]
  · rintro ⟨rfl, rfl⟩
    exact ⟨[], rfl, rfl, by simp [gs]⟩
theorem lead_succ {first : Int} {k v : Nat} {w : Int} : Lead ar g s first (k + 1) v w ↔ ∃ a t, ar[a]? = some (t, v) ∧ ∃ x, Lead ar g s first k t x ∧ w = x + s * g a := by
  constructor
  · rintro ⟨r, h, l, rfl⟩
    have n : r ≠ [] := by intro z; rw [z] at l; simp at l
    obtain ⟨x, a, rfl⟩ : ∃ x a, r = x ++ [a] := ⟨r.dropLast, r.getLast n, (List.dropLast_concat_getLast n).symm⟩
    obtain ⟨t, w1, e, _⟩ := Wk.snoc.mp h
    refine ⟨a, t, e, _, ⟨x, w1, by simpa using l, rfl⟩, ?_⟩
    rw [gs_append]
    simp only [gs, Int.mul_add]
    omega
  · rintro ⟨a, t, e, x, ⟨r, w1, l, rfl⟩, rfl⟩
    refine ⟨r ++ [a], Wk.snoc.mpr ⟨t, w1, e, Nat.zero_le _⟩, by simp [l], ?_⟩
    rw [gs_append]
    simp only [gs, Int.mul_add]
    omega
def LeadI (ar : List (Nat × Nat)) (g : Nat → Int) (s : Int) (row : Nat → Option Int) (i v : Nat) (w : Int) : Prop := ∃ a t, a < i ∧ ar[a]? = some (t, v) ∧ ∃ x, row t = some x ∧ w = x + s * g a
theorem leadI_zero {row : Nat → Option Int} {v : Nat} {w : Int} : ¬ LeadI ar g s row 0 v w := fun ⟨_, _, h, _⟩ => Nat.not_lt_zero _ h
theorem leadI_succ {row : Nat → Option Int} {i v t h : Nat} {w : Int} (e : ar[i]? = some (t, h)) :
    LeadI ar g s row (i + 1) v w ↔ LeadI ar g s row i v w ∨ (v = h ∧ ∃ x, row t = some x ∧ w = x + s * g i) := by
  constructor
  · rintro ⟨a, h', l, e1, x, hx, rfl⟩
    by_cases q : a = i
    · subst q
      rw [e] at e1
      cases e1
      exact .inr ⟨rfl, x, hx, rfl⟩
    · exact .inl ⟨a, h', by omega, e1, x, hx, rfl⟩
  · rintro (⟨a, h', l, e1, x, hx, rfl⟩ | ⟨rfl, x, hx, rfl⟩)
    · exact ⟨a, h', by omega, e1, x, hx, rfl⟩
    · exact ⟨i, t, by omega, e, x, hx, rfl⟩
theorem leadI_all {first : Int} {row : Nat → Option Int} {k v : Nat} (hr : ∀ t : Nat, (∃ a h : Nat, ar[a]? = some (t, h)) → Best (Lead ar g s first k t) (row t)) {o : Option Int} (h : Best (LeadI ar g s row ar.length v) o) : Best (Lead ar g s first (k + 1) v) o := by
  cases o with
  | none =>
    intro w q
    obtain ⟨a, t, e, x, hx, rfl⟩ := lead_succ.mp q
    have b := hr t ⟨a, v, e⟩
    cases q2 : row t with
    | none =>
      rw [q2] at b
      exact b x hx
    | some y => exact h (y + s * g a) ⟨a, t, (List.getElem?_eq_some_iff.mp e).1, e, y, q2, rfl⟩
  | some w =>
    obtain ⟨⟨a, t, la, e, y, hy, rfl⟩, hm⟩ := h
    have b := hr t ⟨a, v, e⟩
    rw [hy] at b
    refine ⟨lead_succ.mpr ⟨a, t, e, y, b.1, rfl⟩, fun u q => ?_⟩
    obtain ⟨a', t', e', x', hx', rfl⟩ := lead_succ.mp q
    have b' := hr t' ⟨a', v, e'⟩
    cases q2 : row t' with
    | none =>
      rw [q2] at b'
      exact absurd hx' (b' x')
    | some z =>
      rw [q2] at b'
      have h1 := b'.2 x' hx'
      have h2 := hm (z + s * g a') ⟨a', t', (List.getElem?_eq_some_iff.mp e').1, e', z, q2, rfl⟩
      omega
end
end Pa
end
section
set_option autoImplicit false
set_option linter.all false
/-! Rows of greatest worths, arrow by arrow. -/
namespace Pa
def rowF (row : List (Option Int)) (v : Nat) : Option Int := row[v]?.getD none
/-- a row of bests -/
def RowB (n : Nat) (P : Nat → Int → Prop) (row : List (Option Int)) : Prop := row.length = n ∧ ∀ v, v < n → ∃ o, row[v]? = some o ∧ Best (P v) o
theorem RowB.congr {n : Nat} {P Q : Nat → Int → Prop} {row : List (Option Int)} (h : RowB n P row) (e : ∀ v w, v < n → (P v w ↔ Q v w)) : RowB n Q row :=
  ⟨h.1, fun v hv => let ⟨o, h1, h2⟩ := h.2 v hv; ⟨o, h1, h2.congr fun w => e v w hv⟩⟩
theorem RowB.at {n : Nat} {P : Nat → Int → Prop} {row : List (Option Int)} (h : RowB n P row) {v : Nat} (hv : v < n) : Best (P v) (rowF row v) := by
  obtain ⟨o, h1, h2⟩ := h.2 v hv
  unfold rowF
  rw [h1]
  exact h2
theorem rowB_none {n : Nat} {P : Nat → Int → Prop} (h : ∀ v w, v < n → ¬ P v w) : RowB n P (List.replicate n none) :=
  ⟨List.length_replicate, fun v hv => ⟨none, by simp [hv], fun w p => h v w hv p⟩⟩
/-- one more candidate c at the place t -/
theorem RowB.set {n t : Nat} {P Q : Nat → Int → Prop} {row : List (Option Int)} {o : Option Int} {c : Int} (h : RowB n P row) (ho : row[t]? = some o) (hq : ∀ v w, v < n → (Q v w ↔ P v w ∨ (v = t ∧ w = c)))
    (hb : ∀ b, o = some b → b < c) : RowB n Q (row.set t (some c)) := by
  have lt : t < row.length := (List.getElem?_eq_some_iff.mp ho).1
  refine ⟨by rw [List.length_set]; exact h.1, fun v hv => ?_⟩
  by_cases e : v = t
  · subst e
    obtain ⟨o', h1, h2⟩ := h.2 v hv
    rw [ho] at h1
    cases h1
    refine ⟨some c, by rw [List.getElem?_set_self lt], ?_⟩
    have q := h2.more (Q := Q v) (c := c) fun w => by rw [hq v w hv]; simp
    cases o with
    | none => exact q
    | some b =>
      have := hb b rfl
      simp only [gt_iff_lt, this, if_true] at q
      exact q
  · obtain ⟨o', h1, h2⟩ := h.2 v hv
    refine ⟨o', by rw [List.getElem?_set_ne (Ne.symm e)]; exact h1, h2.congr fun w => ?_⟩
    rw [hq v w hv]
    simp [e]
theorem RowB.keep {n t : Nat} {P Q : Nat → Int → Prop} {row : List (Option Int)} {b c : Int} (h : RowB n P row) (ho : row[t]? = some (some b)) (hq : ∀ v w, v < n → (Q v w ↔ P v w ∨ (v = t ∧ w = c))) (hb : ¬ c > b) : RowB n Q row := by
  refine ⟨h.1, fun v hv => ?_⟩
  obtain ⟨o', h1, h2⟩ := h.2 v hv
  refine ⟨o', h1, ?_⟩
  by_cases e : v = t
  · subst e
    rw [ho] at h1
    cases h1
    have q := h2.more (Q := Q v) (c := c) fun w => by rw [hq v w hv]; simp
    simp only [hb, if_false] at q
    exact q
  · exact h2.congr fun w => by rw [hq v w hv]; simp [e]
section
variable {ar : List (Nat × Nat)} {lo n i t h : Nat} {g : Nat → Int} {s : Int} {prev row : List (Option Int)}
theorem restI_yes (e : ar[i]? = some (t, h)) (l : lo ≤ t) {x : Int} (hx : rowF prev h = some x) (v : Nat) (w : Int) : RestI ar lo g s (rowF prev) (i + 1) v w ↔ RestI ar lo g s (rowF prev) i v w ∨ (v = t ∧ w = x + s * g i) := by
  rw [restI_succ e]
  constructor
  · rintro (q | ⟨q, _, y, hy, rfl⟩)
    · exact .inl q
    · rw [hx] at hy
      cases hy
      exact .inr ⟨q, rfl⟩
  · rintro (q | ⟨q, rfl⟩)
    · exact .inl q
    · exact .inr ⟨q, l, x, hx, rfl⟩
theorem restI_no (e : ar[i]? = some (t, h)) (l : ¬ (lo ≤ t ∧ rowF prev h ≠ none)) (v : Nat) (w : Int) : RestI ar lo g s (rowF prev) i v w ↔ RestI ar lo g s (rowF prev) (i + 1) v w := by
  rw [restI_succ e]
  constructor
  · exact .inl
  · rintro (q | ⟨_, l1, y, hy, _⟩)
    · exact q
    · exact absurd ⟨l1, by rw [hy]; simp⟩ l
theorem leadI_yes (e : ar[i]? = some (t, h)) {x : Int} (hx : rowF prev t = some x) (v : Nat) (w : Int) : LeadI ar g s (rowF prev) (i + 1) v w ↔ LeadI ar g s (rowF prev) i v w ∨ (v = h ∧ w = x + s * g i) := by
  rw [leadI_succ e]
  constructor
  · rintro (q | ⟨q, y, hy, rfl⟩)
    · exact .inl q
    · rw [hx] at hy
      cases hy
      exact .inr ⟨q, rfl⟩
  · rintro (q | ⟨q, rfl⟩)
    · exact .inl q
    · exact .inr ⟨q, x, hx, rfl⟩
theorem leadI_no (e : ar[i]? = some (t, h)) (l : rowF prev t = none) (v : Nat) (w : Int) : LeadI ar g s (rowF prev) i v w ↔ LeadI ar g s (rowF prev) (i + 1) v w := by
  rw [leadI_succ e]
  constructor
  · exact .inl
  · rintro (q | ⟨_, y, hy, _⟩)
    · exact q
    · rw [l] at hy
      cases hy
theorem rest_row {last : Nat → Option Int} {k : Nat} (ok : ∀ p ∈ ar, p.1 < n ∧ p.2 < n) (hp : RowB n (Rest ar lo g s last k) prev) (hr : RowB n (RestI ar lo g s (rowF prev) ar.length) row) : RowB n (Rest ar lo g s last (k + 1)) row :=
  ⟨hr.1, fun v hv => let ⟨o, h1, h2⟩ := hr.2 v hv; ⟨o, h1, restI_all (fun h ⟨a, t, e⟩ => hp.at (ok _ (List.mem_of_getElem? e)).2) h2⟩⟩
theorem lead_row {first : Int} {k : Nat} (ok : ∀ p ∈ ar, p.1 < n ∧ p.2 < n) (hp : RowB n (Lead ar g s first k) prev) (hr : RowB n (LeadI ar g s (rowF prev) ar.length) row) : RowB n (Lead ar g s first (k + 1)) row :=
  ⟨hr.1, fun v hv => let ⟨o, h1, h2⟩ := hr.2 v hv; ⟨o, h1, leadI_all (fun t ⟨a, h, e⟩ => hp.at (ok _ (List.mem_of_getElem? e)).1) h2⟩⟩
theorem rest_first {last : List (Option Int)} (hl : last.length = n) : RowB n (Rest ar lo g s (rowF last) 0) last := by
  refine ⟨hl, fun v hv => ?_⟩
  have lt : v < last.length := by omega
  refine ⟨last[v], by simp [lt], ?_⟩
  have e : rowF last v = last[v] := by unfold rowF; simp [lt]
  cases q : last[v] with
  | none =>
    intro w p
    rw [rest_zero, e, q] at p
    cases p
  | some x =>
    refine ⟨rest_zero.mpr (by rw [e, q]), fun w p => ?_⟩
    rw [rest_zero, e, q] at p
    cases p
    exact Int.le_refl _
end
end Pa
namespace Pa
theorem lead_first {ar : List (Nat × Nat)} {n : Nat} {g : Nat → Int} {s first : Int} (hn : 1 ≤ n) : RowB n (Lead ar g s first 0) (some (s * first) :: List.replicate (n - 1) none) := by
  refine ⟨by simp; omega, fun v hv => ?_⟩
  cases v with
  | zero => exact ⟨_, rfl, lead_zero.mpr ⟨rfl, rfl⟩, fun w p => by rw [(lead_zero.mp p).2]; exact Int.le_refl _⟩
  | succ v =>
    have h1 : v < n - 1 := by omega
    exact ⟨none, by simp [h1], fun w p => by have := (lead_zero.mp p).1; omega⟩
end Pa
end
section
set_option autoImplicit false
set_option linter.all false
/-! The greedy walk is the least one. -/
namespace Pa
section
variable (ar : List (Nat × Nat)) (lo : Nat) (g : Nat → Int) (s : Int) (last : Nat → Option Int) (a0 : Nat) (w0 thr : Int) (L : Nat)
def Good (r : List Nat) : Prop := ∃ b c, Wk ar lo a0 r b ∧ r.length = L ∧ last b = some c ∧ thr ≤ w0 + s * gs g r + c
def Can (left h : Nat) (acc : Int) : Prop := ∃ w, Rest ar lo g s last left h w ∧ thr ≤ acc + w
structure Pre (p : List Nat) (place : Nat) (acc : Int) : Prop where
  wk : Wk ar lo a0 p place
  acc : acc = w0 + s * gs g p
  len : p.length ≤ L
  go : ∃ t, Good ar lo g s last a0 w0 thr L (p ++ t)
  least : ∀ w, Good ar lo g s last a0 w0 thr L w → LexLe p w
end
section
variable {ar : List (Nat × Nat)} {lo : Nat} {g : Nat → Int} {s : Int} {last : Nat → Option Int} {a0 : Nat} {w0 thr : Int} {L : Nat} {p : List Nat} {place k h : Nat} {acc : Int}
theorem Pre.start (e : ∃ r, Good ar lo g s last a0 w0 thr L r) : Pre ar lo g s last a0 w0 thr L [] a0 w0 :=
  ⟨rfl, by simp [gs], Nat.zero_le _, e, fun _ _ => trivial⟩
theorem can_good : Can ar lo g s last thr L a0 w0 ↔ ∃ r, Good ar lo g s last a0 w0 thr L r := by
  constructor
  · rintro ⟨w, ⟨r, b, c, h1, h2, h3, rfl⟩, h4⟩
    exact ⟨r, b, c, h1, h2, h3, by omega⟩
  · rintro ⟨r, b, c, h1, h2, h3, h4⟩
    exact ⟨_, ⟨r, b, c, h1, h2, h3, rfl⟩, by omega⟩
theorem Pre.of_good (pr : Pre ar lo g s last a0 w0 thr L p place acc) {j : Nat} {t : List Nat} (q : Good ar lo g s last a0 w0 thr L (p ++ j :: t)) :
    ∃ h, ar[j]? = some (place, h) ∧ lo ≤ place ∧ Can ar lo g s last thr (L - p.length - 1) h (acc + s * g j) := by
  obtain ⟨b, c, h1, h2, h3, h4⟩ := q
  obtain ⟨m, w1, w2⟩ := h1.split
  have em : m = place := w1.det pr.wk
  subst em
  obtain ⟨h, e, l, w3⟩ := w2
  refine ⟨h, e, l, _, ⟨t, b, c, w3, ?_, h3, rfl⟩, ?_⟩
  · simp at h2
    omega
  · rw [pr.acc]
    rw [gs_append] at h4
    simp only [gs, Int.mul_add] at h4
    omega
theorem Pre.some (pr : Pre ar lo g s last a0 w0 thr L p place acc) (hl : p.length < L) : ∃ k h, ar[k]? = some (place, h) ∧ lo ≤ place ∧ Can ar lo g s last thr (L - p.length - 1) h (acc + s * g k) := by
  obtain ⟨t, q⟩ := pr.go
  cases t with
  | nil =>
    obtain ⟨b, c, h1, h2, _⟩ := q
    simp at h2
    omega
  | cons j t =>
    obtain ⟨h, e⟩ := pr.of_good q
    exact ⟨j, h, e⟩
theorem Pre.next (pr : Pre ar lo g s last a0 w0 thr L p place acc) (hl : p.length < L) (e : ar[k]? = Option.some (place, h)) (c : Can ar lo g s last thr (L - p.length - 1) h (acc + s * g k))
    (hm : ∀ j h', ar[j]? = Option.some (place, h') → Can ar lo g s last thr (L - p.length - 1) h' (acc + s * g j) → k ≤ j) : Pre ar lo g s last a0 w0 thr L (p ++ [k]) h (acc + s * g k) := by
  obtain ⟨_, _, _, l, _⟩ := pr.some hl
  refine ⟨Wk.snoc.mpr ⟨place, pr.wk, e, l⟩, ?_, by simp; omega, ?_, fun w hw => ?_⟩
  · rw [gs_append, pr.acc]
    simp only [gs, Int.mul_add]
    omega
  · obtain ⟨w, ⟨r, b, c, h1, h2, h3, rfl⟩, h4⟩ := c
    refine ⟨r, b, c, ?_, ?_, h3, ?_⟩
    · exact (Wk.snoc.mpr ⟨place, pr.wk, e, l⟩).append h1
    · simp
      omega
    · rw [gs_append, gs_append]
      simp only [gs, Int.mul_add]
      rw [pr.acc] at h4
      omega
  · refine greedy_step (Good := Good ar lo g s last a0 w0 thr L) (fun w hw _ => pr.least w hw) (fun j t q => ?_) w hw ?_
    · obtain ⟨h', e', _, c'⟩ := pr.of_good q
      exact hm j h' e' c'
    · obtain ⟨b, c, h1, h2, _⟩ := hw
      omega
theorem Pre.done (pr : Pre ar lo g s last a0 w0 thr L p place acc) (hl : p.length = L) : Good ar lo g s last a0 w0 thr L p := by
  obtain ⟨t, q⟩ := pr.go
  cases t with
  | nil => simpa using q
  | cons j t =>
    obtain ⟨b, c, h1, h2, _⟩ := q
    simp at h2
    omega
theorem can_best {n left : Nat} {row : List (Option Int)} (h : RowB n (Rest ar lo g s last left) row) {v : Nat} (hv : v < n) : Can ar lo g s last thr left v acc ↔ ∃ b, rowF row v = Option.some b ∧ thr ≤ acc + b := by
  have q := (h.at hv).reach (m := thr - acc)
  constructor
  · rintro ⟨w, h1, h2⟩
    obtain ⟨b, e, l⟩ := q.mp ⟨w, h1, by omega⟩
    exact ⟨b, e, by omega⟩
  · rintro ⟨b, e, l⟩
    obtain ⟨w, h1, h2⟩ := q.mpr ⟨b, e, by omega⟩
    exact ⟨w, h1, by omega⟩
end
/-- the arrows out of a place, ascending -/
def outsOf (ar : List (Nat × Nat)) (p : Nat) : List Nat := (List.range ar.length).filter fun k => tlOf ar k == p
theorem mem_outs {ar : List (Nat × Nat)} {p k : Nat} : k ∈ outsOf ar p ↔ ∃ h, ar[k]? = some (p, h) := by
  unfold outsOf
  rw [List.mem_filter, List.mem_range]
  constructor
  · rintro ⟨h1, h2⟩
    have e : ar[k]? = some ar[k] := by simp [h1]
    have h3 : tlOf ar k = p := by simpa using h2
    rw [tlOf_of (a := ar[k].1) (h := ar[k].2) e] at h3
    exact ⟨ar[k].2, by rw [e, ← h3]⟩
  · rintro ⟨h, e⟩
    exact ⟨(List.getElem?_eq_some_iff.mp e).1, by rw [tlOf_of e]; simp⟩
theorem outs_sorted {ar : List (Nat × Nat)} {p i j a b : Nat} (ha : (outsOf ar p)[i]? = some a) (hb : (outsOf ar p)[j]? = some b) (h : i ≤ j) : a ≤ b := by
  have hs : (outsOf ar p).Pairwise (· < ·) := List.Pairwise.filter _ List.pairwise_lt_range
  obtain ⟨h1, rfl⟩ := List.getElem?_eq_some_iff.mp ha
  obtain ⟨h2, rfl⟩ := List.getElem?_eq_some_iff.mp hb
  by_cases e : i = j
  · subst e; exact Nat.le_refl _
  · exact Nat.le_of_lt (List.pairwise_iff_getElem.mp hs i j h1 h2 (by omega))
theorem outs_lt {ar : List (Nat × Nat)} {p k : Nat} (h : k ∈ outsOf ar p) : k < ar.length := by
  obtain ⟨_, e⟩ := mem_outs.mp h
  exact (List.getElem?_eq_some_iff.mp e).1
theorem outs_len {ar : List (Nat × Nat)} {p : Nat} : (outsOf ar p).length ≤ ar.length := by
  unfold outsOf
  have := List.length_filter_le (fun k => tlOf ar k == p) (List.range ar.length)
  simpa using this
/-- a place in the list -/
theorem at_outs {ar : List (Nat × Nat)} {p k : Nat} (h : k ∈ outsOf ar p) : ∃ i : Nat, (outsOf ar p)[i]? = some k := List.getElem?_of_mem h
end Pa
end
section
set_option autoImplicit false
set_option linter.all false
/-! The first falling ring, the first short run. -/
namespace Pa
/-- by the length, then as tuples -/
def OrdLe (x y : List Nat) : Prop := x.length < y.length ∨ (x.length = y.length ∧ LexLe x y)
theorem OrdLe.antisymm {x y : List Nat} (h : OrdLe x y) (k : OrdLe y x) : x = y := by
  rcases h with h | ⟨h, h'⟩
  · rcases k with k | ⟨k, _⟩ <;> omega
  · rcases k with k | ⟨_, k'⟩
    · omega
    · exact h'.antisymm k'
/-- the last row of a start: 0 there -/
def lastR (n s : Nat) : List (Option Int) := (List.range n).map fun v => if v = s then some 0 else none
theorem lastR_len {n s : Nat} : (lastR n s).length = n := by simp [lastR]
theorem lastR_at {n s v : Nat} : rowF (lastR n s) v = if v < n ∧ v = s then some 0 else none := by
  unfold rowF lastR
  rw [List.getElem?_map]
  by_cases h : v < n
  · rw [List.getElem?_range h]
    by_cases e : v = s
    · subst e; simp [h]
    · simp [e]
  · rw [List.getElem?_eq_none (by simpa using h)]
    simp [h]
section
variable {ar : List (Nat × Nat)} {n : Nat} {g : Nat → Int}
theorem fall_good {s L : Nat} {r : List Nat} (hs : s < n) : Good ar s g (-1) (rowF (lastR n s)) s 0 1 L r ↔ Wk ar s s r s ∧ r.length = L ∧ gs g r < 0 := by
  unfold Good
  constructor
  · rintro ⟨b, c, h1, h2, h3, h4⟩
    rw [lastR_at] at h3
    split at h3
    · rename_i hb
      obtain ⟨_, rfl⟩ := hb
      cases h3
      exact ⟨h1, h2, by omega⟩
    · cases h3
  · rintro ⟨h1, h2, h3⟩
    exact ⟨s, 0, h1, h2, by rw [lastR_at, if_pos ⟨hs, rfl⟩], by omega⟩
/-- the first ring that falls -/
def MinFall (ar : List (Nat × Nat)) (g : Nat → Int) (r : List Nat) : Prop := Ring ar r ∧ gs g r < 0 ∧ ∀ r', Ring ar r' → gs g r' < 0 → OrdLe r r'
theorem MinFall.unique {r r' : List Nat} (h : MinFall ar g r) (k : MinFall ar g r') : r = r' := (h.2.2 r' k.1 k.2.1).antisymm (k.2.2 r h.1 h.2.1)
theorem ring_len {r : List Nat} (h : Ring ar r) : 1 ≤ r.length := List.length_pos_iff.mpr h.1
theorem ring_of_len {L s : Nat} {r : List Nat} (hmin : ∀ r', Ring ar r' → gs g r' < 0 → L ≤ r'.length) (w : Wk ar s s r s) (hl : r.length = L) (h1 : 1 ≤ L) (f : gs g r < 0) : Ring ar r := by
  have ne : r ≠ [] := fun e => by rw [e] at hl; simp at hl; omega
  obtain ⟨r', h2, h3, h4, h5⟩ := fall_ring (g := g) r.length s r (Nat.le_refl _) ne w f
  rcases h5 with h5 | h5
  · exact ⟨ne, s, w, h5⟩
  · have := hmin r' h2 h3
    omega
theorem min_fall {L : Nat} {rs : List (List Nat)} {r0 : List Nat} (ok : ∀ p ∈ ar, p.1 < n ∧ p.2 < n) (h1 : 1 ≤ L) (hmin : ∀ r', Ring ar r' → gs g r' < 0 → L ≤ r'.length)
    (hin : ∀ r ∈ rs, ∃ s, Wk ar s s r s ∧ r.length = L ∧ gs g r < 0) (hall : ∀ s, s < n + 1 - L → ∀ r, Wk ar s s r s → r.length = L → gs g r < 0 → ∃ r1 ∈ rs, LexLe r1 r) (h0 : r0 ∈ rs) (hle : ∀ r ∈ rs, LexLe r0 r) : MinFall ar g r0 := by
  obtain ⟨s, w, hl, f⟩ := hin r0 h0
  refine ⟨ring_of_len hmin w hl h1 f, f, fun r' hr' f' => ?_⟩
  have hL := hmin r' hr' f'
  by_cases e : r'.length = L
  · obtain ⟨ne, s', w', nd⟩ := hr'
    have hs := ring_short ok w' nd ne
    obtain ⟨r1, m1, l1⟩ := hall s' (by omega) r' w' e f'
    exact .inr ⟨by omega, (hle r1 m1).trans l1⟩
  · exact .inl (by omega)
/-- no closed walk of that length falls: no ring does -/
theorem no_len {L : Nat} (ok : ∀ p ∈ ar, p.1 < n ∧ p.2 < n) (hno : ∀ s, s < n + 1 - L → ∀ r, Wk ar s s r s → r.length = L → ¬ gs g r < 0) (hmin : ∀ r', Ring ar r' → gs g r' < 0 → L ≤ r'.length) : ∀ r', Ring ar r' → gs g r' < 0 → L + 1 ≤ r'.length := fun r' hr' f' => by
  have hL := hmin r' hr' f'
  by_cases e : r'.length = L
  · obtain ⟨ne, s', w', nd⟩ := hr'
    have hs := ring_short ok w' nd ne
    exact absurd f' (hno s' (by omega) r' w' e)
  · omega
theorem no_ring {r : List Nat} (ok : ∀ p ∈ ar, p.1 < n ∧ p.2 < n) (hmin : ∀ r', Ring ar r' → gs g r' < 0 → n + 1 ≤ r'.length) (hr : Ring ar r) : 0 ≤ gs g r := by
  by_cases f : gs g r < 0
  · have h1 := hmin r hr f
    obtain ⟨ne, s', w', nd⟩ := hr
    have hs := ring_short ok w' nd ne
    omega
  · omega
theorem sum_gs : ∀ r : List Nat, (r.map g).sum = gs g r
  | [] => rfl
  | k :: r => by rw [List.map_cons, List.sum_cons, sum_gs r]; rfl
end
end Pa
end
section
set_option autoImplicit false
set_option linter.all false
/-! Relaxing costs: n rounds are enough. -/
namespace Pa
section
variable {ar : List (Nat × Nat)} {n : Nat} {c : Nat → Int} {o0 ov ov' : Nat → Int}
theorem gs_nonneg (hc : ∀ k, 0 ≤ c k) : ∀ r : List Nat, 0 ≤ gs c r
  | [] => Int.le_refl _
  | k :: r => by
    have h1 := gs_nonneg hc r
    have h2 := hc k
    simp only [gs]
    omega
/-- a walk that is no longer than n, and costs no more -/
theorem short_walk (ok : ∀ p ∈ ar, p.1 < n ∧ p.2 < n) (hc : ∀ k, 0 ≤ c k) : ∀ (m : Nat) (x : List Nat) (a b : Nat), a < n → x.length ≤ m → Wk ar 0 a x b → ∃ x', Wk ar 0 a x' b ∧ gs c x' ≤ gs c x ∧ x'.length ≤ n
  | m, x, a, b, ha, h, w => by
    by_cases d : (pls ar a x).Nodup
    · refine ⟨x, w, Int.le_refl _, ?_⟩
      have h1 := nodup_bound n _ d (w.places_lt ok ha)
      rw [pls_length] at h1
      omega
    · obtain ⟨p, u, y, z, rfl, ny, w1, w2, w3⟩ := w.cut d
      have hy : 0 < y.length := List.length_pos_iff.mpr ny
      have gy := gs_nonneg hc y
      cases m with
      | zero => rw [List.length_append, List.length_append] at h; omega
      | succ m =>
        obtain ⟨x', h1, h2, h3⟩ := short_walk ok hc m (u ++ z) a b ha (by simp at h ⊢; omega) (w1.append w3)
        simp only [gs_append] at h2 ⊢
        exact ⟨x', h1, by omega, h3⟩
/-- every number is the cost of a walk -/
def BfA (ar : List (Nat × Nat)) (n : Nat) (c o0 ov : Nat → Int) : Prop := ∀ v, v < n → ∃ r b, Wk ar 0 v r b ∧ b < n ∧ ov v = gs c r + o0 b
/-- .. and no walk of at most i arrows costs less; nor one of at most i + 1 that begins below j -/
def BfC (ar : List (Nat × Nat)) (n : Nat) (c o0 ov : Nat → Int) (i j : Nat) : Prop := (∀ v r b, v < n → Wk ar 0 v r b → r.length ≤ i → ov v ≤ gs c r + o0 b) ∧ ∀ v k r b, v < n → k < j → Wk ar 0 v (k :: r) b → r.length ≤ i → ov v ≤ gs c (k :: r) + o0 b
theorem bf_start : BfA ar n c o0 o0 ∧ BfC ar n c o0 o0 0 0 := by
  refine ⟨fun v hv => ⟨[], v, rfl, hv, by simp [gs]⟩, fun v r b hv w hl => ?_, fun v k r b _ hk => absurd hk (Nat.not_lt_zero _)⟩
  have hr : r = [] := List.length_eq_zero_iff.mp (by omega)
  subst hr
  have e : v = b := w
  subst e
  simp [gs]
theorem bf_step (ok : ∀ p ∈ ar, p.1 < n ∧ p.2 < n) {i j t h : Nat} (e : ar[j]? = some (t, h)) (hA : BfA ar n c o0 ov) (hC : BfC ar n c o0 ov i j) (ht : ov' t = if c j + ov h < ov t then c j + ov h else ov t) (ho : ∀ v, v ≠ t → ov' v = ov v) : BfA ar n c o0 ov' ∧ BfC ar n c o0 ov' i (j + 1) := by
  have le : ∀ v, ov' v ≤ ov v := fun v => by
    by_cases hv : v = t
    · subst hv
      rw [ht]
      split <;> omega
    · rw [ho v hv]
      exact Int.le_refl _
  have hp := ok _ (List.mem_of_getElem? e)
  refine ⟨fun v hv => ?_, fun v r b hv w hl => Int.le_trans (le v) (hC.1 v r b hv w hl), fun v k r b hv hk w hl => ?_⟩
  · by_cases hvt : v = t
    · subst hvt
      rw [ht]
      split
      · obtain ⟨r, b, w, hb, eo⟩ := hA h hp.2
        exact ⟨j :: r, b, ⟨h, e, Nat.zero_le _, w⟩, hb, by rw [eo]; simp only [gs]; omega⟩
      · exact hA v hv
    · rw [ho v hvt]
      exact hA v hv
  · by_cases hkj : k < j
    · exact Int.le_trans (le v) (hC.2 v k r b hv hkj w hl)
    · have ek : k = j := by omega
      subst ek
      obtain ⟨h', e', _, w'⟩ := w
      rw [e] at e'
      cases e'
      have h1 := hC.1 h r b hp.2 w' hl
      rw [ht]
      simp only [gs]
      split <;> omega
theorem bf_round {i : Nat} (hC : BfC ar n c o0 ov i ar.length) : BfC ar n c o0 ov (i + 1) 0 := by
  refine ⟨fun v r b hv w hl => ?_, fun v k r b _ hk => absurd hk (Nat.not_lt_zero _)⟩
  cases r with
  | nil => exact hC.1 v [] b hv w (Nat.zero_le _)
  | cons k r =>
    refine hC.2 v k r b hv ?_ w (by simpa using hl)
    exact w.lt k List.mem_cons_self
theorem bf_done (ok : ∀ p ∈ ar, p.1 < n ∧ p.2 < n) (hc : ∀ k, 0 ≤ c k) (hA : BfA ar n c o0 ov) (hC : BfC ar n c o0 ov n 0) {k t h : Nat} (e : ar[k]? = some (t, h)) : ov t ≤ c k + ov h := by
  have hp := ok _ (List.mem_of_getElem? e)
  obtain ⟨r, b, w, hb, eo⟩ := hA h hp.2
  obtain ⟨x', w', g', l'⟩ := short_walk ok hc (k :: r).length (k :: r) t b hp.1 (Nat.le_refl _) ⟨h, e, Nat.zero_le _, w⟩
  have h1 := hC.1 t x' b hp.1 w' l'
  simp only [gs] at g'
  omega
theorem bf_low (hc : ∀ k, 0 ≤ c k) (ho : ∀ v, v < n → 0 ≤ o0 v) (hA : BfA ar n c o0 ov) {v : Nat} (hv : v < n) : 0 ≤ ov v := by
  obtain ⟨r, b, w, hb, eo⟩ := hA v hv
  have h1 := gs_nonneg hc r
  have h2 := ho b hb
  omega
theorem bf_high {i j : Nat} (hC : BfC ar n c o0 ov i j) {v : Nat} (hv : v < n) : ov v ≤ o0 v := by
  have := hC.1 v [] v hv rfl (Nat.zero_le _)
  simp only [gs] at this
  omega
end
end Pa
end
section
set_option autoImplicit false
set_option linter.all false
set_option maxRecDepth 100000
/-! All simple walks: how many, and that none is missed. -/
namespace Pa
def bT : List Nat := [1, 2, 3, 5, 7, 11, 16, 23, 34, 49, 70, 103, 148, 211]
/-- at most so many simple walks where m arrows are left -/
def bB (m : Nat) : Nat := bT[m]?.getD 0
theorem bB_step0 : ∀ m, m < 14 → ∀ d, d < 14 → d ≤ m → 1 + d * bB (m - d) ≤ bB m := by decide +kernel
theorem bB_step {m d : Nat} (hm : m ≤ 13) (hd : d ≤ m) : 1 + d * bB (m - d) ≤ bB m := bB_step0 m (by omega) d (by omega) hd
theorem bB_top0 : ∀ m, m < 14 → bB m ≤ 211 ∧ 1 ≤ bB m := by decide +kernel
theorem bB_top {m : Nat} (hm : m ≤ 13) : bB m ≤ 211 ∧ 1 ≤ bB m := bB_top0 m (by omega)
section
variable {ar : List (Nat × Nat)} {st lo : Nat}
/-- a simple walk from st to b, all its places from lo on -/
def Sw (ar : List (Nat × Nat)) (st lo : Nat) (r : List Nat) (b : Nat) : Prop := Wk ar 0 st r b ∧ (pls ar st r).Nodup ∧ ∀ p ∈ pls ar st r, lo ≤ p
def avl (ar : List (Nat × Nat)) (st : Nat) (r : List Nat) : Nat := ((List.range ar.length).filter fun k => decide (tlOf ar k ∉ (pls ar st r).dropLast)).length
/-- the arrows below i out of b -/
def outd (ar : List (Nat × Nat)) (b i : Nat) : Nat := ((List.range i).filter fun k => decide (tlOf ar k = b)).length
theorem filt_split {α : Type} {f : α → Nat} {Ps : List Nat} {b : Nat} (hb : b ∉ Ps) : ∀ l : List α, (l.filter fun k => decide (f k ∉ Ps)).length = (l.filter fun k => decide (f k ∉ Ps ++ [b])).length + (l.filter fun k => decide (f k = b)).length
  | [] => rfl
  | k :: l => by
    have ih := filt_split (f := f) hb l
    by_cases h1 : f k = b
    · have h2 : f k ∉ Ps := by rw [h1]; exact hb
      have h3 : ¬ f k ∉ Ps ++ [b] := by simp [h1]
      rw [List.filter_cons, List.filter_cons, List.filter_cons, if_pos (decide_eq_true h2), if_neg (by simpa using h3), if_pos (decide_eq_true h1)]
      simp only [List.length_cons]
      omega
    · by_cases h2 : f k ∈ Ps
      · have h3 : ¬ f k ∉ Ps ++ [b] := by simp [h2]
        rw [List.filter_cons, List.filter_cons, List.filter_cons, if_neg (by simpa using h2), if_neg (by simpa using h3), if_neg (by simpa using h1)]
        exact ih
      · have h3 : f k ∉ Ps ++ [b] := by simp [h1, h2]
        rw [List.filter_cons, List.filter_cons, List.filter_cons, if_pos (decide_eq_true h2), if_pos (decide_eq_true h3), if_neg (by simpa using h1)]
        simp only [List.length_cons]
        omega
theorem pls_last {r : List Nat} {b : Nat} (w : Wk ar lo st r b) : pls ar st r = (pls ar st r).dropLast ++ [b] := by
  have h := w.last
  have hne : pls ar st r ≠ [] := pls_ne
  have h2 : (pls ar st r).getLast hne = b := by
    rw [List.getLast?_eq_some_getLast hne] at h
    exact Option.some.inj h
  have h1 := List.dropLast_concat_getLast hne
  rw [h2] at h1
  exact h1.symm
theorem avl_more {r : List Nat} {b k : Nat} (s : Sw ar st lo r b) : avl ar st r = avl ar st (r ++ [k]) + outd ar b ar.length := by
  have e := pls_last s.1
  have nd := s.2.1
  have hb : b ∉ (pls ar st r).dropLast := by
    rw [e] at nd
    have := (List.nodup_append.mp nd).2.2
    exact fun z => this b z b (by simp) rfl
  have e2 : (pls ar st (r ++ [k])).dropLast = (pls ar st r).dropLast ++ [b] := by
    rw [pls_snoc, List.dropLast_concat]
    exact e
  unfold avl outd
  rw [e2]
  exact filt_split hb _
theorem avl_le (r : List Nat) : avl ar st r ≤ ar.length := by
  unfold avl
  have := List.length_filter_le (fun k => decide (tlOf ar k ∉ (pls ar st r).dropLast)) (List.range ar.length)
  rw [List.length_range] at this
  exact this
def pot (ar : List (Nat × Nat)) (st : Nat) (l : List (List Nat)) : Nat := (l.map fun r => bB (avl ar st r)).sum
theorem pot_append (x y : List (List Nat)) : pot ar st (x ++ y) = pot ar st x + pot ar st y := by
  unfold pot
  rw [List.map_append, List.sum_append]
theorem pot_len (hm : ar.length ≤ 13) : ∀ l : List (List Nat), l.length ≤ pot ar st l
  | [] => by simp [pot]
  | r :: l => by
    have h1 := pot_len hm l
    have h2 := (bB_top (Nat.le_trans (avl_le (ar := ar) (st := st) r) hm)).2
    unfold pot at *
    simp only [List.map_cons, List.sum_cons, List.length_cons]
    omega
theorem pot_kids {r : List Nat} {b : Nat} (s : Sw ar st lo r b) : ∀ ks : List Nat, pot ar st (ks.map fun k => r ++ [k]) = ks.length * bB (avl ar st r - outd ar b ar.length)
  | [] => by simp [pot]
  | k :: ks => by
    have h1 := pot_kids s ks
    have h2 := avl_more (k := k) s
    have h3 : avl ar st (r ++ [k]) = avl ar st r - outd ar b ar.length := by omega
    unfold pot at *
    simp only [List.map_cons, List.sum_cons, List.length_cons]
    rw [h1, h3, Nat.succ_mul]
    omega
/-- a processed walk: its numbers fall -/
theorem pot_step {r : List Nat} {b : Nat} {rest : List (List Nat)} {ks : List Nat} {i : Nat} (hm : ar.length ≤ 13) (s : Sw ar st lo r b) (hk : ks.length ≤ outd ar b ar.length) (hp : i + pot ar st (r :: rest) ≤ 211) : i + 1 + pot ar st (rest ++ ks.map fun k => r ++ [k]) ≤ 211 := by
  have h1 := pot_kids s ks
  have h2 := avl_more (k := 0) s
  have h3 : outd ar b ar.length ≤ avl ar st r := by omega
  have h4 := bB_step (Nat.le_trans (avl_le (ar := ar) (st := st) r) hm) h3
  have h5 : ks.length * bB (avl ar st r - outd ar b ar.length) ≤ outd ar b ar.length * bB (avl ar st r - outd ar b ar.length) := Nat.mul_le_mul_right _ hk
  rw [pot_append, h1]
  have h6 : pot ar st (r :: rest) = bB (avl ar st r) + pot ar st rest := by simp [pot]
  omega
theorem outd_succ {b i : Nat} : outd ar b (i + 1) = outd ar b i + (if tlOf ar i = b then 1 else 0) := by
  unfold outd
  rw [List.range_succ, List.filter_append, List.length_append]
  by_cases h : tlOf ar i = b <;> simp [h]
theorem sw_nil (h : lo ≤ st) : Sw ar st lo [] st := ⟨rfl, by simp [pls], fun p hp => by simp [pls] at hp; omega⟩
theorem sw_snoc {r : List Nat} {k b h : Nat} (s : Sw ar st lo r b) (e : ar[k]? = some (b, h)) (hl : lo ≤ h) (hn : h ∉ pls ar st r) : Sw ar st lo (r ++ [k]) h := by
  refine ⟨Wk.snoc.mpr ⟨b, s.1, e, Nat.zero_le _⟩, ?_, fun p hp => ?_⟩
  · rw [pls_snoc, hdOf_of e]
    refine List.nodup_append.mpr ⟨s.2.1, by simp, fun x hx y hy z => ?_⟩
    rw [List.mem_singleton.mp hy] at z
    exact hn (z ▸ hx)
  · rw [pls_snoc, hdOf_of e] at hp
    rcases List.mem_append.mp hp with z | z
    · exact s.2.2 p z
    · rw [List.mem_singleton.mp z]
      exact hl
/-- none is missed -/
theorem sw_all {WL : List (List Nat)} (h0 : [] ∈ WL) (hc : ∀ r ∈ WL, ∀ b k h, Wk ar 0 st r b → ar[k]? = some (b, h) → lo ≤ h → h ∉ pls ar st r → r ++ [k] ∈ WL) : ∀ (n : Nat) (r : List Nat) (b : Nat), r.length ≤ n → Sw ar st lo r b → r ∈ WL
  | n, r, b, hn, s => by
    by_cases hr : r = []
    · rw [hr]
      exact h0
    · obtain ⟨r', k, rfl⟩ : ∃ r' k, r = r' ++ [k] := ⟨r.dropLast, r.getLast hr, (List.dropLast_concat_getLast hr).symm⟩
      obtain ⟨b', w', e, _⟩ := Wk.snoc.mp s.1
      have nd := s.2.1
      rw [pls_snoc, hdOf_of e] at nd
      have nd2 := List.nodup_append.mp nd
      have s' : Sw ar st lo r' b' := ⟨w', nd2.1, fun p hp => s.2.2 p (by rw [pls_snoc]; exact List.mem_append_left _ hp)⟩
      cases n with
      | zero => simp at hn
      | succ n =>
        have h1 := sw_all h0 hc n r' b' (by simp at hn; omega) s'
        refine hc r' h1 b' k b w' e (s.2.2 b (by rw [pls_snoc, hdOf_of e]; simp)) fun z => ?_
        exact nd2.2.2 b z b (by simp) rfl
end
end Pa
end
section
set_option Elab.async false
set_option linter.all false
set_option maxRecDepth 100000
/-! The text by places. -/
namespace Pa
open PySem PySem.Spec PyProof.Rows L2
def top (i : Nat) : Stmt := PySem.Challenge.pw_purseahead_k12_whole_covered_or_short_fo.main.body.getD i (.Pass ⟨0, 0, 0, 0⟩)
abbrev s_is_whole : Stmt := top 10
abbrev s_is_row : Stmt := top 11
abbrev s_check_place : Stmt := top 13
abbrev s_reached_places : Stmt := top 14
abbrev s_arrow_gain : Stmt := top 18
abbrev s_rest_rows : Stmt := top 19
abbrev s_can_drift : Stmt := top 20
abbrev s_least_ring : Stmt := top 21
abbrev s_first_drift : Stmt := top 22
abbrev s_find_fall : Stmt := top 23
abbrev s_check_run : Stmt := top 26
abbrev s_places_of : Stmt := top 27
abbrev s_used_by : Stmt := top 28
abbrev s_lead_rows : Stmt := top 30
abbrev s_extreme_worths : Stmt := top 31
abbrev s_low_leads : Stmt := top 32
abbrev s_least_walk : Stmt := top 33
abbrev s_find_short : Stmt := top 36
abbrev s_is_covered : Stmt := top 37
abbrev s_least_first : Stmt := top 38
abbrev s_L_mix : Stmt := top 43
abbrev s_L_hand : Stmt := top 44
abbrev s_L_draw : Stmt := top 45
abbrev s_L_exact : Stmt := top 46
abbrev s_L_take : Stmt := top 47
abbrev s_L_cost : Stmt := top 48
abbrev s_L_order : Stmt := top 49
abbrev s_L_chart : Stmt := top 50
abbrev s_L_behind : Stmt := top 51
abbrev s_L_inner : Stmt := top 52
abbrev s_L_even_row : Stmt := top 53
abbrev s_L_meter : Stmt := top 54
abbrev s_L_made : Stmt := top 55
abbrev s_L_gain : Stmt := top 56
abbrev s_L_sum : Stmt := top 57
abbrev s_L_walks : Stmt := top 58
abbrev s_L_rings : Stmt := top 59
abbrev s_L_paths : Stmt := top 60
abbrev s_L_first_ring : Stmt := top 61
abbrev s_L_behind_leads : Stmt := top 62
abbrev s_L_due : Stmt := top 63
abbrev s_L_told : Stmt := top 64
abbrev s_L_asked : Stmt := top 65
abbrev s_L_one : Stmt := top 66
abbrev s_L_main : Stmt := top 67
abbrev s_Drifting_init : Stmt := inClass (top 8) 0
abbrev s_Chart_init : Stmt := inClass (top 15) 0
abbrev s_Chart_outs : Stmt := inClass (top 15) 2
abbrev s_Drift_init : Stmt := inClass (top 17) 0
abbrev s_Short_init : Stmt := inClass (top 35) 0
abbrev s_Short_eq : Stmt := inClass (top 35) 1
abbrev s_Meter_init : Stmt := inClass (top 41) 0
abbrev s_Meter_charged : Stmt := inClass (top 41) 3
abbrev s_Meter_lead_behind : Stmt := inClass (top 41) 5
abbrev s_Meter_with_first : Stmt := inClass (top 41) 6
end Pa
end
section
set_option Elab.async false
set_option linter.all false
set_option maxRecDepth 100000
set_option maxHeartbeats 0
/-! The head: facts by names, the run. -/
namespace Pa
open PySem PySem.Spec PyProof.Rows L2
def d_is_whole : He.DefD := ⟨("is_whole", none), "is_whole", "is_whole", defArgs s_is_whole, defBody s_is_whole, defScope s_is_whole, [], []⟩
def d_is_row : He.DefD := ⟨("is_row", none), "is_row", "is_row", defArgs s_is_row, defBody s_is_row, defScope s_is_row, [], []⟩
def d_check_place : He.DefD := ⟨("check_place", none), "check_place", "check_place", defArgs s_check_place, defBody s_check_place, defScope s_check_place, [], []⟩
def d_reached_places : He.DefD := ⟨("reached_places", none), "reached_places", "reached_places", defArgs s_reached_places, defBody s_reached_places, defScope s_reached_places, [], []⟩
def d_arrow_gain : He.DefD := ⟨("arrow_gain", none), "arrow_gain", "arrow_gain", defArgs s_arrow_gain, defBody s_arrow_gain, defScope s_arrow_gain, [], []⟩
def d_rest_rows : He.DefD := ⟨("rest_rows", none), "rest_rows", "rest_rows", defArgs s_rest_rows, defBody s_rest_rows, defScope s_rest_rows, [], []⟩
def d_can_drift : He.DefD := ⟨("can_drift", none), "can_drift", "can_drift", defArgs s_can_drift, defBody s_can_drift, defScope s_can_drift, [], []⟩
def d_least_ring : He.DefD := ⟨("least_ring", none), "least_ring", "least_ring", defArgs s_least_ring, defBody s_least_ring, defScope s_least_ring, [], []⟩
def d_first_drift : He.DefD := ⟨("first_drift", none), "first_drift", "first_drift", defArgs s_first_drift, defBody s_first_drift, defScope s_first_drift, [], []⟩
def d_find_fall : He.DefD := ⟨("find_fall", none), "find_fall", "find_fall", defArgs s_find_fall, defBody s_find_fall, defScope s_find_fall, [], []⟩
def d_check_run : He.DefD := ⟨("check_run", none), "check_run", "check_run", defArgs s_check_run, defBody s_check_run, defScope s_check_run, [], []⟩
def d_places_of : He.DefD := ⟨("places_of", none), "places_of", "places_of", defArgs s_places_of, defBody s_places_of, defScope s_places_of, [], []⟩
def d_used_by : He.DefD := ⟨("used_by", none), "used_by", "used_by", defArgs s_used_by, defBody s_used_by, defScope s_used_by, [], []⟩
def d_lead_rows : He.DefD := ⟨("lead_rows", none), "lead_rows", "lead_rows", defArgs s_lead_rows, defBody s_lead_rows, defScope s_lead_rows, [], []⟩
def d_extreme_worths : He.DefD := ⟨("extreme_worths", none), "extreme_worths", "extreme_worths", defArgs s_extreme_worths, defBody s_extreme_worths, defScope s_extreme_worths, [], []⟩
def d_low_leads : He.DefD := ⟨("low_leads", none), "low_leads", "low_leads", defArgs s_low_leads, defBody s_low_leads, defScope s_low_leads, [], []⟩
def d_least_walk : He.DefD := ⟨("least_walk", none), "least_walk", "least_walk", defArgs s_least_walk, defBody s_least_walk, defScope s_least_walk, [], []⟩
def d_find_short : He.DefD := ⟨("find_short", none), "find_short", "find_short", defArgs s_find_short, defBody s_find_short, defScope s_find_short, [], []⟩
def d_is_covered : He.DefD := ⟨("is_covered", none), "is_covered", "is_covered", defArgs s_is_covered, defBody s_is_covered, defScope s_is_covered, [], []⟩
def d_least_first : He.DefD := ⟨("least_first", none), "least_first", "least_first", defArgs s_least_first, defBody s_least_first, defScope s_least_first, [], []⟩
def d_L_mix : He.DefD := ⟨("_law_mix", none), "_law_mix", "_law_mix", defArgs s_L_mix, defBody s_L_mix, defScope s_L_mix, [], []⟩
def d_L_hand : He.DefD := ⟨("_law_hand", none), "_law_hand", "_law_hand", defArgs s_L_hand, defBody s_L_hand, defScope s_L_hand, [], []⟩
def d_L_draw : He.DefD := ⟨("_law_draw", none), "_law_draw", "_law_draw", defArgs s_L_draw, defBody s_L_draw, defScope s_L_draw, [], []⟩
def d_L_exact : He.DefD := ⟨("_law_exact", none), "_law_exact", "_law_exact", defArgs s_L_exact, defBody s_L_exact, defScope s_L_exact, [], []⟩
def d_L_take : He.DefD := ⟨("_law_take", none), "_law_take", "_law_take", defArgs s_L_take, defBody s_L_take, defScope s_L_take, [], []⟩
def d_L_cost : He.DefD := ⟨("_law_cost", none), "_law_cost", "_law_cost", defArgs s_L_cost, defBody s_L_cost, defScope s_L_cost, [], []⟩
def d_L_order : He.DefD := ⟨("_law_order", none), "_law_order", "_law_order", defArgs s_L_order, defBody s_L_order, defScope s_L_order, [], []⟩
def d_L_chart : He.DefD := ⟨("_law_chart", none), "_law_chart", "_law_chart", defArgs s_L_chart, defBody s_L_chart, defScope s_L_chart, [], []⟩
def d_L_behind : He.DefD := ⟨("_law_behind", none), "_law_behind", "_law_behind", defArgs s_L_behind, defBody s_L_behind, defScope s_L_behind, [], []⟩
def d_L_inner : He.DefD := ⟨("_law_inner", none), "_law_inner", "_law_inner", defArgs s_L_inner, defBody s_L_inner, defScope s_L_inner, [], []⟩
def d_L_even_row : He.DefD := ⟨("_law_even_row", none), "_law_even_row", "_law_even_row", defArgs s_L_even_row, defBody s_L_even_row, defScope s_L_even_row, [], []⟩
def d_L_meter : He.DefD := ⟨("_law_meter", none), "_law_meter", "_law_meter", defArgs s_L_meter, defBody s_L_meter, defScope s_L_meter, [], []⟩
def d_L_made : He.DefD := ⟨("_law_made", none), "_law_made", "_law_made", defArgs s_L_made, defBody s_L_made, defScope s_L_made, [], []⟩
def d_L_gain : He.DefD := ⟨("_law_gain", none), "_law_gain", "_law_gain", defArgs s_L_gain, defBody s_L_gain, defScope s_L_gain, [], []⟩
def d_L_sum : He.DefD := ⟨("_law_sum", none), "_law_sum", "_law_sum", defArgs s_L_sum, defBody s_L_sum, defScope s_L_sum, [], []⟩
def d_L_walks : He.DefD := ⟨("_law_walks", none), "_law_walks", "_law_walks", defArgs s_L_walks, defBody s_L_walks, defScope s_L_walks, [], []⟩
def d_L_rings : He.DefD := ⟨("_law_rings", none), "_law_rings", "_law_rings", defArgs s_L_rings, defBody s_L_rings, defScope s_L_rings, [], []⟩
def d_L_paths : He.DefD := ⟨("_law_paths", none), "_law_paths", "_law_paths", defArgs s_L_paths, defBody s_L_paths, defScope s_L_paths, [], []⟩
def d_L_first_ring : He.DefD := ⟨("_law_first_ring", none), "_law_first_ring", "_law_first_ring", defArgs s_L_first_ring, defBody s_L_first_ring, defScope s_L_first_ring, [], []⟩
def d_L_behind_leads : He.DefD := ⟨("_law_behind_leads", none), "_law_behind_leads", "_law_behind_leads", defArgs s_L_behind_leads, defBody s_L_behind_leads, defScope s_L_behind_leads, [], []⟩
def d_L_due : He.DefD := ⟨("_law_due", none), "_law_due", "_law_due", defArgs s_L_due, defBody s_L_due, defScope s_L_due, [], []⟩
def d_L_told : He.DefD := ⟨("_law_told", none), "_law_told", "_law_told", defArgs s_L_told, defBody s_L_told, defScope s_L_told, [], []⟩
def d_L_asked : He.DefD := ⟨("_law_asked", none), "_law_asked", "_law_asked", defArgs s_L_asked, defBody s_L_asked, defScope s_L_asked, [], []⟩
def d_L_one : He.DefD := ⟨("_law_one", none), "_law_one", "_law_one", defArgs s_L_one, defBody s_L_one, defScope s_L_one, [], []⟩
def d_L_main : He.DefD := ⟨("law", none), "law", "law", defArgs s_L_main, defBody s_L_main, defScope s_L_main, [], []⟩
def d_Drifting_init : He.DefD := ⟨("Drifting", some "__init__"), "__init__", "Drifting.__init__", defArgs s_Drifting_init, defBody s_Drifting_init, defScope s_Drifting_init, [], []⟩
def d_Chart_init : He.DefD := ⟨("Chart", some "__init__"), "__init__", "Chart.__init__", defArgs s_Chart_init, defBody s_Chart_init, defScope s_Chart_init, [], []⟩
def d_Chart_outs : He.DefD := ⟨("Chart", some "outs"), "outs", "Chart.outs", defArgs s_Chart_outs, defBody s_Chart_outs, defScope s_Chart_outs, [], []⟩
def d_Drift_init : He.DefD := ⟨("Drift", some "__init__"), "__init__", "Drift.__init__", defArgs s_Drift_init, defBody s_Drift_init, defScope s_Drift_init, [], []⟩
def d_Short_init : He.DefD := ⟨("Short", some "__init__"), "__init__", "Short.__init__", defArgs s_Short_init, defBody s_Short_init, defScope s_Short_init, [], []⟩
def d_Short_eq : He.DefD := ⟨("Short", some "__eq__"), "__eq__", "Short.__eq__", defArgs s_Short_eq, defBody s_Short_eq, defScope s_Short_eq, [], []⟩
def d_Meter_init : He.DefD := ⟨("Meter", some "__init__"), "__init__", "Meter.__init__", defArgs s_Meter_init, defBody s_Meter_init, defScope s_Meter_init, [], []⟩
def d_Meter_charged : He.DefD := ⟨("Meter", some "charged"), "charged", "Meter.charged", defArgs s_Meter_charged, defBody s_Meter_charged, defScope s_Meter_charged, [], []⟩
def d_Meter_lead_behind : He.DefD := ⟨("Meter", some "lead_behind"), "lead_behind", "Meter.lead_behind", defArgs s_Meter_lead_behind, defBody s_Meter_lead_behind, defScope s_Meter_lead_behind, [], []⟩
def d_Meter_with_first : He.DefD := ⟨("Meter", some "with_first"), "with_first", "Meter.with_first", defArgs s_Meter_with_first, defBody s_Meter_with_first, defScope s_Meter_with_first, [], []⟩
def fn0 : List He.DefD := [d_is_whole, d_is_row, d_check_place, d_reached_places, d_arrow_gain, d_rest_rows, d_can_drift, d_least_ring, d_first_drift, d_find_fall, d_check_run, d_places_of, d_used_by, d_lead_rows, d_extreme_worths]
def fn1 : List He.DefD := [d_low_leads, d_least_walk, d_find_short, d_is_covered, d_least_first, d_L_mix, d_L_hand, d_L_draw, d_L_exact, d_L_take, d_L_cost, d_L_order, d_L_chart, d_L_behind, d_L_inner]
def fn2 : List He.DefD := [d_L_even_row, d_L_meter, d_L_made, d_L_gain, d_L_sum, d_L_walks, d_L_rings, d_L_paths, d_L_first_ring, d_L_behind_leads, d_L_due, d_L_told, d_L_asked, d_L_one, d_L_main]
def fn3 : List He.DefD := [d_Drifting_init, d_Chart_init, d_Chart_outs, d_Drift_init, d_Short_init, d_Short_eq, d_Meter_init, d_Meter_charged, d_Meter_lead_behind, d_Meter_with_first]
def fn : List He.DefD := fn0 ++ fn1 ++ fn2 ++ fn3
def fa0 : List He.Fa := [.glo "is_whole", .glo "is_row", .glo "check_place", .glo "reached_places", .glo "arrow_gain", .glo "rest_rows", .glo "can_drift", .glo "least_ring", .glo "first_drift", .glo "find_fall", .glo "check_run", .glo "places_of", .glo "used_by", .glo "lead_rows", .glo "extreme_worths"]
def fa1 : List He.Fa := [.glo "low_leads", .glo "least_walk", .glo "find_short", .glo "is_covered", .glo "least_first", .glo "_law_mix", .glo "_law_hand", .glo "_law_draw", .glo "_law_exact", .glo "_law_take", .glo "_law_cost", .glo "_law_order", .glo "_law_chart", .glo "_law_behind", .glo "_law_inner"]
def fa2 : List He.Fa := [.glo "_law_even_row", .glo "_law_meter", .glo "_law_made", .glo "_law_gain", .glo "_law_sum", .glo "_law_walks", .glo "_law_rings", .glo "_law_paths", .glo "_law_first_ring", .glo "_law_behind_leads", .glo "_law_due", .glo "_law_told", .glo "_law_asked", .glo "_law_one", .glo "law"]
def fa3 : List He.Fa := [.glo "Chart", .glo "Drift", .glo "Short", .glo "Meter", .glo "Drifting", .glo "MeterError", .free "isinstance", .free "int", .free "bool", .free "list", .free "tuple", .free "len", .free "enumerate", .free "range", .free "sorted"]
def fa4 : List He.Fa := [.free "sum", .free "reversed", .free "zip", .free "any", .free "max", .free "min", .free "abs", .free "str", .int "MOST_CHARGE" 1000000000000, .cls "Chart", .cls "Drift", .cls "Short", .cls "Meter", .noat "Chart" "costs", .noat "Chart" "arrows"]
def fa5 : List He.Fa := [.noat "Drift" "ring", .noat "Drift" "by", .noat "Short" "run", .noat "Short" "by", .noat "Meter" "chart", .noat "Meter" "first", .noat "Meter" "charges", .noat "Drifting" "ring", .noat "Drifting" "by", .meth "Chart" "outs", .meth "Short" "__eq__", .meth "Meter" "charged", .meth "Meter" "lead_behind", .meth "Meter" "with_first", .mkr "Chart"]
def fa6 : List He.Fa := [.mkr "Drift", .mkr "Short", .mkr "Meter", .exm "Drifting" "MeterError" true]
def fa : List He.Fa := fa0 ++ fa1 ++ fa2 ++ fa3 ++ fa4 ++ fa5 ++ fa6

def b1 (a b : Option (Option Value)) : Bool := decide (a = b)
/-- what isinstance asks of an instance's class -/
def insB (K : PySem.W.Frag) (C : Addr) : Bool := b1 (PySem.W.findIn K (.ref C) "__class__") (some (some (.builtin "object.__class__"))) && (b1 (PySem.W.specialIn K (.builtin "object.__class__") "__get__") (some (some (.builtin "getset_descriptor.__get__"))) && (decide (PySem.W.takesIn K (.builtin "object.__class__") = some true) && decide (PySem.W.mroIn K C (.type "object") = some true)))
def excB (K : PySem.W.Frag) (C : Addr) : Bool := match K.lookup C with
  | some ⟨.type "type", _, .cls cd, sl⟩ => (match cd.mro, sl.toList with
    | .ref C' :: bm, [_, _, _, _, some (.builtin n), _] => decide (C' = C) && (decide (n = "ValueError.__new__") && (!cd.hasDel && (cd.hasDict && PySem.HandSPX.refsVE bm)))
    | _, _ => false)
  | _ => false
def oexB (K : PySem.W.Frag) (C : Addr) : Bool := excB K C && (b1 (PySem.W.findIn K (.ref C) "__setattr__") (some (some (.builtin "object.__setattr__"))) && (decide (PySem.W.typeIn K (.ref C) = some (.type "type")) && (PySem.W.keepIn K (.ref C) &&
  (b1 (PySem.W.findIn K (.ref C) "__init__") (some (some (.ref (He.ma K C "__init__")))) && decide (PySem.W.typeIn K (.ref (He.ma K C "__init__")) = some (.type "function"))))))
def ex (K : PySem.W.Frag) : Bool := insB K (He.ga K "Drift") && (insB K (He.ga K "Short") && (insB K (He.ga K "Drifting") && (oexB K (He.ga K "Drifting") && (xfB K (He.ga K "Drifting") &&
  (decide (PySem.W.kitOne K (.ref (He.ga K "Short")) (.ref (He.ga K "Drift")) = some false) && decide (PySem.W.kitOne K (.ref (He.ga K "Drift")) (.ref (He.ga K "Short")) = some false))))))
abbrev R : PySem.W.OpenRow := PySem.W.OpenLaw.row PySem.Challenge.rw_purseahead_k12_whole_covered_or_short_fo
abbrev hk : PySem.W.Hook := He.hookX 5 fa fn [] [] ex
def ob (s : PySem.W.SharedT) : He.AlX := He.obsX 5 fa fn [] [] ex (HandSHeadRun.getT s)
theorem ob_eq (s : PySem.W.SharedT) : ob s = hk.obs s.abs := He.obsX_eq (HandSHeadRun.getT_eq s)
def nm0 : List PySem.Str := ["_wall", "MeterError", "BadChart", "BadPlace", "BadRun", "BadMeter", "Unlike", "Drifting", "is_whole", "is_row", "check_place", "reached_places", "Chart", "Drift", "arrow_gain"]
def nm1 : List PySem.Str := ["rest_rows", "can_drift", "least_ring", "first_drift", "find_fall", "find_rise", "check_run", "places_of", "used_by", "lead_rows", "extreme_worths", "low_leads", "least_walk", "Short", "find_short"]
def nm2 : List PySem.Str := ["is_covered", "least_first", "MOST_CHARGE", "Meter", "_law_mix", "_law_hand", "_law_draw", "_law_exact", "_law_take", "_law_cost", "_law_order", "_law_chart", "_law_behind", "_law_inner", "_law_even_row"]
def nm3 : List PySem.Str := ["_law_meter", "_law_made", "_law_gain", "_law_sum", "_law_walks", "_law_rings", "_law_paths", "_law_first_ring", "_law_behind_leads", "_law_due", "_law_told", "_law_asked", "_law_one"]
def names : List PySem.Str := nm0 ++ nm1 ++ nm2 ++ nm3
theorem run (w : World) : HandSHeadRun.RunEq R (PySem.W.view R.prog [67]) hk ob 12000 names w := by
  intro os
  kernel_rfl
end Pa
end
section
set_option Elab.async false
set_option linter.all false
set_option maxRecDepth 100000
set_option maxHeartbeats 4000000
/-! enumerate of a tuple. -/
namespace PySem
set_option maxHeartbeats 4000000 in
/-- enumerate(v) makes its two cells, v told by how iter(v) begins -/
theorem Pa.enum_new {v : Value} {o : Obj} {C : Heap → Prop} (B : Begins v o C) :
    Meets (Builtin.«enumerate.__new__» ⟨[.type "enumerate", v], []⟩)
      (fun _ R s => C s.heap ∧ R (.ok (.ret (.ref (s.heap.push o).objs.size)))
        { s with heap := Heap.push (s.heap.push o) { cls := .type "enumerate", data := .fields #[.none, .bool false, .ref s.heap.objs.size, rawInt 0, .none, .none] } }) := .of_wp fun prog w A R st hyp => by
  have sE := sub_enumerate
  obtain ⟨hp, gg, dd, tt, oo⟩ := st
  obtain ⟨hC, hR⟩ := hyp
  have go : ∀ {A' : Around} {Er QQ : Value → Shared → Prop}, QQ (.ref hp.objs.size) ⟨hp.push o, gg, dd, tt, oo⟩ → wpAny (model prog w) A' (pyIter v) QQ Er ⟨hp, gg, dd, tt, oo⟩ := fun z => B.iter prog w _ _ _ _ hC z
  wp_walk using go
  refine wpAny_stack_any fun _ => wpAny_pure ?_
  split
  · rename_i cc _ _ _ _ _
    cases (cc == Value.type "enumerate") <;> (wp_walk using go; exact ⟨_, rfl, hR⟩)
  · wp_walk using go
    exact ⟨_, rfl, hR⟩
section
variable {prog : Program} {w : World} {A : Around} {E : Value → Shared → Prop} {s : Shared}
theorem Pa.enum_call {v : Value} {o : Obj} {C : Heap → Prop} {Q : Value → Shared → Prop} (B : Begins v o C) (hC : C s.heap)
    (k : ∀ h', IsEnum h' (s.heap.objs.size + 1) s.heap.objs.size 0 .none → h'.get? s.heap.objs.size = some o → (∀ b u, s.heap.get? b = some u → h'.get? b = some u) → Q (.ref (s.heap.objs.size + 1)) { s with heap := h' }) :
    wpAny (model prog w) A (call (.type "enumerate") [v]) Q E s := by
  have sz : (s.heap.push o).objs.size = s.heap.objs.size + 1 := Heap.size_push ..
  refine callType_new F.called_enumerate (by decide) (F.typeCall_enumerate_1 _) (F.newCall_enumerate_1 _) (fun obj => F.args_object_init_2 obj _) F.entry_enumerate_new (Pa.enum_new B) ⟨hC, ?_⟩
  show _ ∧ _
  rw [sz]
  have at2 : IsEnum (Heap.push (s.heap.push o) { cls := .type "enumerate", data := .fields #[.none, .bool false, .ref s.heap.objs.size, rawInt 0, .none, .none] }) (s.heap.objs.size + 1) s.heap.objs.size 0 .none := by
    have z := Heap.get?_push_size (s.heap.push o) (o := { cls := .type "enumerate", data := .fields #[.none, .bool false, .ref s.heap.objs.size, rawInt 0, .none, .none] }) rfl
    rw [sz] at z
    exact z
  exact ⟨⟨_, at2, rfl⟩, k _ at2 (Heap.get?_push_of_some _ (Heap.get?_push_size _ B.free)) fun b u z => Heap.get?_push_of_some _ (Heap.get?_push_of_some _ z)⟩
end
end PySem
namespace Pa
open PySem PySem.Spec PyProof.Rows L2
/-- the tuple at a as it stands at each turn, each item in a new pair -/
def IteT (K : PySem.W.Frag) (a : Addr) : It where
  go := fun i H => ∃ (xs : List V) (x : V), SqT K H a xs ∧ xs[i]? = some x
  yld := fun i H v H' => ∃ T x, v = .ref T ∧ H T = none ∧ H' = upd H T (.tup [.int (i : Nat), x]) ∧ ∀ xs, SqT K H a xs → xs[i]? = some x
  stop := fun i H => ∃ xs : List V, SqT K H a xs ∧ i = xs.length
theorem turn_et {P : Program} {w : World} {K : PySem.W.Frag} {elts : List Expr} {kk : Nat} {tpos : Pos} (a e it : Addr) :
    Turn P w K (.Tuple elts kk tpos) (IteT K a) [e, it] e (fun i h => (∃ old, IsEnum h e it ((i : Nat) : Int) old) ∧ h.IsTupleIter it a i ∧ e ≠ it ∧ a ≠ it ∧ a ≠ e) where
  mem := List.mem_cons_self
  obj := by
    rintro i h ⟨⟨old, hE⟩, ⟨o, ho, _, hd⟩, _⟩ b hb
    rcases (show b = e ∨ b = it by simpa using hb) with rfl | rfl
    · exact ⟨_, hE, fun _ q => nomatch q⟩
    · exact ⟨o, ho, fun _ q => by rw [hd] at q; cases q⟩
  keep := by
    rintro i h h' ⟨⟨old, hE⟩, hI, n1, n2, n3⟩ k
    exact ⟨⟨old, k e (by simp) _ hE⟩, hI.at fun o q => k it (by simp) o q, n1, n2, n3⟩
  item := by
    intro X hP hw hK hc i pins s σ H E I hf st hg
    subst hP hw hK
    obtain ⟨⟨old, hE⟩, hI, n1, n2, n3⟩ := st
    obtain ⟨xs, x, hq, hx⟩ := hg
    obtain ⟨its, rv, p, _⟩ := I.tuple hq
    obtain ⟨u, hu, ru⟩ := rv.get hx
    have lE : e < s.heap.objs.size := Heap.lt_size hE
    have lI : it < s.heap.objs.size := by
      obtain ⟨_, q, _⟩ := hI
      exact Heap.lt_size q
    have D := Draws.tuple (prog := X.prog) (w := X.w) (A := X.A.in1) (show X.A.in1.handled = none from I.ok.hd hc) it a n2 its.toArray
    have hlt : i < its.toArray.size := by
      have := (List.getElem?_eq_some_iff.mp hu).1
      simpa using this
    refine wpAny_pyNext_enum_itemC D hE (show s.heap.IsTupleIter it a i ∧ s.heap.IsTuple a its.toArray from ⟨hI, p⟩) hlt n1 (by simp [n1, Ne.symm n3]) fun y h' tk hy ho hst hT hsz hk => ?_
    have ey : y = u := by
      have hy' : its.toArray[i]? = some y := hy
      rw [List.getElem?_toArray, hu] at hy'
      exact (Option.some.inj hy').symm
    subst ey
    refine ⟨_, rfl, wpAny_letOwnedTupleGo_enum (s := { s with heap := h', toks := tk + 1 }) ho fun h2 he2 sb => ?_⟩
    have hT2 : h2.get? s.heap.objs.size = some { cls := .type "tuple", data := .seq #[.int i tk, y] } := (sb.2 _ (Nat.ne_of_gt lE)).trans hT
    have nw : ObjOk X.prog X.w (upd H s.heap.objs.size (.tup [.int (i : Nat), x])) h2 s.heap.objs.size (.tup [.int (i : Nat), x]) := by
      refine ⟨?_, [.int i tk, y], .cons ⟨_, rfl⟩ (.cons ru .nil), ⟨_, hT2, rfl, _, rfl⟩⟩
      show 2 ≤ sizeLine
      decide
    have I1 : Inv X pins σ (upd H s.heap.objs.size (.tup [.int (i : Nat), x])) { s with heap := h2, toks := tk + 1 } := by
      refine I.turnedNew (ch := [e, it]) (fun b ob hb q => ?_) hf (Nat.le_refl _) nw
      have b1 : b ≠ e := fun z => hb (by simp [z])
      have b2 : b ≠ it := fun z => hb (by simp [z])
      exact (sb.2 b b1).trans (hk b ob b1 b2 q)
    have e1 : ((i + 1 : Nat) : Int) = (i : Int) + 1 := by omega
    refine ⟨.ref s.heap.objs.size, _, I1, rfl, ⟨_, x, rfl, I.hok.fresh (Nat.le_refl _), rfl, fun ys hys => by rw [I.tuple_inj hys hq]; exact hx⟩, ⟨⟨y, by rw [e1]; exact he2⟩, hst.1.at fun o q => (sb.2 it (Ne.symm n1)).trans q, n1, n2, n3⟩, fun b hb => ?_⟩
    have hb' : b < s.heap.objs.size := by
      rcases (show b = e ∨ b = it by simpa using hb) with rfl | rfl
      · exact lE
      · exact lI
    rw [upd_ne (Nat.ne_of_lt hb')]
    exact (hf b hb).1
  done := by
    intro X hP hw hK hc i pins s σ H E I hf st hg
    subst hP hw hK
    obtain ⟨⟨old, hE⟩, hI, n1, n2, n3⟩ := st
    obtain ⟨xs, hq, hx⟩ := hg
    obtain ⟨its, rv, p, _⟩ := I.tuple hq
    obtain ⟨f0, f1, _, f3, f4, f5⟩ := hf it (by simp)
    have hl : i = its.toArray.size := by rw [hx, rv.length]; simp
    have D := Draws.tuple (prog := X.prog) (w := X.w) (A := X.A.in1) (show X.A.in1.handled = none from I.ok.hd hc) it a n2 its.toArray
    exact wpAny_pyNext_enum_endD D hE (show s.heap.IsTupleIter it a its.toArray.size ∧ s.heap.IsTuple a its.toArray from ⟨hl ▸ hI, p⟩) fun h' eb => ⟨rfl, I.turned (t' := s.toks) (fun b o hb q => eb b o hb q) f0 f1 f3 f4 f5⟩
  self := fun A i s Q E st h => by
    obtain ⟨⟨_, hE⟩, _⟩ := st
    exact wpAny_pyIter_enum hE h
def iEnumA (K : PySem.W.Frag) (ta : TA) : TI := fun σ H R => ta σ H fun vs H1 => ∃ a xs, vs = [.ref a] ∧ ((SqL K H1 a xs ∧ R (Ite K a) H1) ∨ (SqT K H1 a xs ∧ R (IteT K a) H1))
/-- enumerate of a list or a tuple -/
theorem pi_enumA {X : Cx} {e : Expr} {ta : TA} {p pos tpos : Pos} {elts : List Expr} {kk : Nat} (hg : Gl X "enumerate") (hm : X.mg "enumerate" = none) (ha : PA X [e] ta) (hs : starEach [e] X.env = [(false, eval e X.env)] := by rfl) :
    PI X (.Tuple elts kk tpos) (.Call (.Name "enumerate" p) [e] [] pos) (iEnumA X.K ta) := by
  refine ⟨fun pins s σ H R I h => Call_ (ld_blt I hg hm boot_enumerate (PyProof.Rows.callWith_type1 (thn (ha.run pos pins s σ H _ I h) fun us s1 hh => ?_) hs rfl))⟩
  obtain ⟨vs, H1, I1, r1, a, xs, rfl, hq⟩ := hh
  obtain ⟨u, rfl, ru⟩ := vals1 r1
  obtain rfl : u = Value.ref a := ru
  have young : ∀ b ∈ [s1.heap.objs.size + 1, s1.heap.objs.size], FpOk X pins H1 b := fun b hb => by
    have hle : s1.heap.objs.size ≤ b := by
      rcases (show b = s1.heap.objs.size + 1 ∨ b = s1.heap.objs.size by simpa using hb) with rfl | rfl
      · exact Nat.le_succ _
      · exact Nat.le_refl _
    exact I1.fpOk hle (I1.hok.fresh hle)
  rcases hq with ⟨hq, q⟩ | ⟨hq, q⟩
  · obtain ⟨its, rv, pl, _⟩ := I1.list hq
    refine Pa.enum_call (begins_list a its.toArray) pl.isList fun h' he hit hk => wpAny_pyIter_enum he ?_
    exact ⟨s1.heap.objs.size + 1, [s1.heap.objs.size + 1, s1.heap.objs.size], _, _, H1, rfl, I1.kept (t' := s1.toks) hk, turn_enum a (s1.heap.objs.size + 1) s1.heap.objs.size, ⟨⟨.none, he⟩, ⟨_, hit, rfl, rfl⟩, Nat.succ_ne_self _⟩, young, q⟩
  · obtain ⟨its, rv, pt, _⟩ := I1.tuple hq
    have la : a < s1.heap.objs.size := by
      obtain ⟨_, z, _⟩ := pt
      exact Heap.lt_size z
    refine Pa.enum_call (begins_tuple a its.toArray) pt fun h' he hit hk => wpAny_pyIter_enum he ?_
    exact ⟨s1.heap.objs.size + 1, [s1.heap.objs.size + 1, s1.heap.objs.size], _, _, H1, rfl, I1.kept (t' := s1.toks) hk, turn_et a (s1.heap.objs.size + 1) s1.heap.objs.size, ⟨⟨.none, he⟩, ⟨_, hit, rfl, rfl⟩, Nat.succ_ne_self _, Nat.ne_of_lt la, Nat.ne_of_lt (Nat.lt_succ_of_lt la)⟩, young, q⟩
theorem walk_et {K : PySem.W.Frag} {a : Addr} {xs : List V} : Walk (IteT K a) xs.length (fun H => SqT K H a xs) (YPair (fun i => some (.int (i : Nat))) (fun i => xs[i]?)) where
  goes := fun i _ hi q => ⟨xs, xs[i], q, by simp [hi]⟩
  stops := fun _ q => ⟨xs, q, rfl⟩
  yields := by
    rintro i H v H' _ q ⟨T, x, h1, h2, h3, h4⟩
    exact ⟨T, .int (i : Nat), x, h1, h2, h3, rfl, h4 xs q⟩
end Pa
end
section
set_option Elab.async false
set_option linter.all false
set_option maxRecDepth 100000
set_option maxHeartbeats 4000000
/-! Data in the heap; rules that the hand layer lacks. -/
namespace Pa
open PySem PySem.Spec PyProof.Rows L2
end Pa
namespace L2
open PySem PySem.Spec PyProof.Rows
/-! ### what stays -/
theorem Same.new {H : Hp} {p : Addr} {o : HO} (h : H p = none) : Same H (upd H p o) := fun a u e => (upd_ne (ne_of_none e h)).trans e
theorem Same.mut {H H' : Hp} {p : Addr} {o : HO} (e : Same H H') (h : H p = none) : Same H (upd H' p o) := fun a u q => (upd_ne (ne_of_none q h)).trans (e a u q)
theorem Same.tup {K : PySem.W.Frag} {H H' : Hp} {a : Addr} {xs : List V} (e : Same H H') (h : SqT K H a xs) : SqT K H' a xs := by
  rcases h with (h | ⟨o, h⟩) | h
  · exact .inl (.inl (e _ _ h))
  · exact .inl (.inr ⟨o, e _ _ h⟩)
  · exact .inr h
section
variable {K : PySem.W.Frag} {H H' : Hp}
mutual
theorem Dp.mono (e : Same H H') : ∀ {d : PyData} {v : V}, Dp K H v d → Dp K H' v d
  | .none, _, h => by cases h; exact .non
  | .bool b, _, h => by cases h; exact .bl b
  | .int i, _, h => by cases h; exact .int i
  | .str x, _, h => by cases h; exact .str x
  | .list ds, _, h => by
    cases h with
    | lst hs ha => exact .lst (e.seq hs) (DpAll.mono e ha)
  | .tuple ds, _, h => by
    cases h with
    | tup hs ha => exact .tup (e.tup hs) (DpAll.mono e ha)
  | .dict _, _, h => by cases h
theorem DpAll.mono (e : Same H H') : ∀ {ds : List PyData} {vs : List V}, DpAll K H vs ds → DpAll K H' vs ds
  | [], _, h => by cases h; exact .nil
  | d :: ds, _, h => by
    cases h with
    | cons h1 h2 => exact .cons (Dp.mono e h1) (DpAll.mono e h2)
end
theorem DpAll.len : ∀ {ds : List PyData} {vs : List V}, DpAll K H vs ds → vs.length = ds.length
  | [], _, h => by cases h; rfl
  | d :: ds, _, h => by
    cases h with
    | cons h1 h2 => exact congrArg Nat.succ (DpAll.len h2)
theorem DpAll.get : ∀ {ds : List PyData} {vs : List V} {i : Nat} {d : PyData}, DpAll K H vs ds → ds[i]? = some d → ∃ v, vs[i]? = some v ∧ Dp K H v d
  | [], _, _, _, _, e => by simp at e
  | d :: ds, _, 0, _, h, e => by
    cases h with
    | cons h1 h2 =>
      simp at e
      subst e
      exact ⟨_, rfl, h1⟩
  | d :: ds, _, i + 1, x, h, e => by
    cases h with
    | cons h1 h2 =>
      obtain ⟨v, e1, e2⟩ := DpAll.get (i := i) h2 (by simpa using e)
      exact ⟨v, by simpa using e1, e2⟩
theorem DpAll.at : ∀ {ds : List PyData} {vs : List V} {i : Nat} {v : V}, DpAll K H vs ds → vs[i]? = some v → ∃ d, ds[i]? = some d ∧ Dp K H v d := fun {ds vs i v} h e => by
  have l := h.len
  have hi := (List.getElem?_eq_some_iff.mp e).1
  obtain ⟨w, e1, e2⟩ := h.get (i := i) (d := ds[i]'(by omega)) (List.getElem?_eq_getElem _)
  rw [e] at e1
  cases e1
  exact ⟨_, List.getElem?_eq_getElem _, e2⟩
theorem DpAll.append : ∀ {ds es : List PyData} {vs ws : List V}, DpAll K H vs ds → DpAll K H ws es → DpAll K H (vs ++ ws) (ds ++ es)
  | [], _, _, _, h, k => by cases h; exact k
  | d :: ds, _, _, _, h, k => by
    cases h with
    | cons h1 h2 => exact .cons h1 (DpAll.append h2 k)
theorem DpAll.set : ∀ {ds : List PyData} {vs : List V} {v : V} {d : PyData} (i : Nat), DpAll K H vs ds → Dp K H v d → DpAll K H (vs.set i v) (ds.set i d)
  | [], _, _, _, _, h, _ => by cases h; exact .nil
  | _ :: _, _, _, _, 0, h, k => by
    cases h with
    | cons h1 h2 => exact .cons k h2
  | _ :: _, _, _, _, i + 1, h, k => by
    cases h with
    | cons h1 h2 => exact .cons h1 (DpAll.set i h2 k)
theorem Dp.intE {v : V} {i : Int} (h : Dp K H v (.int i)) : v = .int i := by cases h; rfl
theorem Dp.tupE {v : V} {ds : List PyData} (h : Dp K H v (.tuple ds)) : ∃ a xs, v = .ref a ∧ SqT K H a xs ∧ DpAll K H xs ds := by
  cases h with
  | tup h1 h2 => exact ⟨_, _, rfl, h1, h2⟩
theorem Dp.lstE {v : V} {ds : List PyData} (h : Dp K H v (.list ds)) : ∃ a xs, v = .ref a ∧ SqL K H a xs ∧ DpAll K H xs ds := by
  cases h with
  | lst h1 h2 => exact ⟨_, _, rfl, h1, h2⟩
theorem DpAll.ints : ∀ {is : List Int} {vs : List V}, DpAll K H vs (is.map .int) → vs = is.map V.int
  | [], _, h => by
    have h' : DpAll K H _ [] := h
    cases h'; rfl
  | i :: is, _, h => by
    have h' : DpAll K H _ (.int i :: is.map .int) := h
    cases h' with
    | cons h1 h2 => rw [h1.intE, DpAll.ints h2]; rfl
theorem DpAll.of_ints : ∀ (is : List Int), DpAll K H (is.map V.int) (is.map .int)
  | [] => .nil
  | i :: is => .cons (.int i) (DpAll.of_ints is)
/-- numbers from 0 on -/
abbrev dN (k : Nat) : PyData := .int (k : Int)
abbrev vN (k : Nat) : V := .int (k : Int)
theorem DpAll.nats : ∀ {is : List Nat} {vs : List V}, DpAll K H vs (is.map dN) → vs = is.map vN
  | [], _, h => by
    have h' : DpAll K H _ [] := h
    cases h'; rfl
  | i :: is, _, h => by
    have h' : DpAll K H _ (dN i :: is.map dN) := h
    cases h' with
    | cons h1 h2 => rw [h1.intE, DpAll.nats h2]; rfl
theorem DpAll.of_nats : ∀ (is : List Nat), DpAll K H (is.map vN) (is.map dN)
  | [] => .nil
  | i :: is => .cons (.int _) (DpAll.of_nats is)
/-- a number or None -/
def dO : Option Int → PyData
  | none => .none
  | some i => .int i
def vO : Option Int → V
  | none => .non
  | some i => .int i
theorem Dp.optE {v : V} {o : Option Int} (h : Dp K H v (dO o)) : v = vO o := by
  cases o with
  | none =>
    have h' : Dp K H v .none := h
    cases h'; rfl
  | some i =>
    have h' : Dp K H v (.int i) := h
    cases h'; rfl
theorem Dp.opt (o : Option Int) : Dp K H (vO o) (dO o) := by
  cases o with
  | none => exact .non
  | some i => exact .int i
theorem DpAll.opts : ∀ {is : List (Option Int)} {vs : List V}, DpAll K H vs (is.map dO) → vs = is.map vO
  | [], _, h => by
    have h' : DpAll K H _ [] := h
    cases h'; rfl
  | i :: is, _, h => by
    have h' : DpAll K H _ (dO i :: is.map dO) := h
    cases h' with
    | cons h1 h2 => rw [h1.optE, DpAll.opts h2]; rfl
theorem DpAll.of_opts : ∀ (is : List (Option Int)), DpAll K H (is.map vO) (is.map dO)
  | [] => .nil
  | i :: is => .cons (.opt i) (DpAll.of_opts is)
end

end L2
namespace Pa
open PySem PySem.Spec PyProof.Rows L2
/-! ### sorted of data -/
open PySem.W in
def rSortD (K : PySem.W.Frag) : List V → Hp → VK → Prop := fun vs H Q => ∃ (a : Addr) (xs : List V) (ds : List PyData), vs = [.ref a] ∧ SqL K H a xs ∧ DpAll K H xs ds ∧ AllAlike ds ∧ Sortable ds ∧ (∀ d ∈ ds, d.depth ≤ 40) ∧
  ∀ p ys, H p = none → ys.length = xs.length → DpAll K H ys (ds.mergeSort (dataLe false id)) → Q (.ref p) (upd H p (.lst ys))
section
variable {X : Cx} {pins : List (Addr × Obj)} {σ : L2.St} {H : Hp} {s : Shared}
open PySem.W in
theorem each_of {K : PySem.W.Frag} {H : Hp} : ∀ {ds : List PyData} {xs : List V} {us : List Value}, DpAll K H xs ds → Vals xs us → EachIs (fun u d => ∃ y, RelV y u ∧ Dp K H y d) us ds
  | [], _, _, h, r => by
    cases h
    cases r
    exact .nil
  | d :: ds, _, _, h, r => by
    cases h with
    | cons h1 h2 =>
      cases r with
      | cons r1 r2 => exact .cons ⟨_, r1, h1⟩ (each_of h2 r2)
open PySem.W in
theorem of_each {K : PySem.W.Frag} {H : Hp} : ∀ {ds : List PyData} {us : List Value}, EachIs (fun u d => ∃ y, RelV y u ∧ Dp K H y d) us ds → ∃ ys, DpAll K H ys ds ∧ Vals ys us
  | _, _, .nil => ⟨[], .nil, .nil⟩
  | _, _, .cons ⟨y, h1, h2⟩ t => by
    obtain ⟨ys, k1, k2⟩ := of_each t
    exact ⟨y :: ys, .cons h2 k1, .cons h1 k2⟩
open PySem.W in
theorem cr_sortD (hu : X.A.units + 64 < cLine) : CallR X (.builtin "sorted") (rSortD X.K) := by
  intro pins s σ H vs us Q I r h
  obtain ⟨a, xs, ds, rfl, hs, hd, hal, hk, hdep, q⟩ := h
  obtain ⟨its, rv, hl, hz⟩ := I.list hs
  obtain ⟨u, rfl, ru⟩ := vals1 r
  obtain rfl : u = Value.ref a := ru
  have hm : ds.map id = ds := List.map_id ds
  refine sorted_data (enc := id) (R := fun u d => ∃ y, RelV y u ∧ Dp X.K H y d) hl.isList (each_of hd rv) ?_ (by rw [hm]; exact hal) (by rw [hm]; exact hk) (by rw [← hd.len]; exact hz) (fun b hb => ?_) fun out ho eo => ?_
  · refine (each_of hd rv).mono fun u d ⟨y, h1, h2⟩ => Dp.reads I d y u h2 h1
  · have := hdep b hb
    show X.A.units + 2 + b.depth < cLine
    omega
  · obtain ⟨ys, k1, k2⟩ := of_each eo
    obtain ⟨c, hc⟩ := sortedAll_at s.heap its out.toArray
    have fr : H (s.heap.objs.size + 1) = none := I.hok.fresh (Nat.le_succ _)
    have hlen : ys.length = xs.length := by rw [k2.length, ho, hd.len]
    refine ⟨.ref (s.heap.objs.size + 1), upd H (s.heap.objs.size + 1) (.lst ys), I.laid (t' := s.toks) (fun _ _ => sortedAll_old) (Nat.le_succ _) ⟨?_, out, c, k2, hc⟩, rfl, q _ ys fr hlen k1⟩
    rw [hlen]
    exact hz
end
end Pa
end
section
set_option Elab.async false
set_option linter.all false
set_option maxRecDepth 100000
set_option maxHeartbeats 4000000
/-! Rules: an own ==, isinstance of a caught error, a def's call in one word. -/
namespace Pa
open PySem PySem.Spec PyProof.Rows L2
section
variable {X : Cx} {pins : List (Addr × Obj)} {σ : L2.St} {H : Hp} {s : Shared}
/-- x == y by the class's own def, whatever it answers -/
def rEqOwn (C : Addr) (sp : Sp) : R2 := fun x y H Q => ∃ a b dx dy fs gs, x = .ref a ∧ y = .ref b ∧ H a = some (.ins C dx fs) ∧ H b = some (.ins C dy gs) ∧ sp [.ref a, .ref b] H (fun v H' => (∃ c, v = .bl c) ∧ Q v H') (fun _ _ _ => False)
theorem op_eqOwn {k : Nat} {C f : Addr} {fd : FuncData} {ps : List Str} {sp : Sp} (G : FnOk X.prog X.w X.K X.mg X.base CX0 k f fd ps sp) (hs : PySem.W.findIn X.K (.ref C) "__eq__" = some (some (.ref f))) (hf : PySem.W.isFn X.K (.ref f) = true) (hb : Binds X.K fd ps [])
    (hr : Room k X.A) : OpR X (compareOp .Eq) (rEqOwn C sp) := by
  intro pins s σ H x y v u Q I rx ry hq
  obtain ⟨a, b, dx, dy, fs, gs, rfl, rfl, ha, hb', q⟩ := hq
  cases rx
  cases ry
  obtain ⟨mA, JA, _⟩ := ins_get I.hok ha
  obtain ⟨mB, JB, _⟩ := ins_get I.hok hb'
  obtain ⟨oa, JA, _⟩ := JA.look
  obtain ⟨ob, JB, _⟩ := JB.look
  obtain ⟨m, hF⟩ := I.fr
  have hl := G.len _ _ _ _ q
  show wpAny (model X.prog X.w) X.A (richCompare .Eq (.ref a) (.ref b)) (EP X pins σ Q) X.xe s
  refine PySem.W.cmp_K (op := .Eq) (tb := .ref C) hr.units0 hF I.ok.mod.kin JA JB.type (by simp [PySem.W.notFirst]) hs hf ?_
  have hbi : BindsTo s fd ⟨[Value.ref a, Value.ref b], []⟩ (ps.zip [Value.ref a, Value.ref b]) := by
    have z := hb s [Value.ref a, Value.ref b] I.kIn (by simpa using hl)
    simpa using z
  refine wpAny_call (codeAny_mono (G.run X.A X.stack s H ⟨[.ref a, .ref b], []⟩ [.ref a, .ref b] [.ref a, .ref b] _ _ hr I.env0 hbi (.cons rfl (.cons rfl .nil)) q) fun r s' hq => ?_)
  cases r with
  | error e => exact hq.elim
  | ok fl =>
    cases fl with
    | ret z =>
      obtain ⟨v, H', I', rz, ⟨c, ez⟩, qz⟩ := I.after hq
      subst ez
      cases rz
      exact ⟨.bl c, H', I', rfl, qz⟩
    | next => exact False.elim hq
    | brk => exact False.elim hq
    | cont => exact False.elim hq

/-- isinstance(e, c), e the own error (with its dict) that the suite holds -/
def rIsX (K : PySem.W.Frag) (cls : Value) (d : Option Addr) (D a : Addr) : List V → Hp → VK → Prop := fun xs H Q => ∃ (C : Addr) (dd : Addr) (fs : List (Str × V)) (b : Bool), xs = [.ref a, .ref C] ∧ cls = .ref D ∧ d = some dd ∧ H dd = some (.xd fs) ∧ PySem.W.kitOne K (.ref D) (.ref C) = some b ∧ Q (.bl b) H
theorem call_isX {a D : Addr} {oe : Obj} {cls : Value} {d : Option Addr} {pn : List (Addr × Obj)} (T : XfC X.K D) (ha : PySem.W.findIn X.K (.ref D) "__class__" = some (some (.builtin "object.__class__")))
    (hn : PySem.W.specialIn X.K (.builtin "object.__class__") "__get__" = some (some (.builtin "getset_descriptor.__get__"))) (ht : PySem.W.takesIn X.K (.builtin "object.__class__") = some true) (hm : PySem.W.mroIn X.K D (.type "object") = some true)
    (hz : Zc cls d oe) (hf : ∃ vs, oe.data = .fields vs) : CallR (X.suite a ((a, oe) :: pn)) (.builtin "isinstance") (rIsX X.K cls d D a) := by
  intro pins s σ H xs us Q I r h
  obtain ⟨C, dd, fs, b, rfl, rfl, rfl, hd, e, q⟩ := h
  obtain ⟨u1, u2, rfl, r1, r2⟩ := vals2 r
  cases (show u1 = Value.ref a from r1)
  cases (show u2 = Value.ref C from r2)
  obtain ⟨hget, _⟩ := I.pin (a, oe) (List.mem_append_left _ List.mem_cons_self)
  obtain ⟨vs, hv⟩ := hf
  obtain ⟨mA, hns, _⟩ := (show ObjOk X.prog X.w H s.heap dd (.xd fs) from I.hok dd _ hd)
  obtain ⟨od, ho, _⟩ := lookIn_ns hns
  have J : PySem.W.InstAt s.heap a oe D (some od) := by
    refine ⟨hget, hz.1, ?_, ?_⟩
    · unfold PySem.W.notCls
      rw [hv] <;> rfl
    · rw [hz.2]
      exact ho
  have hcl : (PySem.W.clsIn X.K D).isSome = true := by
    obtain ⟨cd, hc, _⟩ := PySem.W.any_some T.hdC
    rw [hc]
    rfl
  exact PySem.W.kia_one (PySem.W.kitx_exc hcl T.ga T.gg T.exC ha hn ht hm) I.kIn J e (fun z => nomatch z) fun tk => ⟨.bl b, H, I.kept (t' := tk) fun _ _ z => z, rfl, q⟩

/-- an expression that is never reached -/
theorem pe_never {e : Expr} : PE X e (fun _ _ _ => False) := ⟨fun _ _ _ _ _ _ h => h.elim⟩
theorem ix_seq2 : IxR X (fun x y H Q => rIxL X.K x y H Q ∨ rIxT X.K x y H Q) := ix_list.or ix_tup
end

/-! ### a def, found by its name -/
/-- the module's def x keeps its promise, by at most k calls in one another -/
def Fn (P : Program) (w : World) (K : PySem.W.Frag) (mg : Str → Option Value) (base : Heap) (k : Nat) (x : Str) (ps : List Str) (sp : Sp) : Prop :=
  ∃ fd, mg x = some (.ref (He.ga K x)) ∧ PySem.W.keepIn K (.ref (He.ga K x)) = true ∧ Binds K fd ps [] ∧ FnOk P w K mg base CX0 k (He.ga K x) fd ps sp
/-- the method m of the class x -/
def Mt (P : Program) (w : World) (K : PySem.W.Frag) (mg : Str → Option Value) (base : Heap) (k : Nat) (x m : Str) (ps : List Str) (sp : Sp) : Prop :=
  ∃ fd, Binds K fd ps [] ∧ FnOk P w K mg base CX0 k (He.ma K (He.ga K x) m) fd ps sp
section
variable {X : Cx} {k j : Nat} {x m : Str} {ps : List Str} {sp : Sp} {e : Expr} {es : List Expr} {ta : TA} {te : TE}
/-- f(e, ..) -/
def tFn (sp : Sp) (t : TA) : TE := fun σ H Q => t σ H fun vs H1 => sp vs H1 Q E0
theorem pe_fn {p pos : Pos} (F : Fn X.prog X.w X.K X.mg X.base k x ps sp) (hr : Room j X.A) (hg : Gl X x) (ha : PA X (e :: es) ta) (hj : k ≤ j := by decide) (hdb : (x == ("__debug__" : Str)) = false := by decide)
    (he : starEach (e :: es) X.env = (false, eval e X.env) :: starEach es X.env := by rfl) (hpl : (backTo pos (starEach es X.env)).any (·.1) = false := by rfl) : PE X (.Call (.Name x p) (e :: es) [] pos) (tFn sp ta) := by
  obtain ⟨fd, hm, hk, hb, G⟩ := F
  refine ⟨fun pins s σ H Q I h => (pe_call (E := E0) (dvs := []) (ds := []) G (hr.mono hj) hg hm hk hb .nil pass0 ha hdb he hpl).run pins s σ H Q I ?_⟩
  have h' : ta σ H fun vs H1 => sp vs H1 Q E0 := h
  show ta σ H fun vs H1 => sp (vs ++ []) H1 Q E0
  simpa using h'
/-- o.m(e, ..), o.m() -/
def tMt (C : Addr) (m : Str) (sp : Sp) (to : TE) (t : TA) : TE := fun σ H Q => to σ H fun x H1 => ∃ a dx fs, x = .ref a ∧ H1 a = some (.ins C dx fs) ∧ fs.lookup m = none ∧ t σ H1 fun vs H2 => sp (x :: vs) H2 Q E0
theorem pe_mt {o : Expr} {apos pos : Pos} {to : TE} {pl : Sem Bool} (ho : PE X o to) (c : Cls X.K (He.ga X.K x)) (hm : Meth X.K (He.ga X.K x) m (He.ma X.K (He.ga X.K x) m)) (F : Mt X.prog X.w X.K X.mg X.base k x m ps sp) (hr : Room j X.A) (ha : PA X (e :: es) ta) (hj : k ≤ j := by decide)
    (hst : starEach (e :: es) X.env = (false, eval e X.env) :: starEach es X.env := by rfl) (hpl : (backTo pos (starEach es X.env)).any (·.1) = false := by rfl)
    (ht : eval (.Call (.Attribute o m apos) (e :: es) [] pos) X.env = (do
      let ov ← eval o X.env
      standAt apos.atName
      let (f, first) ← holding [ov] (getMethod ov m pl)
      callWith pos f first (backTo pos (starEach (e :: es) X.env)) (backToKw pos (keywordEach [] X.env))) := by rfl) :
    PE X (.Call (.Attribute o m apos) (e :: es) [] pos) (tMt (He.ga X.K x) m sp to ta) := by
  obtain ⟨fd, hb, G⟩ := F
  refine ⟨fun pins s σ H Q I h => (pe_meth (E := E0) (dvs := []) (ds := []) (pl := pl) ho c hm G (hr.mono hj) hb .nil pass0 ha hst hpl ht).run pins s σ H Q I ?_⟩
  unfold tMt at h
  unfold tMeth
  simp only [List.append_nil]
  exact h
/-- C(e, ..) -/
def tMk (C : Addr) (sp : Sp) (t : TA) : TE := fun σ H Q => t σ H fun vs H1 => ∀ a dx, H1 a = none → H1 dx = none → dx ≠ a → sp (.ref a :: vs) (upd (upd H1 dx (.own a)) a (.ins C dx [])) (fun v H2 => v = .non ∧ Q (.ref a) H2) E0
theorem pe_mk {p pos : Pos} (M : L2.Mk X.K (He.ga X.K x) (He.ma X.K (He.ga X.K x) "__init__")) (F : Mt X.prog X.w X.K X.mg X.base k x "__init__" ps sp) (hr : Room j X.A) (hg : Gl X x) (hm : X.mg x = some (.ref (He.ga X.K x))) (ha : PA X (e :: es) ta) (hj : k + 1 ≤ j := by decide)
    (hdb : (x == ("__debug__" : Str)) = false := by decide) (he : starEach (e :: es) X.env = (false, eval e X.env) :: starEach es X.env := by rfl) (hpl : (backTo pos (starEach es X.env)).any (·.1) = false := by rfl) :
    PE X (.Call (.Name x p) (e :: es) [] pos) (tMk (He.ga X.K x) sp ta) := by
  obtain ⟨fd, hb, G⟩ := F
  refine ⟨fun pins s σ H Q I h => (pe_make (E := E0) (dvs := []) (ds := []) M G (hr.mono hj) hg hm hb .nil pass0 ha hdb he hpl).run pins s σ H Q I ?_⟩
  unfold tMk at h
  unfold tMake
  simp only [List.append_nil]
  exact h
end
/-- a list or a tuple -/
def SqA (K : PySem.W.Frag) (H : Hp) (a : Addr) (xs : List V) : Prop := SqL K H a xs ∨ SqT K H a xs
def rIx2 (K : PySem.W.Frag) : R2 := fun x y H Q => rIxL K x y H Q ∨ rIxT K x y H Q
theorem ix_2 {X : Cx} : IxR X (rIx2 X.K) := ix_list.or ix_tup
end Pa
end
section
set_option Elab.async false
set_option linter.all false
set_option maxRecDepth 100000
set_option maxHeartbeats 4000000
/-! A def's promise from its body; the readings, one step at a time. -/
namespace Pa
open PySem PySem.Spec PyProof.Rows L2
section
variable {P : Program} {w : World} {K : PySem.W.Frag} {mg : Str → Option Value} {base : Heap} {x m qual : Str} {st : Stmt} {N ps : List Str} {k : Nat} {sp : Sp}
theorem fn_mk (h : ∃ fd, FunD K x qual (defArgs st) (defBody st) (defScope st) [] [] (He.ga K x) fd) (hm : mg x = some (.ref (He.ga K x))) (S : FnScope N ps (defScope st))
    (hb : ∀ (kV doc pm : Value) (an : Option Addr) (cdv ct : Value) (us : List Value), us.length = ps.length → bindArgs (PySem.W.fnOf x qual (defArgs st) (defBody st) (defScope st) .none kV doc pm an cdv ct) ⟨us, []⟩ = pure (ps.zip us))
    (len : ∀ vs H Q E, sp vs H Q E → vs.length = ps.length)
    (body : ∀ (cdv : Value) (A : Around) (outer : List Env) (s : Shared) (H : Hp) (vs : List V) (Q : VK) (E : XK), Room k (A.deeper (envOfC qual (defScope st) s.heap.objs.size (He.ga K x) cdv)) → sp vs H Q E →
      ∃ t, PSs (cxOf CX0 P w K mg base N qual (defScope st) (He.ga K x) cdv A outer s H E).nox (defBody st) t ∧ t { nx := fun _ H' => Q .non H', rt := Q } (start N vs) H) : Fn P w K mg base (k + 1) x ps sp := by
  obtain ⟨fd, F⟩ := h
  refine ⟨fd, hm, F.kp, F.bindsN hb, F.ok S len fun cdv A outer s H vs Q E hr hs => ?_⟩
  obtain ⟨t, h1, h2⟩ := body cdv A outer s H vs Q E hr hs
  exact ⟨t, h1.nox, h2⟩
theorem mt_mk (h : ∃ fd, FunD K m qual (defArgs st) (defBody st) (defScope st) [] [] (He.ma K (He.ga K x) m) fd) (S : FnScope N ps (defScope st))
    (hb : ∀ (kV doc pm : Value) (an : Option Addr) (cdv ct : Value) (us : List Value), us.length = ps.length → bindArgs (PySem.W.fnOf m qual (defArgs st) (defBody st) (defScope st) .none kV doc pm an cdv ct) ⟨us, []⟩ = pure (ps.zip us))
    (len : ∀ vs H Q E, sp vs H Q E → vs.length = ps.length)
    (body : ∀ (cdv : Value) (A : Around) (outer : List Env) (s : Shared) (H : Hp) (vs : List V) (Q : VK) (E : XK), Room k (A.deeper (envOfC qual (defScope st) s.heap.objs.size (He.ma K (He.ga K x) m) cdv)) → sp vs H Q E →
      ∃ t, PSs (cxOf CX0 P w K mg base N qual (defScope st) (He.ma K (He.ga K x) m) cdv A outer s H E).nox (defBody st) t ∧ t { nx := fun _ H' => Q .non H', rt := Q } (start N vs) H) : Mt P w K mg base (k + 1) x m ps sp := by
  obtain ⟨fd, F⟩ := h
  refine ⟨fd, F.bindsN hb, F.ok S len fun cdv A outer s H vs Q E hr hs => ?_⟩
  obtain ⟨t, h1, h2⟩ := body cdv A outer s H vs Q E hr hs
  exact ⟨t, h1.nox, h2⟩
end
/-! ### steps -/
/-- the field f of the instance at a -/
def FldAt (K : PySem.W.Frag) (H : Hp) (a : Addr) (f : Str) (v : V) : Prop := ∃ C dx fs, H a = some (.ins C dx fs) ∧ Cls K C ∧ NoAttr K C f ∧ fs.lookup f = some v
theorem FldAt.mono {K : PySem.W.Frag} {H H' : Hp} {a : Addr} {f : Str} {v : V} (e : Same H H') (h : FldAt K H a f v) : FldAt K H' a f v := by
  obtain ⟨C, dx, fs, h1, h2⟩ := h
  exact ⟨C, dx, fs, e _ _ h1, h2⟩
theorem SqA.mono {K : PySem.W.Frag} {H H' : Hp} {a : Addr} {xs : List V} (e : Same H H') (h : SqA K H a xs) : SqA K H' a xs := h.elim (fun h => .inl (e.seq h)) fun h => .inr (e.tup h)
theorem SqA.lst {K : PySem.W.Frag} {H : Hp} {a : Addr} {xs : List V} (h : H a = some (.lst xs)) : SqA K H a xs := .inl (.of h)
theorem SqA.tup {K : PySem.W.Frag} {H : Hp} {a : Addr} {xs : List V} (h : H a = some (.tup xs)) : SqA K H a xs := .inr (.of h)
section
variable {K : PySem.W.Frag} {σ : L2.St} {H : Hp} {Q : VK} {D : Ends} {ta tb te : TE} {v x y : V} {r : R2} {a : Addr} {xs : List V} {t u : TS} {i : Nat} {c : TT}
theorem c_var (h : σ[i]? = some (some v)) (q : Q v H) : tVar i σ H Q := ⟨v, h, q⟩
theorem c_c (q : Q v H) : tC v σ H Q := q
theorem c_op (h : ta σ H fun x H1 => tb σ H1 fun y H2 => r x y H2 Q) : tOp r ta tb σ H Q := h
theorem c_un {f : V → Hp → VK → Prop} (h : ta σ H fun x H1 => f x H1 Q) : tUn f ta σ H Q := h
theorem c_I0 {g : Int → Int → V} {m n : Int} (q : Q (g m n) H) : rI0 g (.int m) (.int n) H Q := ⟨m, n, rfl, rfl, q⟩
theorem c_I {C : Int → Int → Prop} {g : Int → Int → V} {m n : Int} (hc : C m n) (q : Q (g m n) H) : rI C g (.int m) (.int n) H Q := ⟨m, n, rfl, rfl, hc, q⟩
theorem c_U {g : Int → V} {m : Int} (q : Q (g m) H) : rU g (.int m) H Q := ⟨m, rfl, q⟩
theorem c_eqI {m n : Int} (q : Q (.bl (decide (m = n))) H) : rEq (.int m) (.int n) H Q := by
  refine ⟨rfl, ?_⟩
  have e : decide (V.int m = V.int n) = decide (m = n) := by rw [dec_int, Bool.beq_eq_decide_eq]
  rw [e]
  exact q
theorem c_neI {m n : Int} (q : Q (.bl (!decide (m = n))) H) : rNe (.int m) (.int n) H Q := by
  refine ⟨rfl, ?_⟩
  have e : decide (V.int m = V.int n) = decide (m = n) := by rw [dec_int, Bool.beq_eq_decide_eq]
  rw [e]
  exact q
theorem c_isN (q : Q (.bl (decide (x = .non))) H) : rIsN x .non H Q := ⟨rfl, q⟩
theorem c_notN (q : Q (.bl (!decide (x = .non))) H) : rNotN x .non H Q := ⟨rfl, q⟩
theorem c_ix2 {m : Int} (h : SqA K H a xs) (ha : atI xs m = some v) (q : Q v H) : rIx2 K (.ref a) (.int m) H Q := by
  rcases h with h | h
  · exact .inl ⟨a, xs, m, v, rfl, rfl, h, ha, q⟩
  · exact .inr ⟨a, xs, m, v, rfl, rfl, h, ha, q⟩
/-- a field, by its value -/
def Fld (K : PySem.W.Frag) (x : V) (f : Str) (H : Hp) (Q : VK) : Prop := ∃ a C dx fs v, x = .ref a ∧ H a = some (.ins C dx fs) ∧ Cls K C ∧ NoAttr K C f ∧ fs.lookup f = some v ∧ Q v H
theorem c_fld {f : Str} (h : ta σ H fun x H1 => Fld K x f H1 Q) : tFld K ta f σ H Q := h
theorem c_fldv {f : Str} (h : FldAt K H a f v) (q : Q v H) : Fld K (.ref a) f H Q := by
  obtain ⟨C, dx, fs, h1, h2, h3, h4⟩ := h
  exact ⟨a, C, dx, fs, v, rfl, h1, h2, h3, h4, q⟩
/-- a truth value, at last -/
def Bl (x : V) (H : Hp) (Q : Bool → Hp → Prop) : Prop := ∃ k, x = .bl k ∧ Q k H
theorem c_bl {b : Bool} {Q : Bool → Hp → Prop} (q : Q b H) : Bl (.bl b) H Q := ⟨b, rfl, q⟩
theorem c_test {Q : Bool → Hp → Prop} (h : te σ H fun x H1 => Bl x H1 Q) : tTest te σ H Q := h
theorem c_tB {Q : Bool → Hp → Prop} (h : te σ H fun x H1 => Bl x H1 Q) : tB te σ H Q := h
theorem c_and {t u : TT} {Q : Bool → Hp → Prop} (h : t σ H fun c H1 => if c = true then u σ H1 Q else Q false H1) : tAnd t u σ H Q := h
theorem c_or {t u : TT} {Q : Bool → Hp → Prop} (h : t σ H fun c H1 => if c = true then Q true H1 else u σ H1 Q) : tOr t u σ H Q := h
theorem c_not {t : TT} {Q : Bool → Hp → Prop} (h : t σ H fun c H1 => Q (!c) H1) : tNot t σ H Q := h
theorem c_notV (h : ta σ H fun x H1 => Bl x H1 fun b H2 => Q (.bl (!b)) H2) : tNotV ta σ H Q := h
theorem c_andV (h : ta σ H fun x H1 => Bl x H1 fun b H2 => if b = true then tb σ H2 Q else Q (.bl false) H2) : tAndV ta tb σ H Q := h
theorem c_orV (h : ta σ H fun x H1 => Bl x H1 fun b H2 => if b = true then Q (.bl true) H2 else tb σ H2 Q) : tOrV ta tb σ H Q := h
theorem c_chain {r' : R2} {tc : TE} (h : ta σ H fun x H1 => tb σ H1 fun y H2 => r x y H2 fun z H3 => Bl z H3 fun k H4 => if k = true then tc σ H4 fun z' H5 => r' y z' H5 Q else Q (.bl false) H4) : tChain r r' ta tb tc σ H Q := h
theorem c_if {t : TT} (h : t σ H fun c H1 => if c = true then ta σ H1 Q else tb σ H1 Q) : tIf t ta tb σ H Q := h
theorem c_nil {Q : List V → Hp → Prop} (q : Q [] H) : tNil σ H Q := q
theorem c_cons {tr : TA} {Q : List V → Hp → Prop} (h : ta σ H fun x H1 => tr σ H1 fun xs H2 => Q (x :: xs) H2) : tCons ta tr σ H Q := h
theorem c_fn {sp : Sp} {tt : TA} (h : tt σ H fun vs H1 => sp vs H1 Q E0) : tFn sp tt σ H Q := h
theorem c_cb {f : List V → Hp → VK → Prop} {tt : TA} (h : tt σ H fun vs H1 => f vs H1 Q) : tCB f tt σ H Q := h
theorem c_tup {tt : TA} (h : tt σ H fun xs H1 => xs.length ≤ sizeLine ∧ ∀ p, H1 p = none → Q (.ref p) (upd H1 p (.tup xs))) : tTup tt σ H Q := h
theorem c_lst {tt : TA} (h : tt σ H fun xs H1 => xs.length ≤ sizeLine ∧ ∀ p, H1 p = none → Q (.ref p) (upd H1 p (.lst xs))) : tLst tt σ H Q := h
/-- statements: the last of a block, or with more behind -/
theorem c_asgL (h : te σ H fun v H1 => D.nx (σ.set i (some v)) H1) : tAsg te (gName i) D σ H := h
theorem c_asg (h : te σ H fun v H1 => u D (σ.set i (some v)) H1) : tSeq (tAsg te (gName i)) u D σ H := h
theorem c_dropL (h : te σ H fun _ H1 => D.nx σ H1) : tDrop te D σ H := h
theorem c_drop (h : te σ H fun _ H1 => u D σ H1) : tSeq (tDrop te) u D σ H := h
theorem c_ret (h : te σ H D.rt) : tRet te D σ H := h
theorem c_ifL (h : c σ H fun b H1 => if b = true then t D σ H1 else u D σ H1) : tIfS c t u D σ H := h
theorem c_ifS {t1 t2 : TS} (h : c σ H fun b H1 => if b = true then t1 { D with nx := u D } σ H1 else t2 { D with nx := u D } σ H1) : tSeq (tIfS c t1 t2) u D σ H := h
theorem c_nextL (h : D.nx σ H) : tNext D σ H := h
theorem c_brk (h : D.bk σ H) : tBreak D σ H := h
end
/-! ### targets -/
section
variable {K : PySem.W.Frag} {σ : L2.St} {H : Hp} {Q : L2.St → Hp → Prop} {v : V} {vs xs : List V} {a : Addr} {n i : Nat} {t : TG} {u : TGs}
theorem g_name (q : Q (σ.set i (some v)) H) : gName i v σ H Q := q
theorem g_nil (q : Q σ H) : gNil [] σ H Q := ⟨rfl, q⟩
theorem g_cons (h : t v σ H fun σ' H' => u vs σ' H' Q) : gCons t u (v :: vs) σ H Q := ⟨v, vs, rfl, h⟩
theorem g_tup {u : TGs} (h : SqT K H a xs) (hl : xs.length = n) (q : u xs σ H Q) : gTup K n u (.ref a) σ H Q := ⟨a, xs, rfl, h, hl, q⟩
end
/-! ### lists -/
section
variable {K : PySem.W.Frag} {σ : L2.St} {H : Hp} {Q : VK} {D : Ends} {to te ti : TE} {ta : TA} {v y : V} {xs : List V} {l : Addr} {u : TS} {g : TG}
theorem c_rep {k : Int} (h : H l = some (.lst xs)) (h0 : -1000000 ≤ k ∧ k ≤ 1000000 ∧ xs.length ≤ 1) (q : ∀ p, H p = none → Q (.ref p) (upd H p (.lst (List.replicate k.toNat xs).flatten))) : rRep (.ref l) (.int k) H Q := by
  refine ⟨l, k, xs, rfl, rfl, h, by omega, by omega, ?_, q⟩
  have b : (1000000 : Nat) ≤ sizeLine := by decide
  have h1 : xs.length * k.toNat ≤ 1 * k.toNat := Nat.mul_le_mul_right _ h0.2.2
  omega
theorem c_cat {a b : Addr} {ys : List V} (h : H a = some (.lst xs)) (h' : H b = some (.lst ys)) (hl : xs.length + ys.length ≤ 1000000) (q : ∀ p, H p = none → Q (.ref p) (upd H p (.lst (xs ++ ys)))) : rCat (.ref a) (.ref b) H Q := by
  have big : (1000000 : Nat) ≤ sizeLine := by decide
  exact ⟨a, b, xs, ys, rfl, rfl, h, h', by omega, q⟩
theorem c_bm {T : String} {r : V → List V → Hp → VK → Prop} (h : to σ H fun x H1 => tyV K T x H1 ∧ ta σ H1 fun xs H2 => r x xs H2 Q) : tBM K T r to ta σ H Q := h
theorem c_bm0 {T : String} {r : V → List V → Hp → VK → Prop} (h : to σ H fun x H1 => tyV K T x H1 ∧ r x [] H1 Q) : tBM0 K T r to σ H Q := h
theorem c_ty {B : Prop} (h : H l = some (.lst xs)) (b : B) : tyV K "list" (.ref l) H ∧ B := ⟨.inl ⟨rfl, _, .of h⟩, b⟩
theorem c_app (h : H l = some (.lst xs)) (hl : xs.length < 1000000) (q : Q .non (upd H l (.lst (xs ++ [y])))) : rAppend (.ref l) [y] H Q := by
  have big : (1000000 : Nat) ≤ sizeLine := by decide
  exact ⟨l, xs, y, rfl, rfl, h, by omega, q⟩
theorem c_asgG (h : te σ H fun v H1 => g v σ H1 D.nx) : tAsg te g D σ H := h
theorem c_asgGs (h : te σ H fun v H1 => g v σ H1 (u D)) : tSeq (tAsg te g) u D σ H := h
theorem g_sub {t : TSet} {Q : L2.St → Hp → Prop} (h : to σ H fun o H1 => ti σ H1 fun i H2 => t o i v H2 fun H3 => Q σ H3) : gSub to ti t v σ H Q := h
theorem c_setL {j : Nat} {Q : Hp → Prop} (h : H l = some (.lst xs)) (hj : j < xs.length) (q : Q (upd H l (.lst (xs.set j v)))) : rSetL (.ref l) (.int (j : Int)) v H Q := by
  refine ⟨l, xs, j, j, rfl, rfl, h, ?_, q⟩
  unfold ixN
  rw [if_pos (by omega), if_pos (by omega)]
  simp
end
section
variable {K : PySem.W.Frag} {σ : L2.St} {H : Hp} {Q : VK} {D : Ends} {to te : TE} {ta : TA} {x : V} {a C : Addr} {u : TS} {i : Nat} {m : Str} {sp : Sp}
theorem c_aug {f : Int → Int → Int} {n : Int} (h : σ[i]? = some (some (.int n))) (q : te σ H fun y H1 => ipI f (.int n) y H1 fun z H2 => u D (σ.set i (some z)) H2) : tSeq (tAug i te (ipI f)) u D σ H := ⟨_, h, q⟩
theorem c_augL {f : Int → Int → Int} {n : Int} (h : σ[i]? = some (some (.int n))) (q : te σ H fun y H1 => ipI f (.int n) y H1 fun z H2 => D.nx (σ.set i (some z)) H2) : tAug i te (ipI f) D σ H := ⟨_, h, q⟩
theorem c_ip {f : Int → Int → Int} {m n : Int} (q : Q (.int (f m n)) H) : ipI f (.int m) (.int n) H Q := ⟨m, n, rfl, rfl, q⟩
/-- a method's call, the object told -/
def MtO (C : Addr) (m : Str) (sp : Sp) (t : TA) (σ : L2.St) (x : V) (H1 : Hp) (Q : VK) : Prop := ∃ a dx fs, x = .ref a ∧ H1 a = some (.ins C dx fs) ∧ fs.lookup m = none ∧ t σ H1 fun vs H2 => sp (x :: vs) H2 Q E0
theorem c_mt (h : to σ H fun x H1 => MtO C m sp ta σ x H1 Q) : tMt C m sp to ta σ H Q := h
theorem c_mtO (h : ∃ dx fs, H a = some (.ins C dx fs) ∧ fs.lookup m = none) (q : ta σ H fun vs H2 => sp (.ref a :: vs) H2 Q E0) : MtO C m sp ta σ (.ref a) H Q := by
  obtain ⟨dx, fs, h1, h2⟩ := h
  exact ⟨a, dx, fs, rfl, h1, h2, q⟩
end
/-! ### tests that come out -/
theorem c_tt {A B : Prop} (h : A) : if true = true then A else B := by rw [if_pos rfl]; exact h
theorem c_ff {A B : Prop} (h : B) : if false = true then A else B := by rw [if_neg Bool.false_ne_true]; exact h
theorem c_nt {A B : Prop} (h : B) : if (!true) = true then A else B := by rw [Bool.not_true, if_neg Bool.false_ne_true]; exact h
theorem c_nf {A B : Prop} (h : A) : if (!false) = true then A else B := by rw [Bool.not_false, if_pos rfl]; exact h
theorem c_dt {p A B : Prop} [Decidable p] (hp : p) (h : A) : if decide p = true then A else B := by rw [decide_eq_true hp, if_pos rfl]; exact h
theorem c_df {p A B : Prop} [Decidable p] (hp : ¬ p) (h : B) : if decide p = true then A else B := by rw [decide_eq_false hp, if_neg Bool.false_ne_true]; exact h
theorem c_ndt {p A B : Prop} [Decidable p] (hp : p) (h : B) : if (!decide p) = true then A else B := by rw [decide_eq_true hp, Bool.not_true, if_neg Bool.false_ne_true]; exact h
theorem c_ndf {p A B : Prop} [Decidable p] (hp : ¬ p) (h : A) : if (!decide p) = true then A else B := by rw [decide_eq_false hp, Bool.not_false, if_pos rfl]; exact h
theorem d2 {p A B : Prop} [Decidable p] (h1 : p → A) (h2 : ¬ p → B) : if decide p = true then A else B := by
  by_cases h : p
  · rw [decide_eq_true h]
    exact h1 h
  · rw [decide_eq_false h]
    exact h2 h
theorem dn2 {p A B : Prop} [Decidable p] (h1 : ¬ p → A) (h2 : p → B) : if (!decide p) = true then A else B := by
  by_cases h : p
  · rw [decide_eq_true h]
    exact h2 h
  · rw [decide_eq_false h]
    exact h1 h
theorem b2 {b : Bool} {A B : Prop} (h1 : b = true → A) (h2 : b = false → B) : if b = true then A else B := by
  cases b with
  | true => exact h1 rfl
  | false => exact h2 rfl
end Pa
end
section
set_option Elab.async false
set_option linter.all false
set_option maxRecDepth 100000
set_option maxHeartbeats 4000000
/-! The rules with the written part named; loops and comprehensions. -/
namespace Pa
open PySem PySem.Spec PyProof.Rows L2
section
variable {X : Cx} (K : PySem.W.Frag) {e : Expr} {es : List Expr} {ta te : TE} {t : TA} {pos p : Pos}
theorem kFld {f : Str} (he : PE X e ta) (hK : X.K = K := by rfl) (hb : attributeBase e f X.env (eval e X.env) = eval e X.env := by rfl) : PE X (.Attribute e f pos) (tFld K ta f) := by
  subst hK
  exact pe_fld he hb
theorem kIx (hK : X.K = K := by rfl) : IxR X (rIx2 K) := by
  subst hK
  exact ix_2
def rLen (K : PySem.W.Frag) : List V → Hp → VK → Prop := fun vs H Q => ∃ a xs, vs = [.ref a] ∧ SqA K H a xs ∧ Q (.int (xs.length : Nat)) H
theorem kLen (hK : X.K = K := by rfl) : CallR X (.builtin "len") (rLen K) := by
  subst hK
  intro pins s σ H xs us Q I r h
  obtain ⟨a, ys, rfl, hs, q⟩ := h
  exact call_len_seq pins s σ H _ us Q I r ⟨a, ys, rfl, hs, q⟩
def rLst (K : PySem.W.Frag) : List V → Hp → VK → Prop := fun vs H Q => ∃ a xs, vs = [.ref a] ∧ SqA K H a xs ∧ ∀ l, H l = none → Q (.ref l) (upd H l (.lst xs))
theorem kLst (hK : X.K = K := by rfl) : CallR X (.type "list") (rLst K) := by
  subst hK
  intro pins s σ H xs us Q I r h
  obtain ⟨a, ys, rfl, hs, q⟩ := h
  exact call_list_of pins s σ H _ us Q I r ⟨a, ys, rfl, hs, q⟩
/-- tuple(x): x itself if it is one -/
def rTup (K : PySem.W.Frag) : List V → Hp → VK → Prop := fun vs H Q => ∃ a xs, vs = [.ref a] ∧ ((SqL K H a xs ∧ ∀ l, H l = none → Q (.ref l) (upd H l (.tup xs))) ∨ (SqT K H a xs ∧ Q (.ref a) H))
theorem kTup (hK : X.K = K := by rfl) : CallR X (.type "tuple") (rTup K) := by
  subst hK
  intro pins s σ H xs us Q I r h
  obtain ⟨a, ys, rfl, hs⟩ := h
  exact call_tuple_of pins s σ H _ us Q I r ⟨a, ys, rfl, hs⟩
theorem kSum (hc : X.calm = true := by rfl) (hK : X.K = K := by rfl) : CallR X (.builtin "sum") (rSum K) := by
  subst hK
  exact cr_sum hc
theorem kMax (hc : X.calm = true := by rfl) (hK : X.K = K := by rfl) : CallR X (.builtin "max") (rMax K) := by
  subst hK
  exact cr_max hc
theorem kMin (hc : X.calm = true := by rfl) (hK : X.K = K := by rfl) : CallR X (.builtin "min") (rMin K) := by
  subst hK
  exact cr_min hc
theorem kAny (hc : X.calm = true := by rfl) (hK : X.K = K := by rfl) : CallR X (.builtin "any") (rAny K) := by
  subst hK
  exact cr_any hc
theorem kSort {j : Nat} (hr : Room j X.A) (hK : X.K = K := by rfl) : CallR X (.builtin "sorted") (rSortD K) := by
  subst hK
  exact cr_sortD hr.units
theorem kIn (hK : X.K = K := by rfl) : OpR X (compareOp .In) (rIn K false) := by
  subst hK
  exact op_in_seq
theorem kNotIn (hK : X.K = K := by rfl) : OpR X (compareOp .NotIn) (rIn K true) := by
  subst hK
  exact op_notIn_seq
theorem kEqD {j : Nat} (hr : Room j X.A) (hK : X.K = K := by rfl) : OpR X (compareOp .Eq) (rEqD K) := by
  subst hK
  exact op_eqD hr.units
theorem kCat (hK : X.K = K := by rfl) : OpR X (binaryOp .Add) (rCatA K) := by
  subst hK
  exact op_catA
theorem kIsi (hK : X.K = K := by rfl) : CallR X (.builtin "isinstance") (rIsi K) := by
  subst hK
  exact call_isi
theorem kIsiT (hK : X.K = K := by rfl) : CallR X (.builtin "isinstance") (rIsiT K) := by
  subst hK
  exact call_isiT
theorem kMt {o : Expr} {apos : Pos} {to : TE} {pl : Sem Bool} {x m : Str} {k j : Nat} {ps : List Str} {sp : Sp} (ho : PE X o to) (c : Cls K (He.ga K x)) (hm : Meth K (He.ga K x) m (He.ma K (He.ga K x) m)) (F : Mt X.prog X.w K X.mg X.base k x m ps sp) (hr : Room j X.A) (ha : PA X (e :: es) t) (hj : k ≤ j := by decide)
    (hK : X.K = K := by rfl) (hst : starEach (e :: es) X.env = (false, eval e X.env) :: starEach es X.env := by rfl) (hpl : (backTo pos (starEach es X.env)).any (·.1) = false := by rfl)
    (ht : eval (.Call (.Attribute o m apos) (e :: es) [] pos) X.env = (do
      let ov ← eval o X.env
      standAt apos.atName
      let (f, first) ← holding [ov] (getMethod ov m pl)
      callWith pos f first (backTo pos (starEach (e :: es) X.env)) (backToKw pos (keywordEach [] X.env))) := by rfl) :
    PE X (.Call (.Attribute o m apos) (e :: es) [] pos) (tMt (He.ga K x) m sp to t) := by
  subst hK
  exact pe_mt ho c hm F hr ha hj hst hpl ht
theorem kMk {x : Str} {k j : Nat} {ps : List Str} {sp : Sp} (M : L2.Mk K (He.ga K x) (He.ma K (He.ga K x) "__init__")) (F : Mt X.prog X.w K X.mg X.base k x "__init__" ps sp) (hr : Room j X.A) (hg : Gl X x) (hm : X.mg x = some (.ref (He.ga K x))) (ha : PA X (e :: es) t) (hj : k + 1 ≤ j := by decide)
    (hK : X.K = K := by rfl) (hdb : (x == ("__debug__" : Str)) = false := by decide) (he : starEach (e :: es) X.env = (false, eval e X.env) :: starEach es X.env := by rfl) (hpl : (backTo pos (starEach es X.env)).any (·.1) = false := by rfl) :
    PE X (.Call (.Name x p) (e :: es) [] pos) (tMk (He.ga K x) sp t) := by
  subst hK
  exact pe_mk M F hr hg hm ha hj hdb he hpl
/-- x.append(y) -/
theorem kApp {o : Expr} {apos cpos : Pos} {to : TE} (ho : PE X o to) (he : PE X e te) (hK : X.K = K := by rfl)
    (hbase : attributeBase o "append" X.env (eval o X.env) = eval o X.env := by rfl)
    (hfew : ((backTo cpos (starEach [e] X.env)).all (fun x => !x.1) && (backToKw cpos (keywordEach [] X.env)).all (fun x => x.1.isSome) && decide ([e].length + ([] : List Keyword).length + (if ([] : List Keyword).isEmpty then 0 else 1) < 30)) = true := by rfl)
    (hline : (apos.endLine == cpos.line) = true := by rfl) (hs : starEach [e] X.env = (false, eval e X.env) :: starEach [] X.env := by rfl) (hplain : (backTo cpos (starEach ([] : List Expr) X.env)).any (·.1) = false := by rfl) :
    PE X (.Call (.Attribute o "append" apos) [e] [] cpos) (tBM K "list" rAppend to (tCons te tNil)) := by
  subst hK
  exact pe_bm PySem.F.plainAttrs_list PySem.F.slot_list_append PySem.F.type_list_append mt_append ho (pa_cons he pa_nil hs) hbase hfew hline hs hplain
/-- pop: the last, the i-th -/
theorem kPop {o : Expr} {apos cpos : Pos} {to : TE} (ho : PE X o to) (hK : X.K = K := by rfl) (hbase : attributeBase o "pop" X.env (eval o X.env) = eval o X.env := by rfl) (hline : (apos.endLine == cpos.line) = true := by rfl) :
    PE X (.Call (.Attribute o "pop" apos) [] [] cpos) (tBM0 K "list" rPop to) := by
  subst hK
  exact pe_bm0 PySem.F.plainAttrs_list PySem.F.slot_list_pop PySem.F.type_list_pop mt_pop ho hbase hline
theorem kPopAt {o : Expr} {apos cpos : Pos} {to : TE} (ho : PE X o to) (he : PE X e te) (hK : X.K = K := by rfl)
    (hbase : attributeBase o "pop" X.env (eval o X.env) = eval o X.env := by rfl)
    (hfew : ((backTo cpos (starEach [e] X.env)).all (fun x => !x.1) && (backToKw cpos (keywordEach [] X.env)).all (fun x => x.1.isSome) && decide ([e].length + ([] : List Keyword).length + (if ([] : List Keyword).isEmpty then 0 else 1) < 30)) = true := by rfl)
    (hline : (apos.endLine == cpos.line) = true := by rfl) (hs : starEach [e] X.env = (false, eval e X.env) :: starEach [] X.env := by rfl) (hplain : (backTo cpos (starEach ([] : List Expr) X.env)).any (·.1) = false := by rfl) :
    PE X (.Call (.Attribute o "pop" apos) [e] [] cpos) (tBM K "list" rPopAt to (tCons te tNil)) := by
  subst hK
  exact pe_bm PySem.F.plainAttrs_list PySem.F.slot_list_pop PySem.F.type_list_pop mt_popAt ho (pa_cons he pa_nil hs) hbase hfew hline hs hplain
theorem kTru (ha : PE X e ta) (hK : X.K = K := by rfl) (he : ∀ whole, isTrue e X.env whole = (do let v ← whole; standAt e.pos; holding [v] (truthy v)) := by intro _; rfl) : PT X e (tTru K ta) := by
  subst hK
  exact pt_truth ha he
/-! ### what is walked -/
variable {tg : Expr}
def iSeq (K : PySem.W.Frag) (tl : TE) : TI := fun σ H R => tl σ H fun x H1 => ∃ a, x = .ref a ∧ (((∃ xs, SqL K H1 a xs) ∧ R (Itl K a) H1) ∨ ((∃ xs, SqT K H1 a xs) ∧ R (Itt K a) H1))
theorem kSeq {l : Expr} {tl : TE} (hl : PE X l tl) (hK : X.K = K := by rfl) : PI X tg l (iSeq K tl) := by
  subst hK
  refine ⟨fun pins s σ H R I h => thn (hl.run pins s σ H _ I h) fun v s1 ⟨x, H1, I1, rx, a, ex, hq⟩ => ?_⟩
  subst ex
  cases rx
  have fp : ∀ b ∈ [s1.heap.objs.size], FpOk X pins H1 b := fun b hb => by
    rw [List.mem_singleton.mp hb]
    exact I1.fpOk (Nat.le_refl _) (I1.hok.fresh (Nat.le_refl _))
  have kp : ∀ {o : Obj}, Inv X pins σ H1 { s1 with heap := s1.heap.push o } := fun {o} => I1.kept (t' := s1.toks) fun b u z => Heap.get?_push_of_some _ z
  rcases hq with ⟨⟨xs, hx⟩, q⟩ | ⟨⟨xs, hx⟩, q⟩
  · obtain ⟨its, _, pl, _⟩ := I1.list hx
    exact wpAny_pyIter_list pl.isList ⟨_, _, _, _, _, rfl, kp, turn_list a s1.heap.objs.size, ⟨_, Heap.get?_push_size _ rfl, rfl, rfl⟩, fp, q⟩
  · obtain ⟨its, _, pt, _⟩ := I1.tuple hx
    exact wpAny_pyIter_tuple (show s1.heap.IsTuple a its.toArray from pt) ⟨_, _, _, _, _, rfl, kp, turn_tuple a s1.heap.objs.size, ⟨_, Heap.get?_push_size _ rfl, rfl, rfl⟩, fp, q⟩
theorem kEnum {ta : TA} {tpos : Pos} {elts : List Expr} {kk : Nat} (hg : Gl X "enumerate") (hm : X.mg "enumerate" = none) (ha : PA X [e] ta) (hK : X.K = K := by rfl) (hs : starEach [e] X.env = [(false, eval e X.env)] := by rfl) :
    PI X (.Tuple elts kk tpos) (.Call (.Name "enumerate" p) [e] [] pos) (iEnumA K ta) := by
  subst hK
  exact pi_enumA hg hm ha hs
theorem kZip {e2 : Expr} {ta : TA} {tpos : Pos} {elts : List Expr} {kk : Nat} (hg : Gl X "zip") (hm : X.mg "zip" = none) (ha : PA X [e, e2] ta) (hK : X.K = K := by rfl)
    (hs : starEach [e, e2] X.env = (false, eval e X.env) :: starEach [e2] X.env := by rfl) (hpl : (backTo pos (starEach [e2] X.env)).any (·.1) = false := by rfl) :
    PI X (.Tuple elts kk tpos) (.Call (.Name "zip" p) [e, e2] [] pos) (RZ.iZipA K ta) := by
  subst hK
  exact RZ.pi_zipA hg hm ha hs hpl
theorem kGTup {es : List Expr} {k : Nat} {t : TGs} {n : Nat} (h : PGs X es t) (hc : X.calm = true := by rfl) (hK : X.K = K := by rfl) (hn : (assignEach es X.env).length = n := by rfl) (hst : (assignEach es X.env).findIdx? (·.1) = none := by rfl) : PG X (.Tuple es k pos) (gTup K n t) := by
  subst hK
  exact pg_tup hc h hn hst
end
/-! ### fields stored, instances made, truth -/
section
variable {X : Cx} (K : PySem.W.Frag) {o value : Expr} {ta tv : TE} {f : Str} {p' pos : Pos}
theorem kSetF (ha : PE X o ta) (hv : PE X value tv) (hK : X.K = K := by rfl) (hs : swapsWith value (some (.Attribute o f p')) pos.line X.env = pure false := by rfl) : PS X (.Assign [.Attribute o f p'] value pos) (sFld K ta tv f) := by
  subst hK
  exact ps_fld ha hv hs
end
section
variable {K : PySem.W.Frag} {σ : L2.St} {H : Hp} {Q : VK} {D : Ends} {ta tv : TE} {t : TA} {u : TS} {f : Str} {a C dx : Addr} {fs : List (Str × V)} {x y : V} {sp : Sp} {xs : List V}
/-- o.f = y, the object told -/
def SetF (K : PySem.W.Frag) (x : V) (f : Str) (y : V) (H2 : Hp) (R : Hp → Prop) : Prop := ∃ a C dx fs, x = .ref a ∧ H2 a = some (.ins C dx fs) ∧ Cls K C ∧ NoAttr K C f ∧ fs.length < 1000 ∧ R (upd H2 a (.ins C dx (putF f y fs)))
theorem c_setF (h : tv σ H fun y H1 => ta σ H1 fun x H2 => SetF K x f y H2 fun H3 => D.nx σ H3) : sFld K ta tv f D σ H := h
theorem c_setFs (h : tv σ H fun y H1 => ta σ H1 fun x H2 => SetF K x f y H2 fun H3 => u D σ H3) : tSeq (sFld K ta tv f) u D σ H := h
theorem setF {R : Hp → Prop} (h : H a = some (.ins C dx fs)) (c : Cls K C) (n : NoAttr K C f) (hl : fs.length < 1000) (q : R (upd H a (.ins C dx (putF f y fs)))) : SetF K (.ref a) f y H R := ⟨a, C, dx, fs, rfl, h, c, n, hl, q⟩
/-- a new instance -/
def MkO (C : Addr) (sp : Sp) (vs : List V) (H1 : Hp) (Q : VK) : Prop := ∀ a dx, H1 a = none → H1 dx = none → dx ≠ a → sp (.ref a :: vs) (upd (upd H1 dx (.own a)) a (.ins C dx [])) (fun v H2 => v = .non ∧ Q (.ref a) H2) E0
theorem c_mk (h : t σ H fun vs H1 => MkO C sp vs H1 Q) : tMk C sp t σ H Q := h
def TrO (K : PySem.W.Frag) (x : V) (H : Hp) (Q : Bool → Hp → Prop) : Prop := ∃ k, TruV K x H k ∧ Q k H
theorem c_tru {Q : Bool → Hp → Prop} (h : ta σ H fun x H1 => TrO K x H1 Q) : tTru K ta σ H Q := h
theorem trL {Q : Bool → Hp → Prop} (h : SqL K H a xs) (q : Q (!xs.isEmpty) H) : TrO K (.ref a) H Q := ⟨_, .inl ⟨xs, h, rfl⟩, q⟩
end
/-! ### loops, comprehensions -/
section
variable {K : PySem.W.Frag} {σ : L2.St} {H H1 : Hp} {Q : VK} {D : Ends} {tl te : TE} {ta : TA} {tb u : TS} {g : TG} {tt : TT} {vs : List Nat} {J : It} {n : Nat} {G : Hp → Prop} {Y : Nat → Hp → V → Hp → Prop}
def FoW (J : It) (g : TG) (tb : TS) (D : Ends) (σ : L2.St) (H1 : Hp) : Prop := ∃ W : Nat → Nat → L2.St → Hp → Prop, (∃ m, W 0 m σ H1) ∧ ∀ i m σ H, W i m σ H →
  (J.stop i H ∧ D.nx σ H) ∨ (J.go i H ∧ ∃ N : L2.St → Hp → Prop, (∀ σ' H', N σ' H' → ∃ m', m' < m ∧ W (i + 1) m' σ' H') ∧ ∀ x H', J.yld i H x H' → g x σ H' fun σ2 H2 => tb { D with nx := N, ct := N, bk := D.nx } σ2 H2)
def LcW (J : It) (g : TG) (tt : TT) (te : TE) (vs : List Nat) (σ : L2.St) (Q : VK) (H1 : Hp) : Prop := ∀ D, H1 D = none → ∃ W : Nat → Nat → Hp → Prop, (∃ m, W 0 m (upd H1 D (.lst []))) ∧ ∀ i m H, W i m H →
  (J.stop i H ∧ Q (.ref D) H) ∨ (J.go i H ∧ ∃ Nx : Hp → Prop, (∀ H', Nx H' → ∃ m', m' < m ∧ W (i + 1) m' H') ∧ ∀ x H', J.yld i H x H' → g x (wipe σ vs) H' fun σ2 H2 => wipe σ2 vs = wipe σ vs ∧ tt σ2 H2 fun b H3 =>
    if b = true then te σ2 H3 fun y H4 => ∃ acc, H4 D = some (.lst acc) ∧ acc.length < sizeLine ∧ Nx (upd H4 D (.lst (acc ++ [y]))) else Nx H3)
theorem c_yes {Q : Bool → Hp → Prop} (q : Q true H) : tYes σ H Q := q
theorem c_seq {t : TS} (h : t { D with nx := u D } σ H) : tSeq t u D σ H := h
/-- what a walk goes over -/
def OvSeq (K : PySem.W.Frag) (x : V) (H1 : Hp) (R : It → Prop) : Prop := ∃ a, x = .ref a ∧ (((∃ xs, SqL K H1 a xs) ∧ R (Itl K a)) ∨ ((∃ xs, SqT K H1 a xs) ∧ R (Itt K a)))
theorem ovL {a : Addr} {xs : List V} {R : It → Prop} (h : SqL K H1 a xs) (r : R (Itl K a)) : OvSeq K (.ref a) H1 R := ⟨a, rfl, .inl ⟨⟨xs, h⟩, r⟩⟩
theorem ovT {a : Addr} {xs : List V} {R : It → Prop} (h : SqT K H1 a xs) (r : R (Itt K a)) : OvSeq K (.ref a) H1 R := ⟨a, rfl, .inr ⟨⟨xs, h⟩, r⟩⟩
def OvEnum (K : PySem.W.Frag) (vs : List V) (H1 : Hp) (R : It → Prop) : Prop := ∃ a xs, vs = [.ref a] ∧ ((SqL K H1 a xs ∧ R (Ite K a)) ∨ (SqT K H1 a xs ∧ R (IteT K a)))
theorem ovEL {a : Addr} {xs : List V} {R : It → Prop} (h : SqL K H1 a xs) (r : R (Ite K a)) : OvEnum K [.ref a] H1 R := ⟨a, xs, rfl, .inl ⟨h, r⟩⟩
theorem ovET {a : Addr} {xs : List V} {R : It → Prop} (h : SqT K H1 a xs) (r : R (IteT K a)) : OvEnum K [.ref a] H1 R := ⟨a, xs, rfl, .inr ⟨h, r⟩⟩
def OvZip (K : PySem.W.Frag) (vs : List V) (H1 : Hp) (R : It → Prop) : Prop := ∃ a b xs ys, vs = [.ref a, .ref b] ∧ ((SqL K H1 a xs ∧ SqL K H1 b ys ∧ R (Itz K a b)) ∨ (SqT K H1 a xs ∧ SqT K H1 b ys ∧ R (RZ.ItzT K a b)))
theorem ovZL {a b : Addr} {xs ys : List V} {R : It → Prop} (h : SqL K H1 a xs) (h' : SqL K H1 b ys) (r : R (Itz K a b)) : OvZip K [.ref a, .ref b] H1 R := ⟨a, b, xs, ys, rfl, .inl ⟨h, h', r⟩⟩
theorem ovZT {a b : Addr} {xs ys : List V} {R : It → Prop} (h : SqT K H1 a xs) (h' : SqT K H1 b ys) (r : R (RZ.ItzT K a b)) : OvZip K [.ref a, .ref b] H1 R := ⟨a, b, xs, ys, rfl, .inr ⟨h, h', r⟩⟩
def OvR1 (vs : List V) (R : It → Prop) : Prop := ∃ j : Int, vs = [.int j] ∧ -(2 ^ 62) ≤ j ∧ j < 2 ^ 62 ∧ R (Itr 0 j.toNat)
theorem ovR1 {j : Int} {R : It → Prop} (h : -1000000 ≤ j ∧ j ≤ 1000000) (r : R (Itr 0 j.toNat)) : OvR1 [.int j] R := ⟨j, rfl, by omega, by omega, r⟩
def OvR2 (vs : List V) (R : It → Prop) : Prop := ∃ i j : Int, vs = [.int i, .int j] ∧ (-(2 ^ 62) ≤ i ∧ i < 2 ^ 62 ∧ -(2 ^ 62) ≤ j ∧ j < 2 ^ 62) ∧ R (Itr i (j - i).toNat)
theorem ovR2 {i j : Int} {R : It → Prop} (h : -1000000 ≤ i ∧ i ≤ 1000000 ∧ -1000000 ≤ j ∧ j ≤ 1000000) (r : R (Itr i (j - i).toNat)) : OvR2 [.int i, .int j] R := ⟨i, j, rfl, ⟨by omega, by omega, by omega, by omega⟩, r⟩
theorem f_seq (h : tl σ H fun x H1 => OvSeq K x H1 fun J => FoW J g tb D σ H1) : tFor (iSeq K tl) g tb D σ H := h
theorem f_enum (h : ta σ H fun x H1 => OvEnum K x H1 fun J => FoW J g tb D σ H1) : tFor (iEnumA K ta) g tb D σ H := h
theorem f_zip (h : ta σ H fun x H1 => OvZip K x H1 fun J => FoW J g tb D σ H1) : tFor (RZ.iZipA K ta) g tb D σ H := h
theorem f_r1 (h : ta σ H fun x H1 => OvR1 x fun J => FoW J g tb D σ H1) : tFor (iRng1 ta) g tb D σ H := h
theorem f_r2 (h : ta σ H fun x H1 => OvR2 x fun J => FoW J g tb D σ H1) : tFor (iRng2 ta) g tb D σ H := h
theorem l_seq (h : tl σ H fun x H1 => OvSeq K x H1 fun J => LcW J g tt te vs σ Q H1) : tLc (iSeq K tl) g tt te vs σ H Q := h
theorem l_enum (h : ta σ H fun x H1 => OvEnum K x H1 fun J => LcW J g tt te vs σ Q H1) : tLc (iEnumA K ta) g tt te vs σ H Q := h
theorem l_zip (h : ta σ H fun x H1 => OvZip K x H1 fun J => LcW J g tt te vs σ Q H1) : tLc (RZ.iZipA K ta) g tt te vs σ H Q := h
theorem l_r1 (h : ta σ H fun x H1 => OvR1 x fun J => LcW J g tt te vs σ Q H1) : tLc (iRng1 ta) g tt te vs σ H Q := h
/-- reversed(range(n)): n - 1 down to 0 -/
def OvRev (x : V) (R : It → Prop) : Prop := ∃ n : Int, x = .int n ∧ -(2 ^ 62) ≤ (0 : Int) ∧ (0 : Int) < 2 ^ 62 ∧ -(2 ^ 62) ≤ n ∧ n < 2 ^ 62 ∧ R (Itc (0 + (((n - 0).toNat : Nat) : Int) - 1) (-1) (n - 0).toNat)
theorem ovRev {j : Nat} {R : It → Prop} (h : j ≤ 1000000) (r : R (Itc ((j : Int) - 1) (-1) j)) : OvRev (.int (j : Int)) R := by
  refine ⟨j, rfl, by omega, by omega, by omega, by omega, ?_⟩
  have e1 : ((j : Int) - 0).toNat = j := by omega
  have e2 : (0 : Int) + (j : Int) - 1 = (j : Int) - 1 := by omega
  rw [e1, e2]
  exact r
theorem f_rev {tm : TE} (h : tm σ H fun x H1 => OvRev x fun J => FoW J g tb D σ H1) : tFor (iRevR (tRg1 tm)) g tb D σ H := h
/-- a for: Pv by the turn, the slots, the heap -/
theorem fo (w : Walk J n G Y) (Pv : Nat → L2.St → Hp → Prop) (h0 : Pv 0 σ H1) (hG : ∀ i σ H, i ≤ n → Pv i σ H → G H)
    (hs : ∀ i x σ H H', i < n → Pv i σ H → Y i H x H' → g x σ H' fun σ2 H2 => tb { D with nx := Pv (i + 1), ct := Pv (i + 1), bk := D.nx } σ2 H2) (hd : ∀ σ H, Pv n σ H → D.nx σ H) : FoW J g tb D σ H1 := for_it w Pv h0 hG hs hd
/-- within a comprehension: the list so far at D -/
def Lc (Pv : Nat → List V → Hp → Prop) (D : Addr) (i : Nat) (H : Hp) : Prop := ∃ acc, H D = some (.lst acc) ∧ acc.length ≤ i ∧ Pv i acc H
/-- .. one more item -/
def Ad (Pv : Nat → List V → Hp → Prop) (D : Addr) (i : Nat) (y : V) (H4 : Hp) : Prop := ∃ acc, H4 D = some (.lst acc) ∧ acc.length < sizeLine ∧ Lc Pv D i (upd H4 D (.lst (acc ++ [y])))
theorem Lc.add {Pv : Nat → List V → Hp → Prop} {D : Addr} {i : Nat} {y : V} {H4 : Hp} {acc : List V} (h : H4 D = some (.lst acc)) (hl : acc.length ≤ i) (hi : i ≤ 1000000) (p : Pv (i + 1) (acc ++ [y]) (upd H4 D (.lst (acc ++ [y])))) : Ad Pv D (i + 1) y H4 := by
  have big : (1000000 : Nat) < sizeLine := by decide
  refine ⟨acc, h, by omega, acc ++ [y], upd_same, ?_, p⟩
  rw [List.length_append, List.length_singleton]
  omega
theorem Lc.skip {Pv : Nat → List V → Hp → Prop} {D : Addr} {i : Nat} {H4 : Hp} {acc : List V} (h : H4 D = some (.lst acc)) (hl : acc.length ≤ i) (p : Pv (i + 1) acc H4) : Lc Pv D (i + 1) H4 := ⟨acc, h, Nat.le_succ_of_le hl, p⟩
/-- a comprehension: Pv by the list's address, the turn, the list so far, the heap -/
theorem lg (w : Walk J n G Y) (Pv : Addr → Nat → List V → Hp → Prop) (h0 : ∀ D, H1 D = none → Pv D 0 [] (upd H1 D (.lst []))) (hG : ∀ D i acc H, H1 D = none → i ≤ n → H D = some (.lst acc) → Pv D i acc H → G H)
    (hs : ∀ D i x acc H H', H1 D = none → i < n → acc.length ≤ i → H D = some (.lst acc) → Pv D i acc H → Y i H x H' → g x (wipe σ vs) H' fun σ2 H2 => wipe σ2 vs = wipe σ vs ∧ tt σ2 H2 fun b H3 =>
      if b = true then te σ2 H3 fun y H4 => Ad (Pv D) D (i + 1) y H4 else Lc (Pv D) D (i + 1) H3)
    (hd : ∀ D acc H, H1 D = none → H D = some (.lst acc) → acc.length ≤ n → Pv D n acc H → Q (.ref D) H) : LcW J g tt te vs σ Q H1 := by
  intro D nD
  exact lc_it w (D := D) (Qd := Q (.ref D)) (Lc (Pv D) D) ⟨[], upd_same, Nat.le_refl _, h0 D nD⟩ (fun i H hi ⟨acc, h1, h2, h3⟩ => hG D i acc H nD hi h1 h3) (fun i x H H' hi ⟨acc, h1, h2, h3⟩ hy => hs D i x acc H H' nD hi h2 h1 h3 hy) (fun H ⟨acc, h1, h2, h3⟩ => hd D acc H nD h1 h2 h3)
/-- .. where only new objects are made: R by the turn and the list so far -/
def Lp (H1 : Hp) (R : Nat → List V → Prop) (i : Nat) (acc : List V) (H : Hp) : Prop := Same H1 H ∧ R i acc
theorem lp (w : Walk J n G Y) (hG : ∀ H, Same H1 H → G H) (R : Nat → List V → Prop) (h0 : R 0 [])
    (hs : ∀ D i x acc H H', H1 D = none → i < n → acc.length ≤ i → H D = some (.lst acc) → Same H1 H → R i acc → Y i H x H' → g x (wipe σ vs) H' fun σ2 H2 => wipe σ2 vs = wipe σ vs ∧ tt σ2 H2 fun b H3 =>
      if b = true then te σ2 H3 fun y H4 => Ad (Lp H1 R) D (i + 1) y H4 else Lc (Lp H1 R) D (i + 1) H3)
    (hd : ∀ D acc H, H1 D = none → Same H1 H → H D = some (.lst acc) → acc.length ≤ n → R n acc → Q (.ref D) H) : LcW J g tt te vs σ Q H1 :=
  lg w (fun _ => Lp H1 R) (fun D nD => ⟨Same.new nD, h0⟩) (fun D i acc H nD hi hD p => hG H p.1) (fun D i x acc H H' nD hi hl hD p hy => hs D i x acc H H' nD hi hl hD p.1 p.2 hy) fun D acc H nD hD hl p => hd D acc H nD p.1 hD hl p.2
theorem Lp.add {R : Nat → List V → Prop} {D : Addr} {i : Nat} {y : V} {H H4 : Hp} {acc : List V} (nD : H1 D = none) (hD : H D = some (.lst acc)) (e1 : Same H1 H) (e : Same H H4) (hl : acc.length ≤ i) (r : R (i + 1) (acc ++ [y])) (hi : i ≤ 1000000) : Ad (Lp H1 R) D (i + 1) y H4 :=
  Lc.add (e _ _ hD) hl hi ⟨Same.mut (e1.trans e) nD, r⟩
theorem Lp.skip {R : Nat → List V → Prop} {D : Addr} {i : Nat} {H H4 : Hp} {acc : List V} (hD : H D = some (.lst acc)) (e1 : Same H1 H) (e : Same H H4) (hl : acc.length ≤ i) (r : R (i + 1) acc) : Lc (Lp H1 R) D (i + 1) H4 :=
  Lc.skip (e _ _ hD) hl ⟨e1.trans e, r⟩
end
end Pa
end
section
set_option Elab.async false
set_option linter.all false
set_option maxRecDepth 100000
set_option maxHeartbeats 4000000
/-! More words for steps. -/
namespace Pa
open PySem PySem.Spec PyProof.Rows L2
def rInt1 : List V → Hp → VK → Prop := fun xs H Q => ∃ i, xs = [.int i] ∧ Q (.int i) H
theorem kInt {X : Cx} : CallR X (.type "int") rInt1 := by
  intro pins s σ H xs us Q I r h
  exact call_int1 pins s σ H xs us Q I r (.inl h)
theorem c_int {i : Int} {H : Hp} {Q : VK} (q : Q (.int i) H) : rInt1 [.int i] H Q := ⟨i, rfl, q⟩
def rMx2 : List V → Hp → VK → Prop := fun xs H Q => ∃ i j, xs = [.int i, .int j] ∧ Q (.int (if j > i then j else i)) H
theorem kMax2 {X : Cx} (hc : X.calm = true := by rfl) : CallR X (.builtin "max") rMx2 := call_max2 hc
def rMn2 : List V → Hp → VK → Prop := fun xs H Q => ∃ i j, xs = [.int i, .int j] ∧ Q (.int (if j < i then j else i)) H
theorem kMin2 {X : Cx} (hc : X.calm = true := by rfl) : CallR X (.builtin "min") rMn2 := call_min2 hc
def rAbs : List V → Hp → VK → Prop := fun xs H Q => ∃ i, xs = [.int i] ∧ Q (.int (if i < 0 then -i else i)) H
theorem kAbs {X : Cx} : CallR X (.builtin "abs") rAbs := call_abs
theorem c_max2 {i j : Int} {H : Hp} {Q : VK} (q : Q (.int (if j > i then j else i)) H) : rMx2 [.int i, .int j] H Q := ⟨i, j, rfl, q⟩
theorem c_min2 {i j : Int} {H : Hp} {Q : VK} (q : Q (.int (if j < i then j else i)) H) : rMn2 [.int i, .int j] H Q := ⟨i, j, rfl, q⟩
theorem c_abs {i : Int} {H : Hp} {Q : VK} (q : Q (.int (if i < 0 then -i else i)) H) : rAbs [.int i] H Q := ⟨i, rfl, q⟩
end Pa
end
section
set_option Elab.async false
set_option linter.all false
set_option maxRecDepth 100000
/-! The facts by their names. -/
namespace Pa
open PySem PySem.Spec PyProof.Rows L2
/-- what the top has left -/
structure Tx (K : PySem.W.Frag) (mg : Str → Option Value) : Prop where
  d : He.SaysD fa fn K
  x : ex K = true
  m : ∃ h : Heap, K.In h ∧ h.Ns mainGlobals mg
section
variable {K : PySem.W.Frag} {mg : Str → Option Value}
theorem Tx.glo (T : Tx K mg) {x : Str} (i : Nat) (h : fa[i]? = some (.glo x) := by rfl) : mg x = some (.ref (He.ga K x)) := by
  obtain ⟨hp, X, G⟩ := T.m
  exact He.glo_ok X G (T.d.fact i (f := .glo x) h)
theorem Tx.free (T : Tx K mg) {x : Str} (i : Nat) (h : fa[i]? = some (.free x) := by rfl) : mg x = none := by
  obtain ⟨hp, X, G⟩ := T.m
  exact He.free_ok X G (T.d.fact i (f := .free x) h)
theorem Tx.g_is_whole (T : Tx K mg) : mg "is_whole" = some (.ref (He.ga K "is_whole")) := T.glo 0
theorem Tx.g_is_row (T : Tx K mg) : mg "is_row" = some (.ref (He.ga K "is_row")) := T.glo 1
theorem Tx.g_check_place (T : Tx K mg) : mg "check_place" = some (.ref (He.ga K "check_place")) := T.glo 2
theorem Tx.g_reached_places (T : Tx K mg) : mg "reached_places" = some (.ref (He.ga K "reached_places")) := T.glo 3
theorem Tx.g_arrow_gain (T : Tx K mg) : mg "arrow_gain" = some (.ref (He.ga K "arrow_gain")) := T.glo 4
theorem Tx.g_rest_rows (T : Tx K mg) : mg "rest_rows" = some (.ref (He.ga K "rest_rows")) := T.glo 5
theorem Tx.g_can_drift (T : Tx K mg) : mg "can_drift" = some (.ref (He.ga K "can_drift")) := T.glo 6
theorem Tx.g_least_ring (T : Tx K mg) : mg "least_ring" = some (.ref (He.ga K "least_ring")) := T.glo 7
theorem Tx.g_first_drift (T : Tx K mg) : mg "first_drift" = some (.ref (He.ga K "first_drift")) := T.glo 8
theorem Tx.g_find_fall (T : Tx K mg) : mg "find_fall" = some (.ref (He.ga K "find_fall")) := T.glo 9
theorem Tx.g_check_run (T : Tx K mg) : mg "check_run" = some (.ref (He.ga K "check_run")) := T.glo 10
theorem Tx.g_places_of (T : Tx K mg) : mg "places_of" = some (.ref (He.ga K "places_of")) := T.glo 11
theorem Tx.g_used_by (T : Tx K mg) : mg "used_by" = some (.ref (He.ga K "used_by")) := T.glo 12
theorem Tx.g_lead_rows (T : Tx K mg) : mg "lead_rows" = some (.ref (He.ga K "lead_rows")) := T.glo 13
theorem Tx.g_extreme_worths (T : Tx K mg) : mg "extreme_worths" = some (.ref (He.ga K "extreme_worths")) := T.glo 14
theorem Tx.g_low_leads (T : Tx K mg) : mg "low_leads" = some (.ref (He.ga K "low_leads")) := T.glo 15
theorem Tx.g_least_walk (T : Tx K mg) : mg "least_walk" = some (.ref (He.ga K "least_walk")) := T.glo 16
theorem Tx.g_find_short (T : Tx K mg) : mg "find_short" = some (.ref (He.ga K "find_short")) := T.glo 17
theorem Tx.g_is_covered (T : Tx K mg) : mg "is_covered" = some (.ref (He.ga K "is_covered")) := T.glo 18
theorem Tx.g_least_first (T : Tx K mg) : mg "least_first" = some (.ref (He.ga K "least_first")) := T.glo 19
theorem Tx.g__law_mix (T : Tx K mg) : mg "_law_mix" = some (.ref (He.ga K "_law_mix")) := T.glo 20
theorem Tx.g__law_hand (T : Tx K mg) : mg "_law_hand" = some (.ref (He.ga K "_law_hand")) := T.glo 21
theorem Tx.g__law_draw (T : Tx K mg) : mg "_law_draw" = some (.ref (He.ga K "_law_draw")) := T.glo 22
theorem Tx.g__law_exact (T : Tx K mg) : mg "_law_exact" = some (.ref (He.ga K "_law_exact")) := T.glo 23
theorem Tx.g__law_take (T : Tx K mg) : mg "_law_take" = some (.ref (He.ga K "_law_take")) := T.glo 24
theorem Tx.g__law_cost (T : Tx K mg) : mg "_law_cost" = some (.ref (He.ga K "_law_cost")) := T.glo 25
theorem Tx.g__law_order (T : Tx K mg) : mg "_law_order" = some (.ref (He.ga K "_law_order")) := T.glo 26
theorem Tx.g__law_chart (T : Tx K mg) : mg "_law_chart" = some (.ref (He.ga K "_law_chart")) := T.glo 27
theorem Tx.g__law_behind (T : Tx K mg) : mg "_law_behind" = some (.ref (He.ga K "_law_behind")) := T.glo 28
theorem Tx.g__law_inner (T : Tx K mg) : mg "_law_inner" = some (.ref (He.ga K "_law_inner")) := T.glo 29
theorem Tx.g__law_even_row (T : Tx K mg) : mg "_law_even_row" = some (.ref (He.ga K "_law_even_row")) := T.glo 30
theorem Tx.g__law_meter (T : Tx K mg) : mg "_law_meter" = some (.ref (He.ga K "_law_meter")) := T.glo 31
theorem Tx.g__law_made (T : Tx K mg) : mg "_law_made" = some (.ref (He.ga K "_law_made")) := T.glo 32
theorem Tx.g__law_gain (T : Tx K mg) : mg "_law_gain" = some (.ref (He.ga K "_law_gain")) := T.glo 33
theorem Tx.g__law_sum (T : Tx K mg) : mg "_law_sum" = some (.ref (He.ga K "_law_sum")) := T.glo 34
theorem Tx.g__law_walks (T : Tx K mg) : mg "_law_walks" = some (.ref (He.ga K "_law_walks")) := T.glo 35
theorem Tx.g__law_rings (T : Tx K mg) : mg "_law_rings" = some (.ref (He.ga K "_law_rings")) := T.glo 36
theorem Tx.g__law_paths (T : Tx K mg) : mg "_law_paths" = some (.ref (He.ga K "_law_paths")) := T.glo 37
theorem Tx.g__law_first_ring (T : Tx K mg) : mg "_law_first_ring" = some (.ref (He.ga K "_law_first_ring")) := T.glo 38
theorem Tx.g__law_behind_leads (T : Tx K mg) : mg "_law_behind_leads" = some (.ref (He.ga K "_law_behind_leads")) := T.glo 39
theorem Tx.g__law_due (T : Tx K mg) : mg "_law_due" = some (.ref (He.ga K "_law_due")) := T.glo 40
theorem Tx.g__law_told (T : Tx K mg) : mg "_law_told" = some (.ref (He.ga K "_law_told")) := T.glo 41
theorem Tx.g__law_asked (T : Tx K mg) : mg "_law_asked" = some (.ref (He.ga K "_law_asked")) := T.glo 42
theorem Tx.g__law_one (T : Tx K mg) : mg "_law_one" = some (.ref (He.ga K "_law_one")) := T.glo 43
theorem Tx.g_law (T : Tx K mg) : mg "law" = some (.ref (He.ga K "law")) := T.glo 44
theorem Tx.g_Chart (T : Tx K mg) : mg "Chart" = some (.ref (He.ga K "Chart")) := T.glo 45
theorem Tx.g_Drift (T : Tx K mg) : mg "Drift" = some (.ref (He.ga K "Drift")) := T.glo 46
theorem Tx.g_Short (T : Tx K mg) : mg "Short" = some (.ref (He.ga K "Short")) := T.glo 47
theorem Tx.g_Meter (T : Tx K mg) : mg "Meter" = some (.ref (He.ga K "Meter")) := T.glo 48
theorem Tx.g_Drifting (T : Tx K mg) : mg "Drifting" = some (.ref (He.ga K "Drifting")) := T.glo 49
theorem Tx.g_MeterError (T : Tx K mg) : mg "MeterError" = some (.ref (He.ga K "MeterError")) := T.glo 50
theorem Tx.z_isinstance (T : Tx K mg) : mg "isinstance" = none := T.free 51
theorem Tx.z_int (T : Tx K mg) : mg "int" = none := T.free 52
theorem Tx.z_bool (T : Tx K mg) : mg "bool" = none := T.free 53
theorem Tx.z_list (T : Tx K mg) : mg "list" = none := T.free 54
theorem Tx.z_tuple (T : Tx K mg) : mg "tuple" = none := T.free 55
theorem Tx.z_len (T : Tx K mg) : mg "len" = none := T.free 56
theorem Tx.z_enumerate (T : Tx K mg) : mg "enumerate" = none := T.free 57
theorem Tx.z_range (T : Tx K mg) : mg "range" = none := T.free 58
theorem Tx.z_sorted (T : Tx K mg) : mg "sorted" = none := T.free 59
theorem Tx.z_sum (T : Tx K mg) : mg "sum" = none := T.free 60
theorem Tx.z_reversed (T : Tx K mg) : mg "reversed" = none := T.free 61
theorem Tx.z_zip (T : Tx K mg) : mg "zip" = none := T.free 62
theorem Tx.z_any (T : Tx K mg) : mg "any" = none := T.free 63
theorem Tx.z_max (T : Tx K mg) : mg "max" = none := T.free 64
theorem Tx.z_min (T : Tx K mg) : mg "min" = none := T.free 65
theorem Tx.z_abs (T : Tx K mg) : mg "abs" = none := T.free 66
theorem Tx.z_str (T : Tx K mg) : mg "str" = none := T.free 67
theorem Tx.most (T : Tx K mg) : ∃ t, mg "MOST_CHARGE" = some (.int 1000000000000 t) := by
  obtain ⟨hp, X, G⟩ := T.m
  exact He.int_ok X G (T.d.fact 68 (f := .int "MOST_CHARGE" 1000000000000) rfl)
theorem Tx.c_Chart (T : Tx K mg) : Cls K (He.ga K "Chart") := He.cls_ok (T.d.fact 69 (f := .cls "Chart") rfl)
theorem Tx.c_Drift (T : Tx K mg) : Cls K (He.ga K "Drift") := He.cls_ok (T.d.fact 70 (f := .cls "Drift") rfl)
theorem Tx.c_Short (T : Tx K mg) : Cls K (He.ga K "Short") := He.cls_ok (T.d.fact 71 (f := .cls "Short") rfl)
theorem Tx.c_Meter (T : Tx K mg) : Cls K (He.ga K "Meter") := He.cls_ok (T.d.fact 72 (f := .cls "Meter") rfl)
theorem Tx.n_Chart_costs (T : Tx K mg) : NoAttr K (He.ga K "Chart") "costs" := He.noat_ok (T.d.fact 73 (f := .noat "Chart" "costs") rfl)
theorem Tx.n_Chart_arrows (T : Tx K mg) : NoAttr K (He.ga K "Chart") "arrows" := He.noat_ok (T.d.fact 74 (f := .noat "Chart" "arrows") rfl)
theorem Tx.n_Drift_ring (T : Tx K mg) : NoAttr K (He.ga K "Drift") "ring" := He.noat_ok (T.d.fact 75 (f := .noat "Drift" "ring") rfl)
theorem Tx.n_Drift_by (T : Tx K mg) : NoAttr K (He.ga K "Drift") "by" := He.noat_ok (T.d.fact 76 (f := .noat "Drift" "by") rfl)
theorem Tx.n_Short_run (T : Tx K mg) : NoAttr K (He.ga K "Short") "run" := He.noat_ok (T.d.fact 77 (f := .noat "Short" "run") rfl)
theorem Tx.n_Short_by (T : Tx K mg) : NoAttr K (He.ga K "Short") "by" := He.noat_ok (T.d.fact 78 (f := .noat "Short" "by") rfl)
theorem Tx.n_Meter_chart (T : Tx K mg) : NoAttr K (He.ga K "Meter") "chart" := He.noat_ok (T.d.fact 79 (f := .noat "Meter" "chart") rfl)
theorem Tx.n_Meter_first (T : Tx K mg) : NoAttr K (He.ga K "Meter") "first" := He.noat_ok (T.d.fact 80 (f := .noat "Meter" "first") rfl)
theorem Tx.n_Meter_charges (T : Tx K mg) : NoAttr K (He.ga K "Meter") "charges" := He.noat_ok (T.d.fact 81 (f := .noat "Meter" "charges") rfl)
theorem Tx.n_Drifting_ring (T : Tx K mg) : NoAttr K (He.ga K "Drifting") "ring" := He.noat_ok (T.d.fact 82 (f := .noat "Drifting" "ring") rfl)
theorem Tx.n_Drifting_by (T : Tx K mg) : NoAttr K (He.ga K "Drifting") "by" := He.noat_ok (T.d.fact 83 (f := .noat "Drifting" "by") rfl)
theorem Tx.m_Chart_outs (T : Tx K mg) : Meth K (He.ga K "Chart") "outs" (He.ma K (He.ga K "Chart") "outs") := He.meth_ok (T.d.fact 84 (f := .meth "Chart" "outs") rfl)
theorem Tx.m_Short___eq__ (T : Tx K mg) : Meth K (He.ga K "Short") "__eq__" (He.ma K (He.ga K "Short") "__eq__") := He.meth_ok (T.d.fact 85 (f := .meth "Short" "__eq__") rfl)
theorem Tx.m_Meter_charged (T : Tx K mg) : Meth K (He.ga K "Meter") "charged" (He.ma K (He.ga K "Meter") "charged") := He.meth_ok (T.d.fact 86 (f := .meth "Meter" "charged") rfl)
theorem Tx.m_Meter_lead_behind (T : Tx K mg) : Meth K (He.ga K "Meter") "lead_behind" (He.ma K (He.ga K "Meter") "lead_behind") := He.meth_ok (T.d.fact 87 (f := .meth "Meter" "lead_behind") rfl)
theorem Tx.m_Meter_with_first (T : Tx K mg) : Meth K (He.ga K "Meter") "with_first" (He.ma K (He.ga K "Meter") "with_first") := He.meth_ok (T.d.fact 88 (f := .meth "Meter" "with_first") rfl)
theorem Tx.k_Chart (T : Tx K mg) : L2.Mk K (He.ga K "Chart") (He.ma K (He.ga K "Chart") "__init__") := He.mkr_ok (T.d.fact 89 (f := .mkr "Chart") rfl)
theorem Tx.k_Drift (T : Tx K mg) : L2.Mk K (He.ga K "Drift") (He.ma K (He.ga K "Drift") "__init__") := He.mkr_ok (T.d.fact 90 (f := .mkr "Drift") rfl)
theorem Tx.k_Short (T : Tx K mg) : L2.Mk K (He.ga K "Short") (He.ma K (He.ga K "Short") "__init__") := He.mkr_ok (T.d.fact 91 (f := .mkr "Short") rfl)
theorem Tx.k_Meter (T : Tx K mg) : L2.Mk K (He.ga K "Meter") (He.ma K (He.ga K "Meter") "__init__") := He.mkr_ok (T.d.fact 92 (f := .mkr "Meter") rfl)
theorem Tx.e_Drifting_MeterError (T : Tx K mg) : PySem.W.exmOne K (.ref (He.ga K "Drifting")) (.ref (He.ga K "MeterError")) = some true := He.exm_ok (T.d.fact 93 (f := .exm "Drifting" "MeterError" true) rfl)
theorem Tx.f_is_whole (T : Tx K mg) : ∃ fd, FunD K "is_whole" "is_whole" (defArgs s_is_whole) (defBody s_is_whole) (defScope s_is_whole) [] [] (He.ga K "is_whole") fd := T.d.def_ 0 (d := d_is_whole) rfl
theorem Tx.f_is_row (T : Tx K mg) : ∃ fd, FunD K "is_row" "is_row" (defArgs s_is_row) (defBody s_is_row) (defScope s_is_row) [] [] (He.ga K "is_row") fd := T.d.def_ 1 (d := d_is_row) rfl
theorem Tx.f_check_place (T : Tx K mg) : ∃ fd, FunD K "check_place" "check_place" (defArgs s_check_place) (defBody s_check_place) (defScope s_check_place) [] [] (He.ga K "check_place") fd := T.d.def_ 2 (d := d_check_place) rfl
theorem Tx.f_reached_places (T : Tx K mg) : ∃ fd, FunD K "reached_places" "reached_places" (defArgs s_reached_places) (defBody s_reached_places) (defScope s_reached_places) [] [] (He.ga K "reached_places") fd := T.d.def_ 3 (d := d_reached_places) rfl
theorem Tx.f_arrow_gain (T : Tx K mg) : ∃ fd, FunD K "arrow_gain" "arrow_gain" (defArgs s_arrow_gain) (defBody s_arrow_gain) (defScope s_arrow_gain) [] [] (He.ga K "arrow_gain") fd := T.d.def_ 4 (d := d_arrow_gain) rfl
theorem Tx.f_rest_rows (T : Tx K mg) : ∃ fd, FunD K "rest_rows" "rest_rows" (defArgs s_rest_rows) (defBody s_rest_rows) (defScope s_rest_rows) [] [] (He.ga K "rest_rows") fd := T.d.def_ 5 (d := d_rest_rows) rfl
theorem Tx.f_can_drift (T : Tx K mg) : ∃ fd, FunD K "can_drift" "can_drift" (defArgs s_can_drift) (defBody s_can_drift) (defScope s_can_drift) [] [] (He.ga K "can_drift") fd := T.d.def_ 6 (d := d_can_drift) rfl
theorem Tx.f_least_ring (T : Tx K mg) : ∃ fd, FunD K "least_ring" "least_ring" (defArgs s_least_ring) (defBody s_least_ring) (defScope s_least_ring) [] [] (He.ga K "least_ring") fd := T.d.def_ 7 (d := d_least_ring) rfl
theorem Tx.f_first_drift (T : Tx K mg) : ∃ fd, FunD K "first_drift" "first_drift" (defArgs s_first_drift) (defBody s_first_drift) (defScope s_first_drift) [] [] (He.ga K "first_drift") fd := T.d.def_ 8 (d := d_first_drift) rfl
theorem Tx.f_find_fall (T : Tx K mg) : ∃ fd, FunD K "find_fall" "find_fall" (defArgs s_find_fall) (defBody s_find_fall) (defScope s_find_fall) [] [] (He.ga K "find_fall") fd := T.d.def_ 9 (d := d_find_fall) rfl
theorem Tx.f_check_run (T : Tx K mg) : ∃ fd, FunD K "check_run" "check_run" (defArgs s_check_run) (defBody s_check_run) (defScope s_check_run) [] [] (He.ga K "check_run") fd := T.d.def_ 10 (d := d_check_run) rfl
theorem Tx.f_places_of (T : Tx K mg) : ∃ fd, FunD K "places_of" "places_of" (defArgs s_places_of) (defBody s_places_of) (defScope s_places_of) [] [] (He.ga K "places_of") fd := T.d.def_ 11 (d := d_places_of) rfl
theorem Tx.f_used_by (T : Tx K mg) : ∃ fd, FunD K "used_by" "used_by" (defArgs s_used_by) (defBody s_used_by) (defScope s_used_by) [] [] (He.ga K "used_by") fd := T.d.def_ 12 (d := d_used_by) rfl
theorem Tx.f_lead_rows (T : Tx K mg) : ∃ fd, FunD K "lead_rows" "lead_rows" (defArgs s_lead_rows) (defBody s_lead_rows) (defScope s_lead_rows) [] [] (He.ga K "lead_rows") fd := T.d.def_ 13 (d := d_lead_rows) rfl
theorem Tx.f_extreme_worths (T : Tx K mg) : ∃ fd, FunD K "extreme_worths" "extreme_worths" (defArgs s_extreme_worths) (defBody s_extreme_worths) (defScope s_extreme_worths) [] [] (He.ga K "extreme_worths") fd := T.d.def_ 14 (d := d_extreme_worths) rfl
theorem Tx.f_low_leads (T : Tx K mg) : ∃ fd, FunD K "low_leads" "low_leads" (defArgs s_low_leads) (defBody s_low_leads) (defScope s_low_leads) [] [] (He.ga K "low_leads") fd := T.d.def_ 15 (d := d_low_leads) rfl
theorem Tx.f_least_walk (T : Tx K mg) : ∃ fd, FunD K "least_walk" "least_walk" (defArgs s_least_walk) (defBody s_least_walk) (defScope s_least_walk) [] [] (He.ga K "least_walk") fd := T.d.def_ 16 (d := d_least_walk) rfl
theorem Tx.f_find_short (T : Tx K mg) : ∃ fd, FunD K "find_short" "find_short" (defArgs s_find_short) (defBody s_find_short) (defScope s_find_short) [] [] (He.ga K "find_short") fd := T.d.def_ 17 (d := d_find_short) rfl
theorem Tx.f_is_covered (T : Tx K mg) : ∃ fd, FunD K "is_covered" "is_covered" (defArgs s_is_covered) (defBody s_is_covered) (defScope s_is_covered) [] [] (He.ga K "is_covered") fd := T.d.def_ 18 (d := d_is_covered) rfl
theorem Tx.f_least_first (T : Tx K mg) : ∃ fd, FunD K "least_first" "least_first" (defArgs s_least_first) (defBody s_least_first) (defScope s_least_first) [] [] (He.ga K "least_first") fd := T.d.def_ 19 (d := d_least_first) rfl
theorem Tx.f_L_mix (T : Tx K mg) : ∃ fd, FunD K "_law_mix" "_law_mix" (defArgs s_L_mix) (defBody s_L_mix) (defScope s_L_mix) [] [] (He.ga K "_law_mix") fd := T.d.def_ 20 (d := d_L_mix) rfl
theorem Tx.f_L_hand (T : Tx K mg) : ∃ fd, FunD K "_law_hand" "_law_hand" (defArgs s_L_hand) (defBody s_L_hand) (defScope s_L_hand) [] [] (He.ga K "_law_hand") fd := T.d.def_ 21 (d := d_L_hand) rfl
theorem Tx.f_L_draw (T : Tx K mg) : ∃ fd, FunD K "_law_draw" "_law_draw" (defArgs s_L_draw) (defBody s_L_draw) (defScope s_L_draw) [] [] (He.ga K "_law_draw") fd := T.d.def_ 22 (d := d_L_draw) rfl
theorem Tx.f_L_exact (T : Tx K mg) : ∃ fd, FunD K "_law_exact" "_law_exact" (defArgs s_L_exact) (defBody s_L_exact) (defScope s_L_exact) [] [] (He.ga K "_law_exact") fd := T.d.def_ 23 (d := d_L_exact) rfl
theorem Tx.f_L_take (T : Tx K mg) : ∃ fd, FunD K "_law_take" "_law_take" (defArgs s_L_take) (defBody s_L_take) (defScope s_L_take) [] [] (He.ga K "_law_take") fd := T.d.def_ 24 (d := d_L_take) rfl
theorem Tx.f_L_cost (T : Tx K mg) : ∃ fd, FunD K "_law_cost" "_law_cost" (defArgs s_L_cost) (defBody s_L_cost) (defScope s_L_cost) [] [] (He.ga K "_law_cost") fd := T.d.def_ 25 (d := d_L_cost) rfl
theorem Tx.f_L_order (T : Tx K mg) : ∃ fd, FunD K "_law_order" "_law_order" (defArgs s_L_order) (defBody s_L_order) (defScope s_L_order) [] [] (He.ga K "_law_order") fd := T.d.def_ 26 (d := d_L_order) rfl
theorem Tx.f_L_chart (T : Tx K mg) : ∃ fd, FunD K "_law_chart" "_law_chart" (defArgs s_L_chart) (defBody s_L_chart) (defScope s_L_chart) [] [] (He.ga K "_law_chart") fd := T.d.def_ 27 (d := d_L_chart) rfl
theorem Tx.f_L_behind (T : Tx K mg) : ∃ fd, FunD K "_law_behind" "_law_behind" (defArgs s_L_behind) (defBody s_L_behind) (defScope s_L_behind) [] [] (He.ga K "_law_behind") fd := T.d.def_ 28 (d := d_L_behind) rfl
theorem Tx.f_L_inner (T : Tx K mg) : ∃ fd, FunD K "_law_inner" "_law_inner" (defArgs s_L_inner) (defBody s_L_inner) (defScope s_L_inner) [] [] (He.ga K "_law_inner") fd := T.d.def_ 29 (d := d_L_inner) rfl
theorem Tx.f_L_even_row (T : Tx K mg) : ∃ fd, FunD K "_law_even_row" "_law_even_row" (defArgs s_L_even_row) (defBody s_L_even_row) (defScope s_L_even_row) [] [] (He.ga K "_law_even_row") fd := T.d.def_ 30 (d := d_L_even_row) rfl
theorem Tx.f_L_meter (T : Tx K mg) : ∃ fd, FunD K "_law_meter" "_law_meter" (defArgs s_L_meter) (defBody s_L_meter) (defScope s_L_meter) [] [] (He.ga K "_law_meter") fd := T.d.def_ 31 (d := d_L_meter) rfl
theorem Tx.f_L_made (T : Tx K mg) : ∃ fd, FunD K "_law_made" "_law_made" (defArgs s_L_made) (defBody s_L_made) (defScope s_L_made) [] [] (He.ga K "_law_made") fd := T.d.def_ 32 (d := d_L_made) rfl
theorem Tx.f_L_gain (T : Tx K mg) : ∃ fd, FunD K "_law_gain" "_law_gain" (defArgs s_L_gain) (defBody s_L_gain) (defScope s_L_gain) [] [] (He.ga K "_law_gain") fd := T.d.def_ 33 (d := d_L_gain) rfl
theorem Tx.f_L_sum (T : Tx K mg) : ∃ fd, FunD K "_law_sum" "_law_sum" (defArgs s_L_sum) (defBody s_L_sum) (defScope s_L_sum) [] [] (He.ga K "_law_sum") fd := T.d.def_ 34 (d := d_L_sum) rfl
theorem Tx.f_L_walks (T : Tx K mg) : ∃ fd, FunD K "_law_walks" "_law_walks" (defArgs s_L_walks) (defBody s_L_walks) (defScope s_L_walks) [] [] (He.ga K "_law_walks") fd := T.d.def_ 35 (d := d_L_walks) rfl
theorem Tx.f_L_rings (T : Tx K mg) : ∃ fd, FunD K "_law_rings" "_law_rings" (defArgs s_L_rings) (defBody s_L_rings) (defScope s_L_rings) [] [] (He.ga K "_law_rings") fd := T.d.def_ 36 (d := d_L_rings) rfl
theorem Tx.f_L_paths (T : Tx K mg) : ∃ fd, FunD K "_law_paths" "_law_paths" (defArgs s_L_paths) (defBody s_L_paths) (defScope s_L_paths) [] [] (He.ga K "_law_paths") fd := T.d.def_ 37 (d := d_L_paths) rfl
theorem Tx.f_L_first_ring (T : Tx K mg) : ∃ fd, FunD K "_law_first_ring" "_law_first_ring" (defArgs s_L_first_ring) (defBody s_L_first_ring) (defScope s_L_first_ring) [] [] (He.ga K "_law_first_ring") fd := T.d.def_ 38 (d := d_L_first_ring) rfl
theorem Tx.f_L_behind_leads (T : Tx K mg) : ∃ fd, FunD K "_law_behind_leads" "_law_behind_leads" (defArgs s_L_behind_leads) (defBody s_L_behind_leads) (defScope s_L_behind_leads) [] [] (He.ga K "_law_behind_leads") fd := T.d.def_ 39 (d := d_L_behind_leads) rfl
theorem Tx.f_L_due (T : Tx K mg) : ∃ fd, FunD K "_law_due" "_law_due" (defArgs s_L_due) (defBody s_L_due) (defScope s_L_due) [] [] (He.ga K "_law_due") fd := T.d.def_ 40 (d := d_L_due) rfl
theorem Tx.f_L_told (T : Tx K mg) : ∃ fd, FunD K "_law_told" "_law_told" (defArgs s_L_told) (defBody s_L_told) (defScope s_L_told) [] [] (He.ga K "_law_told") fd := T.d.def_ 41 (d := d_L_told) rfl
theorem Tx.f_L_asked (T : Tx K mg) : ∃ fd, FunD K "_law_asked" "_law_asked" (defArgs s_L_asked) (defBody s_L_asked) (defScope s_L_asked) [] [] (He.ga K "_law_asked") fd := T.d.def_ 42 (d := d_L_asked) rfl
theorem Tx.f_L_one (T : Tx K mg) : ∃ fd, FunD K "_law_one" "_law_one" (defArgs s_L_one) (defBody s_L_one) (defScope s_L_one) [] [] (He.ga K "_law_one") fd := T.d.def_ 43 (d := d_L_one) rfl
theorem Tx.f_L_main (T : Tx K mg) : ∃ fd, FunD K "law" "law" (defArgs s_L_main) (defBody s_L_main) (defScope s_L_main) [] [] (He.ga K "law") fd := T.d.def_ 44 (d := d_L_main) rfl
theorem Tx.f_Drifting_init (T : Tx K mg) : ∃ fd, FunD K "__init__" "Drifting.__init__" (defArgs s_Drifting_init) (defBody s_Drifting_init) (defScope s_Drifting_init) [] [] (He.ma K (He.ga K "Drifting") "__init__") fd := T.d.def_ 45 (d := d_Drifting_init) rfl
theorem Tx.f_Chart_init (T : Tx K mg) : ∃ fd, FunD K "__init__" "Chart.__init__" (defArgs s_Chart_init) (defBody s_Chart_init) (defScope s_Chart_init) [] [] (He.ma K (He.ga K "Chart") "__init__") fd := T.d.def_ 46 (d := d_Chart_init) rfl
theorem Tx.f_Chart_outs (T : Tx K mg) : ∃ fd, FunD K "outs" "Chart.outs" (defArgs s_Chart_outs) (defBody s_Chart_outs) (defScope s_Chart_outs) [] [] (He.ma K (He.ga K "Chart") "outs") fd := T.d.def_ 47 (d := d_Chart_outs) rfl
theorem Tx.f_Drift_init (T : Tx K mg) : ∃ fd, FunD K "__init__" "Drift.__init__" (defArgs s_Drift_init) (defBody s_Drift_init) (defScope s_Drift_init) [] [] (He.ma K (He.ga K "Drift") "__init__") fd := T.d.def_ 48 (d := d_Drift_init) rfl
theorem Tx.f_Short_init (T : Tx K mg) : ∃ fd, FunD K "__init__" "Short.__init__" (defArgs s_Short_init) (defBody s_Short_init) (defScope s_Short_init) [] [] (He.ma K (He.ga K "Short") "__init__") fd := T.d.def_ 49 (d := d_Short_init) rfl
theorem Tx.f_Short_eq (T : Tx K mg) : ∃ fd, FunD K "__eq__" "Short.__eq__" (defArgs s_Short_eq) (defBody s_Short_eq) (defScope s_Short_eq) [] [] (He.ma K (He.ga K "Short") "__eq__") fd := T.d.def_ 50 (d := d_Short_eq) rfl
theorem Tx.f_Meter_init (T : Tx K mg) : ∃ fd, FunD K "__init__" "Meter.__init__" (defArgs s_Meter_init) (defBody s_Meter_init) (defScope s_Meter_init) [] [] (He.ma K (He.ga K "Meter") "__init__") fd := T.d.def_ 51 (d := d_Meter_init) rfl
theorem Tx.f_Meter_charged (T : Tx K mg) : ∃ fd, FunD K "charged" "Meter.charged" (defArgs s_Meter_charged) (defBody s_Meter_charged) (defScope s_Meter_charged) [] [] (He.ma K (He.ga K "Meter") "charged") fd := T.d.def_ 52 (d := d_Meter_charged) rfl
theorem Tx.f_Meter_lead_behind (T : Tx K mg) : ∃ fd, FunD K "lead_behind" "Meter.lead_behind" (defArgs s_Meter_lead_behind) (defBody s_Meter_lead_behind) (defScope s_Meter_lead_behind) [] [] (He.ma K (He.ga K "Meter") "lead_behind") fd := T.d.def_ 53 (d := d_Meter_lead_behind) rfl
theorem Tx.f_Meter_with_first (T : Tx K mg) : ∃ fd, FunD K "with_first" "Meter.with_first" (defArgs s_Meter_with_first) (defBody s_Meter_with_first) (defScope s_Meter_with_first) [] [] (He.ma K (He.ga K "Meter") "with_first") fd := T.d.def_ 54 (d := d_Meter_with_first) rfl
end
theorem bt_isinstance : bootBuiltins "isinstance" = some (.builtin "isinstance") := by decide +kernel
theorem bt_int : bootBuiltins "int" = some (.type "int") := by decide +kernel
theorem bt_bool : bootBuiltins "bool" = some (.type "bool") := by decide +kernel
theorem bt_list : bootBuiltins "list" = some (.type "list") := by decide +kernel
theorem bt_tuple : bootBuiltins "tuple" = some (.type "tuple") := by decide +kernel
theorem bt_str : bootBuiltins "str" = some (.type "str") := by decide +kernel
theorem bt_len : bootBuiltins "len" = some (.builtin "len") := by decide +kernel
theorem bt_sorted : bootBuiltins "sorted" = some (.builtin "sorted") := by decide +kernel
theorem bt_sum : bootBuiltins "sum" = some (.builtin "sum") := by decide +kernel
theorem bt_any : bootBuiltins "any" = some (.builtin "any") := by decide +kernel
theorem bt_max : bootBuiltins "max" = some (.builtin "max") := by decide +kernel
theorem bt_min : bootBuiltins "min" = some (.builtin "min") := by decide +kernel
theorem bt_abs : bootBuiltins "abs" = some (.builtin "abs") := by decide +kernel
end Pa
end
section
set_option autoImplicit false
set_option linter.all false
set_option maxRecDepth 100000
/-! Sorted lists of tuples. -/
namespace Pa
open PySem PySem.W L2 PyProof.Rows
abbrev tN (r : List Nat) : PyData := .tuple (r.map dN)
theorem map_dN (r : List Nat) : r.map dN = (r.map fun k : Nat => (k : Int)).map PyData.int := by rw [List.map_map]; rfl
theorem alike_nats (x y : List Nat) : alikeAll (x.map dN) (y.map dN) = true := by
  rw [map_dN, map_dN]
  exact alike_ints _ _
theorem alike_tN (x y : List Nat) : alike (tN x) (tN y) = true := by
  show alike (.tuple _) (.tuple _) = true
  rw [alike]
  exact alike_nats x y
theorem depth_nats (x : List Nat) : PyData.depthAll (x.map dN) = 0 := by
  rw [map_dN]
  exact depth_ints _
theorem lt_cast : ∀ x y : List Nat, ((x.map fun k : Nat => (k : Int)) < (y.map fun k : Nat => (k : Int))) ↔ ¬ LexLe y x
  | [], [] => by simp [LexLe]
  | [], b :: y => by simp [LexLe]
  | a :: x, [] => by simp [LexLe]
  | a :: x, b :: y => by
    rw [List.map_cons, List.map_cons, List.cons_lt_cons_iff, lt_cast x y]
    show _ ↔ ¬ (b < a ∨ (b = a ∧ LexLe y x))
    constructor
    · rintro (h | ⟨h, k⟩) (q | ⟨q, r⟩)
      · omega
      · omega
      · omega
      · exact k r
    · intro h
      by_cases e : a = b
      · subst e
        exact .inr ⟨rfl, fun q => h (.inr ⟨rfl, q⟩)⟩
      · exact .inl (by
          have : ¬ b < a := fun q => h (.inl q)
          omega)
theorem lt_tN (x y : List Nat) : dataLt (tN x) (tN y) = true ↔ ¬ LexLe y x := by
  rw [dataLt_tuple]
  show rowLt (x.map dN) (y.map dN) = true ↔ _
  rw [map_dN, map_dN, dataLt_ints, decide_eq_true_iff]
  exact lt_cast x y
theorem le_tN {x y : List Nat} (h : dataLe false tN x y = true) : LexLe x y := by
  have h' : (!dataLt (tN y) (tN x)) = true := h
  by_cases q : LexLe x y
  · exact q
  · rw [(lt_tN y x).mpr q] at h'
    cases h'
theorem eqv_int (a b : Int) : PyData.eqv (.int a) (.int b) = decide (a = b) := by
  simp only [PyData.eqv]
  by_cases h : a = b <;> simp [h]
theorem alike_int (a b : Int) : alike (.int a) (.int b) = true := by simp [alike]
def encR (r : List Nat) : PyData := .tuple [dN r.length, tN r]
def encP (p : List Nat × Nat) : PyData := .tuple [dN p.1.length, tN p.1, dN p.2]
theorem rowLt_len {a b : Nat} {xs ys : List PyData} (h : rowLt (dN b :: ys) (dN a :: xs) = false) : a < b ∨ (a = b ∧ rowLt ys xs = false) := by
  have h' : PyProof.Rows.lexLt itemOrd (keyToksAll (dN b :: ys)) (keyToksAll (dN a :: xs)) = false := h
  rw [dataLt_cons (alike_int _ _), eqv_int, dataLt_int] at h'
  by_cases e : (b : Int) = (a : Int)
  · rw [if_pos (decide_eq_true e)] at h'
    exact .inr ⟨by omega, h'⟩
  · rw [if_neg (by rw [decide_eq_false e]; decide)] at h'
    have := of_decide_eq_false h'
    exact .inl (by omega)
theorem rowLt_tup {x y : List Nat} {xs ys : List PyData} (h : rowLt (tN y :: ys) (tN x :: xs) = false) : LexLe x y := by
  have h' : PyProof.Rows.lexLt itemOrd (keyToksAll (tN y :: ys)) (keyToksAll (tN x :: xs)) = false := h
  rw [dataLt_cons (alike_tN _ _)] at h'
  by_cases q : LexLe x y
  · exact q
  · have q2 := (lt_tN y x).mpr q
    by_cases e : PyData.eqv (tN y) (tN x) = true
    · exfalso
      have e2 : dataLt (tN y) (tN x) = false := by
        have z := (toks_eqv (tN y) (tN x) (alike_tN _ _)).1 e
        unfold dataLt
        rw [z]
        exact lex_irrefl _
      rw [q2] at e2
      cases e2
    · rw [if_neg e, q2] at h'
      cases h'
theorem le_encR {x y : List Nat} (h : dataLe false encR x y = true) : OrdLe x y := by
  have h' : (!dataLt (encR y) (encR x)) = true := h
  have h2 : dataLt (encR y) (encR x) = false := by simpa using h'
  unfold encR at h2
  rw [dataLt_tuple] at h2
  rcases rowLt_len h2 with q | ⟨q, r⟩
  · exact .inl q
  · exact .inr ⟨q, rowLt_tup r⟩
theorem le_encP {x y : List Nat × Nat} (h : dataLe false encP x y = true) : OrdLe x.1 y.1 := by
  have h' : (!dataLt (encP y) (encP x)) = true := h
  have h2 : dataLt (encP y) (encP x) = false := by simpa using h'
  unfold encP at h2
  rw [dataLt_tuple] at h2
  rcases rowLt_len h2 with q | ⟨q, r⟩
  · exact .inl q
  · exact .inr ⟨q, rowLt_tup r⟩
theorem sort_enc {α : Type} (enc : α → PyData) (l : List α) : ∃ l' : List α, l'.Perm l ∧ (l.map enc).mergeSort (dataLe false id) = l'.map enc ∧ l'.Pairwise (fun a b => dataLe false enc a b = true) := by
  refine ⟨l.mergeSort (dataLe false enc), List.mergeSort_perm l _, ?_, sort_pairwise (sortLe_total _ _ _) l⟩
  exact (sort_maps enc fun a _ b _ => rfl).symm
theorem alike_encR (x y : List Nat) : alike (encR x) (encR y) = true := by
  show alike (.tuple _) (.tuple _) = true
  simp only [alike, alikeAll, Bool.and_true, Bool.true_and]
  exact alike_nats x y
theorem alike_encP (x y : List Nat × Nat) : alike (encP x) (encP y) = true := by
  show alike (.tuple _) (.tuple _) = true
  simp only [alike, alikeAll, Bool.and_true, Bool.true_and]
  exact alike_nats x.1 y.1
theorem depth_tN (x : List Nat) : (tN x).depth ≤ 40 := by
  show PyData.depth (.tuple _) ≤ 40
  rw [PyData.depth, depth_nats]
  decide
theorem depth_encR (x : List Nat) : (encR x).depth ≤ 40 := by
  show PyData.depth (.tuple _) ≤ 40
  simp only [PyData.depth, PyData.depthAll, depth_nats]
  decide
theorem depth_encP (x : List Nat × Nat) : (encP x).depth ≤ 40 := by
  show PyData.depth (.tuple _) ≤ 40
  simp only [PyData.depth, PyData.depthAll, depth_nats]
  decide
/-- the first of a sorted list of tuples -/
theorem sort_first {rs : List (List Nat)} (h : rs ≠ []) : ∃ (l' : List PyData) (r0 : List Nat), r0 ∈ rs ∧ (rs.map tN).mergeSort (dataLe false id) = tN r0 :: l' ∧ ∀ r ∈ rs, LexLe r0 r := by
  obtain ⟨l, hp, e, hs⟩ := sort_enc tN rs
  cases l with
  | nil => exact absurd hp.symm.eq_nil h
  | cons r0 l =>
    refine ⟨l.map tN, r0, hp.mem_iff.mp (by simp), by rw [e]; rfl, fun r hr => ?_⟩
    rcases List.mem_cons.mp (hp.mem_iff.mpr hr) with q | q
    · rw [q]; exact LexLe.refl _
    · exact le_tN ((List.pairwise_cons.mp hs).1 r q)
end Pa
end
section
set_option Elab.async false
set_option linter.all false
set_option maxRecDepth 100000
set_option maxHeartbeats 4000000
namespace Pa
open PySem PySem.Spec PyProof.Rows L2
local macro_rules | `(tactic| walk_at "st") => `(tactic| first
  | ((with_reducible refine' c_var ?h0 ?_); (case h0 => rfl))
  | with_reducible refine c_c ?_
  | with_reducible refine c_op ?_
  | with_reducible refine c_un ?_
  | with_reducible refine c_I0 ?_
  | with_reducible refine c_U ?_
  | with_reducible refine c_eqI ?_
  | with_reducible refine c_neI ?_
  | with_reducible refine c_isN ?_
  | with_reducible refine c_notN ?_
  | ((with_reducible refine' c_ix2 ?h0 ?h1 ?_); (case h0 => assumption); (case h1 => assumption))
  | with_reducible refine c_fld ?_
  | ((with_reducible refine' c_fldv ?h0 ?_); (case h0 => assumption))
  | with_reducible refine c_bl ?_
  | with_reducible refine c_test ?_
  | with_reducible refine c_tB ?_
  | with_reducible refine c_and ?_
  | with_reducible refine c_or ?_
  | with_reducible refine c_not ?_
  | with_reducible refine c_notV ?_
  | with_reducible refine c_andV ?_
  | with_reducible refine c_orV ?_
  | with_reducible refine c_chain ?_
  | with_reducible refine c_if ?_
  | with_reducible refine c_nil ?_
  | with_reducible refine c_cons ?_
  | with_reducible refine c_fn ?_
  | with_reducible refine c_cb ?_
  | with_reducible refine c_tup ?_
  | with_reducible refine c_lst ?_
  | with_reducible refine c_asgL ?_
  | with_reducible refine c_asg ?_
  | with_reducible refine c_dropL ?_
  | with_reducible refine c_drop ?_
  | with_reducible refine c_asgG ?_
  | with_reducible refine c_asgGs ?_
  | with_reducible refine c_ret ?_
  | with_reducible refine c_ifL ?_
  | with_reducible refine c_ifS ?_
  | with_reducible refine c_nextL ?_
  | with_reducible refine c_yes ?_
  | with_reducible refine c_setF ?_
  | with_reducible refine c_setFs ?_
  | with_reducible refine c_mk ?_
  | with_reducible refine c_tru ?_
  | with_reducible refine c_mt ?_
  | ((with_reducible refine' c_mtO ?h0 ?_); (case h0 => assumption))
  | ((with_reducible refine' c_aug ?h0 ?_); (case h0 => rfl))
  | ((with_reducible refine' c_augL ?h0 ?_); (case h0 => rfl))
  | with_reducible refine c_ip ?_
  | with_reducible refine c_bm ?_
  | with_reducible refine c_bm0 ?_
  | ((with_reducible refine' c_ty ?h0 ?_); (case h0 => assumption))
  | with_reducible refine g_sub ?_
  | with_reducible refine g_name ?_
  | with_reducible refine g_nil ?_
  | with_reducible refine g_cons ?_
  | ((with_reducible refine' g_tup ?h0 ?h1 ?_); (case h0 => first | assumption | exact SqT.of upd_same); (case h1 => rfl))
  | with_reducible refine c_tt ?_
  | with_reducible refine c_ff ?_
  | with_reducible refine c_nt ?_
  | with_reducible refine c_nf ?_
  | with_reducible refine c_brk ?_)
local macro_rules | `(tactic| walk_at "go") => `(tactic| repeat (walk_at "st"))
section
/-! Data of a meter; is_whole, is_row, arrow_gain. -/
structure MD where
  costs : List Int
  ar : List (Nat × Nat)
  first : Int
  ch : List Int
def MD.g (M : MD) (k : Nat) : Int := M.ch[k]?.getD 0 - M.costs[tlOf M.ar k]?.getD 0
def arD (p : Nat × Nat) : PyData := .tuple [dN p.1, dN p.2]
structure MD.Ok (M : MD) : Prop where
  n1 : 1 ≤ M.costs.length
  n2 : M.costs.length ≤ 16
  m1 : M.ar.length ≤ 32
  ch : M.ch.length = M.ar.length
  arr : ∀ p ∈ M.ar, p.1 < M.costs.length ∧ p.2 < M.costs.length
def ChartAt (K : PySem.W.Frag) (H : Hp) (c : Addr) (costs : List Int) (ar : List (Nat × Nat)) : Prop :=
  ∃ dx fs tc ta xs, H c = some (.ins (He.ga K "Chart") dx fs) ∧ fs.lookup ("costs" : Str) = some (.ref tc) ∧ fs.lookup ("arrows" : Str) = some (.ref ta) ∧ fs.lookup ("outs" : Str) = none ∧ SqT K H tc (costs.map V.int) ∧ SqT K H ta xs ∧ DpAll K H xs (ar.map arD)
theorem ChartAt.mono {K : PySem.W.Frag} {H H' : Hp} {c : Addr} {costs : List Int} {ar : List (Nat × Nat)} (e : Same H H') (h : ChartAt K H c costs ar) : ChartAt K H' c costs ar := by
  obtain ⟨dx, fs, tc, ta, xs, h1, h2, h3, h4, h5, h6, h7⟩ := h
  exact ⟨dx, fs, tc, ta, xs, e _ _ h1, h2, h3, h4, e.tup h5, e.tup h6, h7.mono e⟩
/-- a meter, its parts by their addresses -/
structure MO (K : PySem.W.Frag) (H : Hp) (me c tc ta tch : Addr) (xs : List V) (M : MD) : Prop where
  chart : FldAt K H me "chart" (.ref c)
  first : FldAt K H me "first" (.int M.first)
  charges : FldAt K H me "charges" (.ref tch)
  costs : FldAt K H c "costs" (.ref tc)
  arrows : FldAt K H c "arrows" (.ref ta)
  tcosts : SqA K H tc (M.costs.map V.int)
  tar : SqA K H ta xs
  tchs : SqA K H tch (M.ch.map V.int)
  star : SqT K H ta xs
  scosts : SqT K H tc (M.costs.map V.int)
  schs : SqT K H tch (M.ch.map V.int)
  dar : DpAll K H xs (M.ar.map arD)
  cls : ∃ dx fs, H c = some (.ins (He.ga K "Chart") dx fs) ∧ fs.lookup ("outs" : Str) = none
  mls : ∃ dx fs, H me = some (.ins (He.ga K "Meter") dx fs) ∧ fs.lookup ("charged" : Str) = none ∧ fs.lookup ("lead_behind" : Str) = none ∧ fs.lookup ("with_first" : Str) = none
  chat : ChartAt K H c M.costs M.ar
theorem MO.mono {K : PySem.W.Frag} {H H' : Hp} {me c tc ta tch : Addr} {xs : List V} {M : MD} (e : Same H H') (h : MO K H me c tc ta tch xs M) : MO K H' me c tc ta tch xs M where
  chart := h.chart.mono e
  first := h.first.mono e
  charges := h.charges.mono e
  costs := h.costs.mono e
  arrows := h.arrows.mono e
  tcosts := h.tcosts.mono e
  tar := h.tar.mono e
  tchs := h.tchs.mono e
  star := e.tup h.star
  scosts := e.tup h.scosts
  schs := e.tup h.schs
  dar := h.dar.mono e
  cls := let ⟨dx, fs, h1, h2⟩ := h.cls; ⟨dx, fs, e _ _ h1, h2⟩
  mls := let ⟨dx, fs, h1, h2⟩ := h.mls; ⟨dx, fs, e _ _ h1, h2⟩
  chat := h.chat.mono e
def MeterAt (K : PySem.W.Frag) (H : Hp) (me : Addr) (M : MD) : Prop := ∃ c tc ta tch xs, MO K H me c tc ta tch xs M
theorem MeterAt.mono {K : PySem.W.Frag} {H H' : Hp} {me : Addr} {M : MD} (e : Same H H') (h : MeterAt K H me M) : MeterAt K H' me M :=
  let ⟨c, tc, ta, tch, xs, h⟩ := h
  ⟨c, tc, ta, tch, xs, h.mono e⟩
theorem atI_map {α : Type} {f : α → V} {l : List α} {k : Nat} {x : α} (h : l[k]? = some x) : atI (l.map f) (k : Int) = some (f x) := atI_nat (by rw [List.getElem?_map, h]; rfl)
/-- an arrow of the meter -/
theorem MO.arrow {K : PySem.W.Frag} {H : Hp} {me c tc ta tch : Addr} {xs : List V} {M : MD} (h : MO K H me c tc ta tch xs M) {k : Nat} {p : Nat × Nat} (e : M.ar[k]? = some p) :
    ∃ a, xs[k]? = some (.ref a) ∧ atI xs (k : Int) = some (.ref a) ∧ SqA K H a [vN p.1, vN p.2] ∧ SqT K H a [vN p.1, vN p.2] := by
  obtain ⟨v, h1, h2⟩ := h.dar.get (i := k) (d := arD p) (by rw [List.getElem?_map, e]; rfl)
  obtain ⟨a, ys, rfl, h3, h4⟩ := h2.tupE
  have h5 : ys = [vN p.1, vN p.2] := DpAll.nats (is := [p.1, p.2]) h4
  subst h5
  exact ⟨a, h1, atI_nat h1, .inr h3, h3⟩
section
variable {P : Program} {w : World} {K : PySem.W.Frag} {mg : Str → Option Value} {base : Heap}
/-! ### is_whole -/
theorem kb_ii : kitB "int" "int" = some true := by decide +kernel
theorem kb_ib : kitB "int" "bool" = some false := by decide +kernel
theorem c_isi {x : V} {a b : String} {r : Bool} {H : Hp} {Q : VK} (hx : TyX K H x (.type a)) (hk : kitB a b = some r) (q : Q (.bl r) H) : rIsi K [x, .ty b] H Q := ⟨x, .ty b, .type a, .type b, r, rfl, .ty b, hx, kit_ty hk, q⟩
def spWhole : Sp := fun vs H Q _ => ∃ i lo hi : Int, vs = [.int i, .int lo, .int hi] ∧ Q (.bl (decide (lo ≤ i ∧ i ≤ hi))) H
theorem sc_is_whole : FnScope ["thing", "low", "high"] ["thing", "low", "high"] (defScope s_is_whole) := ⟨rfl, rfl, rfl, by decide +kernel, rfl, by decide +kernel, by decide +kernel⟩
theorem ok_is_whole (T : Tx K mg) : Fn P w K mg base 1 "is_whole" ["thing", "low", "high"] (spWhole) := by
  refine fn_mk (st := s_is_whole) T.f_is_whole T.g_is_whole sc_is_whole (fun _ _ _ _ _ _ us hl => match us, hl with | [_, _, _], _ => rfl) ?len (fun cdv A outer s H vs Q E hr h => ?body)
  case len => exact fun vs H Q E ⟨i, lo, hi, e, _⟩ => by rw [e]; rfl
  case body =>
    obtain ⟨i, lo, hi, rfl, q⟩ := h
    refine ⟨_, (pss_one (ps_ret (pe_and (pe_callB (kIsi K) rfl T.z_isinstance bt_isinstance (pa_cons (pv 0) (pa_cons (pe_bltn (v := .ty "int") rfl T.z_int bt_int rfl) pa_nil))) (pe_and (pe_not (pe_callB (kIsi K) rfl T.z_isinstance bt_isinstance (pa_cons (pv 0) (pa_cons (pe_bltn (v := .ty "bool") rfl T.z_bool bt_bool rfl) pa_nil)))) (pe_one (pe_chain op_le op_le (pv 1) (pv 0) (pv 2))))))), ?_⟩
    show (_ : TS) { nx := fun _ H' => Q .non H', rt := Q } ([some (.int i), some (.int lo), some (.int hi)] : L2.St) H
    walk_at "go"
    refine c_isi (.base (.int i)) kb_ii ?_
    walk_at "go"
    refine c_isi (.base (.int i)) kb_ib ?_
    walk_at "go"
    refine d2 (fun h1 => ?_) fun h1 => ?_
    · walk_at "go"
      have e : decide (i ≤ hi) = decide (lo ≤ i ∧ i ≤ hi) := by simp [h1]
      rw [e]
      exact q
    · have e : decide (lo ≤ i ∧ i ≤ hi) = false := by simp [h1]
      rw [e] at q
      exact q
end
end
section
/-! is_row, arrow_gain, check_place, outs. -/
section
variable {P : Program} {w : World} {K : PySem.W.Frag} {mg : Str → Option Value} {base : Heap}
theorem kb_ll : kitB "list" "list" = some true := by decide +kernel
theorem kb_tl : kitB "tuple" "list" = some false := by decide +kernel
theorem kb_tt : kitB "tuple" "tuple" = some true := by decide +kernel
theorem tyx_L {H : Hp} {a : Addr} {xs : List V} (h : SqL K H a xs) : TyX K H (.ref a) (.type "list") := by
  rcases h with (h | ⟨o, h⟩) | ⟨o, its, n, h, hc, _⟩
  · exact .base (.lst h)
  · exact .base (.frz h)
  · exact .kList h hc
theorem tyx_T {H : Hp} {a : Addr} {xs : List V} (h : SqT K H a xs) : TyX K H (.ref a) (.type "tuple") := by
  rcases h with (h | ⟨o, h⟩) | ⟨o, its, n, h, hc, _⟩
  · exact .base (.tup h)
  · exact .fTuple h
  · exact .kTuple h hc
theorem c_isLT {H : Hp} {a tp : Addr} {xs : List V} {Q : VK} (h : SqA K H a xs) (ht : H tp = some (.tup [.ty "list", .ty "tuple"])) (q : Q (.bl true) H) : rIsiT K [.ref a, .ref tp] H Q := by
  rcases h with h | h
  · exact ⟨_, tp, _, .type "list", _, true, rfl, ht, .cons (.ty _) (.cons (.ty _) .nil), tyx_L h, kitAny_cons (kit_ty kb_ll) (fun z => nomatch z) fun _ => rfl, q⟩
  · exact ⟨_, tp, _, .type "tuple", _, true, rfl, ht, .cons (.ty _) (.cons (.ty _) .nil), tyx_T h, kitAny_cons (kit_ty kb_tl) (fun _ => kitAny_cons (kit_ty kb_tt) (fun z => nomatch z) fun _ => rfl) (fun z => nomatch z), q⟩
theorem c_len {H : Hp} {a : Addr} {xs : List V} {Q : VK} (h : SqA K H a xs) (q : Q (.int (xs.length : Nat)) H) : rLen K [.ref a] H Q := ⟨a, xs, rfl, h, q⟩
def spRow (K : PySem.W.Frag) : Sp := fun vs H Q _ => ∃ (a : Addr) (xs : List V) (lo hi : Int), vs = [.ref a, .int lo, .int hi] ∧ SqA K H a xs ∧ ∀ H', Same H H' → Q (.bl (decide (lo ≤ (xs.length : Int) ∧ (xs.length : Int) ≤ hi))) H'
theorem sc_is_row : FnScope ["thing", "least", "most"] ["thing", "least", "most"] (defScope s_is_row) := ⟨rfl, rfl, rfl, by decide +kernel, rfl, by decide +kernel, by decide +kernel⟩
theorem ok_is_row (T : Tx K mg) : Fn P w K mg base 1 "is_row" ["thing", "least", "most"] (spRow K) := by
  refine fn_mk (st := s_is_row) T.f_is_row T.g_is_row sc_is_row (fun _ _ _ _ _ _ us hl => match us, hl with | [_, _, _], _ => rfl) ?len (fun cdv A outer s H vs Q E hr h => ?body)
  case len => exact fun vs H Q E ⟨a, xs, lo, hi, e, _⟩ => by rw [e]; rfl
  case body =>
    obtain ⟨a, xs, lo, hi, rfl, hs, q⟩ := h
    refine ⟨_, (pss_one (ps_ret (pe_and (pe_callB (kIsiT K) rfl T.z_isinstance bt_isinstance (pa_cons (pv 0) (pa_cons (pe_tup (pa_cons (pe_bltn (v := .ty "list") rfl T.z_list bt_list rfl) (pa_cons (pe_bltn (v := .ty "tuple") rfl T.z_tuple bt_tuple rfl) pa_nil))) pa_nil))) (pe_one (pe_chain op_le op_le (pv 1) (pe_callB (kLen K) rfl T.z_len bt_len (pa_cons (pv 0) pa_nil)) (pv 2)))))), ?_⟩
    show (_ : TS) { nx := fun _ H' => Q .non H', rt := Q } ([some (.ref a), some (.int lo), some (.int hi)] : L2.St) H
    walk_at "go"
    refine ⟨by show 2 ≤ sizeLine; decide, fun p hp => ?_⟩
    have e1 := Same.new (o := .tup [.ty "list", .ty "tuple"]) hp
    have hs1 := hs.mono e1
    walk_at "go"
    refine c_isLT hs1 upd_same ?_
    walk_at "go"
    refine c_len hs1 ?_
    walk_at "go"
    refine d2 (fun h1 => ?_) fun h1 => ?_
    · walk_at "go"
      have e : decide ((xs.length : Int) ≤ hi) = decide (lo ≤ (xs.length : Int) ∧ (xs.length : Int) ≤ hi) := by simp [h1]
      rw [e]
      exact q _ e1
    · have e : decide (lo ≤ (xs.length : Int) ∧ (xs.length : Int) ≤ hi) = false := by simp [h1]
      rw [e] at q
      exact q _ e1
/-! ### arrow_gain -/
def spGain (K : PySem.W.Frag) : Sp := fun vs H Q _ => ∃ (me : Addr) (M : MD) (k : Nat), vs = [.ref me, vN k] ∧ MeterAt K H me M ∧ M.Ok ∧ k < M.ar.length ∧ Q (.int (M.g k)) H
theorem MD.Ok.tl {M : MD} (ok : M.Ok) {k : Nat} {p : Nat × Nat} (e : M.ar[k]? = some p) : tlOf M.ar k = p.1 ∧ hdOf M.ar k = p.2 ∧ p.1 < M.costs.length ∧ p.2 < M.costs.length := by
  have := ok.arr p (List.mem_of_getElem? e)
  exact ⟨tlOf_of (h := p.2) (a := p.1) e, hdOf_of (h := p.2) (a := p.1) e, this.1, this.2⟩
theorem getElem_some {α : Type} {l : List α} {k : Nat} (h : k < l.length) : ∃ x, l[k]? = some x := ⟨l[k], by simp [h]⟩
theorem sc_arrow_gain : FnScope ["meter", "arrow"] ["meter", "arrow"] (defScope s_arrow_gain) := ⟨rfl, rfl, rfl, by decide +kernel, rfl, by decide +kernel, by decide +kernel⟩
theorem ok_arrow_gain (T : Tx K mg) : Fn P w K mg base 1 "arrow_gain" ["meter", "arrow"] (spGain K) := by
  refine fn_mk (st := s_arrow_gain) T.f_arrow_gain T.g_arrow_gain sc_arrow_gain (fun _ _ _ _ _ _ us hl => match us, hl with | [_, _], _ => rfl) ?len (fun cdv A outer s H vs Q E hr h => ?body)
  case len => exact fun vs H Q E ⟨me, M, k, e, _⟩ => by rw [e]; rfl
  case body =>
    obtain ⟨me, M, k, rfl, ⟨c, tc, ta, tch, xs, mo⟩, ok, hk, q⟩ := h
    refine ⟨_, (pss_one (ps_ret (pe_op op_sub (pe_ix (kIx K) (kFld K (pv 0)) (pv 1) (fun _ _ => rfl)) (pe_ix (kIx K) (kFld K (kFld K (pv 0))) (pe_ix (kIx K) (pe_ix (kIx K) (kFld K (kFld K (pv 0))) (pv 1) (fun _ _ => rfl)) pe_int (fun _ _ => rfl)) (fun _ _ => rfl))))), ?_⟩
    show (_ : TS) { nx := fun _ H' => Q .non H', rt := Q } ([some (.ref me), some (vN k)] : L2.St) H
    obtain ⟨f1, f2, f3, f4, f5, f6, f7, f8, f9, fA, fB, f10⟩ := id mo
    obtain ⟨p, hp⟩ := getElem_some hk
    obtain ⟨a, ha, ha2, ha3, _⟩ := mo.arrow hp
    obtain ⟨t1, t2, t3, t4⟩ := ok.tl hp
    obtain ⟨x, hx⟩ := getElem_some (l := M.ch) (k := k) (by rw [ok.ch]; exact hk)
    obtain ⟨y, hy⟩ := getElem_some t3
    have g1 : atI (M.ch.map V.int) (k : Int) = some (.int x) := atI_map hx
    have g2 : atI ([vN p.1, vN p.2] : List V) 0 = some (vN p.1) := atI_nat (j := 0) rfl
    have g3 : atI (M.costs.map V.int) (p.1 : Int) = some (.int y) := atI_map hy
    walk_at "go"
    have e : M.g k = x - y := by
      unfold MD.g
      rw [t1, hx, hy]
      rfl
    rw [e] at q
    exact q
/-! ### check_place, outs -/
def spPlace (K : PySem.W.Frag) : Sp := fun vs H Q _ => ∃ (c : Addr) (costs : List Int) (ar : List (Nat × Nat)) (p : Nat), vs = [.ref c, vN p] ∧ ChartAt K H c costs ar ∧ p < costs.length ∧ Q (vN p) H
theorem sc_check_place : FnScope ["chart", "place"] ["chart", "place"] (defScope s_check_place) := ⟨rfl, rfl, rfl, by decide +kernel, rfl, by decide +kernel, by decide +kernel⟩
theorem ok_check_place (T : Tx K mg) (G_is_whole : Fn P w K mg base 1 "is_whole" ["thing", "low", "high"] spWhole) : Fn P w K mg base 2 "check_place" ["chart", "place"] (spPlace K) := by
  refine fn_mk (st := s_check_place) T.f_check_place T.g_check_place sc_check_place (fun _ _ _ _ _ _ us hl => match us, hl with | [_, _], _ => rfl) ?len (fun cdv A outer s H vs Q E hr h => ?body)
  case len => exact fun vs H Q E ⟨c, costs, ar, p, e, _⟩ => by rw [e]; rfl
  case body =>
    obtain ⟨c, costs, ar, p, rfl, hc, hp, q⟩ := h
    refine ⟨_, (pss_cons (ps_if (pt_not (pt_val (pe_fn G_is_whole hr rfl (pa_cons (pv 1) (pa_cons pe_int (pa_cons (pe_op op_sub (pe_callB (kLen K) rfl T.z_len bt_len (pa_cons (kFld K (pv 0)) pa_nil)) pe_int) pa_nil)))))) (pss_one ps_never) pss_nil)
      (pss_one (ps_ret (pv 1)))), ?_⟩
    show (_ : TS) { nx := fun _ H' => Q .non H', rt := Q } ([some (.ref c), some (vN p)] : L2.St) H
    obtain ⟨dx, fs, tc, ta, xs, h1, h2, h3, h4, h5, h6, h7⟩ := hc
    have f1 : FldAt K H c "costs" (.ref tc) := ⟨_, _, _, h1, T.c_Chart, T.n_Chart_costs, h2⟩
    walk_at "go"
    refine c_len (.inr h5) ?_
    walk_at "go"
    refine ⟨_, _, _, rfl, ?_⟩
    walk_at "go"
    rw [List.length_map]
    refine c_ndt (by omega) ?_
    walk_at "go"
    exact q
def spOuts (K : PySem.W.Frag) : Sp := fun vs H Q _ => ∃ (c : Addr) (costs : List Int) (ar : List (Nat × Nat)) (p : Nat), vs = [.ref c, vN p] ∧ ChartAt K H c costs ar ∧ p < costs.length ∧ ar.length ≤ 32 ∧
  ∀ a H', Same H H' → SqT K H' a ((outsOf ar p).map vN) → Q (.ref a) H'
theorem outs_step {ar : List (Nat × Nat)} {p i : Nat} : (((List.range (i + 1)).filter fun k => tlOf ar k == p)) = ((List.range i).filter fun k => tlOf ar k == p) ++ (if tlOf ar i = p then [i] else []) := by
  rw [List.range_succ, List.filter_append]
  by_cases h : tlOf ar i = p <;> simp [h]
theorem sc_Chart_outs : FnScope ["self", "place", "number", "arrow"] ["self", "place"] (defScope s_Chart_outs) := ⟨rfl, rfl, rfl, by decide +kernel, rfl, by decide +kernel, by decide +kernel⟩
theorem ok_Chart_outs (T : Tx K mg) (G_check_place : Fn P w K mg base 2 "check_place" ["chart", "place"] (spPlace K)) : Mt P w K mg base 3 "Chart" "outs" ["self", "place"] (spOuts K) := by
  refine mt_mk (st := s_Chart_outs) T.f_Chart_outs sc_Chart_outs (fun _ _ _ _ _ _ us hl => match us, hl with | [_, _], _ => rfl) ?len (fun cdv A outer s H vs Q E hr h => ?body)
  case len => exact fun vs H Q E ⟨c, costs, ar, p, e, _⟩ => by rw [e]; rfl
  case body =>
    obtain ⟨c, costs, ar, p, rfl, hc, hp, hm, q⟩ := h
    refine ⟨_, (pss_cons (ps_expr (pe_fn G_check_place hr rfl (pa_cons (pv 0) (pa_cons (pv 1) pa_nil))))
      (pss_one (ps_ret (pe_callTy (kTup K) rfl T.z_tuple bt_tuple (pa_cons (pe_lc (own := [("number", 2), ("arrow", 3)]) rfl sc_Chart_outs.nd (kEnum K rfl T.z_enumerate (pa_cons (kFld K (pv 0)) pa_nil)) (blkOk_by (own := [("number", 2), ("arrow", 3)]) (N := ["self", "place", "number", "arrow"]) (sc := defScope s_Chart_outs) (by decide +kernel)) (fun _ _ _ _ _ => (kGTup K (n := 2) (pgs_cons (pg_name (i := 2) sc_Chart_outs.nd rfl (Or.inl rfl)) (pgs_cons (pg_name (i := 3) sc_Chart_outs.nd rfl (Or.inl rfl)) pgs_nil)))) (fun _ _ _ _ _ => (pts_one (pt_cmpR op_eq (pe_ix (kIx K) (pv 3) pe_int (fun _ _ => rfl)) (pv 1) (nomark _)))) (fun _ _ _ _ _ => (pv 2))) pa_nil))))), ?_⟩
    show (_ : TS) { nx := fun _ H' => Q .non H', rt := Q } ([some (.ref c), some (vN p), none, none] : L2.St) H
    obtain ⟨dx, fs, tc, ta, xs, h1, h2, h3, h4, h5, h6, h7⟩ := id hc
    have f1 : FldAt K H c "arrows" (.ref ta) := ⟨_, _, _, h1, T.c_Chart, T.n_Chart_arrows, h3⟩
    walk_at "go"
    refine ⟨_, _, _, _, rfl, hc, hp, ?_⟩
    walk_at "go"
    refine l_enum ?_
    walk_at "go"
    have hl : xs.length = ar.length := by rw [h7.len, List.length_map]
    refine ovET h6 (lp walk_et (fun H' e => e.tup h6) (fun i acc => acc = ((List.range i).filter fun k => tlOf ar k == p).map vN) rfl ?_ ?_)
    · rintro D i x acc H1 H2 nD hi hla hD e1 hR ⟨T1, x1, y1, rfl, hT, rfl, hx1, hy1⟩
      cases hx1
      replace hy1 : xs[i]? = some y1 := hy1
      have hi2 : i < ar.length := by omega
      obtain ⟨pr, hpr⟩ := getElem_some hi2
      obtain ⟨v, g1, g2⟩ := h7.get (i := i) (d := arD pr) (by rw [List.getElem?_map, hpr]; rfl)
      rw [hy1] at g1
      cases g1
      obtain ⟨aa, ys, rfl, g3, g4⟩ := g2.tupE
      have g5 : ys = [vN pr.1, vN pr.2] := DpAll.nats (is := [pr.1, pr.2]) g4
      subst g5
      have e2 : Same H1 (upd H1 T1 (.tup [vN i, .ref aa])) := Same.new hT
      have g6 : SqA K (upd H1 T1 (.tup [vN i, .ref aa])) aa [vN pr.1, vN pr.2] := .inr ((e1.trans e2).tup g3)
      have g7 : atI ([vN pr.1, vN pr.2] : List V) 0 = some (vN pr.1) := atI_nat (j := 0) rfl
      have et : tlOf ar i = pr.1 := tlOf_of (h := pr.2) (a := pr.1) hpr
      walk_at "go"
      refine ⟨rfl, ?_⟩
      walk_at "go"
      refine d2 (fun h1 => ?_) fun h1 => ?_
      · walk_at "go"
        refine Lp.add nD hD e1 e2 hla ?_ (by omega)
        have et2 : tlOf ar i = p := by omega
        rw [hR, outs_step, if_pos et2, List.map_append]
        rfl
      · refine Lp.skip hD e1 e2 hla ?_
        have et2 : ¬ tlOf ar i = p := by omega
        rw [hR, outs_step, if_neg et2, List.append_nil]
    · intro D acc H1 nD e1 hD hla hR
      walk_at "go"
      refine ⟨D, acc, rfl, .inl ⟨.of hD, fun l hl => ?_⟩⟩
      refine q l _ (e1.trans (Same.new hl)) (.of ?_)
      rw [upd_same, hR]
      show some (HO.tup (((List.range xs.length).filter fun k => tlOf ar k == p).map vN)) = some (HO.tup ((outsOf ar p).map vN))
      unfold outsOf
      rw [show xs.length = ar.length by omega]
end
end
section
/-! rest_rows, lead_rows. -/
section
variable {P : Program} {w : World} {K : PySem.W.Frag} {mg : Str → Option Value} {base : Heap}
/-- rows R 0 .. R len: a list of lists, all of them own -/
def RowsAt (own : Addr → Prop) (H : Hp) (rp : Addr) (R : Nat → List (Option Int)) (len : Nat) : Prop :=
  own rp ∧ ∃ ras : List Addr, H rp = some (.lst (ras.map V.ref)) ∧ ras.length = len + 1 ∧ ∀ j ra, ras[j]? = some ra → own ra ∧ ra ≠ rp ∧ H ra = some (.lst ((R j).map vO))
theorem RowsAt.mono {own : Addr → Prop} {H H' : Hp} {rp : Addr} {R : Nat → List (Option Int)} {len : Nat} (h : RowsAt own H rp R len) (e : ∀ a o, own a → H a = some o → H' a = some o) : RowsAt own H' rp R len := by
  obtain ⟨h1, ras, h2, h3, h4⟩ := h
  exact ⟨h1, ras, e _ _ h1 h2, h3, fun j ra q => ⟨(h4 j ra q).1, (h4 j ra q).2.1, e _ _ (h4 j ra q).1 (h4 j ra q).2.2⟩⟩
theorem RowsAt.same {own : Addr → Prop} {H H' : Hp} {rp : Addr} {R : Nat → List (Option Int)} {len : Nat} (h : RowsAt own H rp R len) (e : Same H H') : RowsAt own H' rp R len := h.mono fun a o _ => e a o
/-- one row of them -/
theorem RowsAt.row {own : Addr → Prop} {H : Hp} {rp : Addr} {R : Nat → List (Option Int)} {len j : Nat} (h : RowsAt own H rp R len) (hj : j ≤ len) :
    ∃ (ras : List Addr) (ra : Addr), SqA K H rp (ras.map V.ref) ∧ atI (ras.map V.ref) (j : Int) = some (.ref ra) ∧ SqA K H ra ((R j).map vO) ∧ own ra ∧ ra ≠ rp ∧ H ra = some (.lst ((R j).map vO)) := by
  obtain ⟨h1, ras, h2, h3, h4⟩ := h
  obtain ⟨ra, hra⟩ := getElem_some (l := ras) (k := j) (by omega)
  obtain ⟨o, n, e⟩ := h4 j ra hra
  exact ⟨ras, ra, .lst h2, atI_map hra, .lst e, o, n, e⟩
def moreR (R : Nat → List (Option Int)) (len : Nat) (row : List (Option Int)) : Nat → List (Option Int) := fun j => if j = len + 1 then row else R j
theorem moreR_new {R : Nat → List (Option Int)} {len : Nat} {row : List (Option Int)} : moreR R len row (len + 1) = row := if_pos rfl
theorem moreR_old {R : Nat → List (Option Int)} {len j : Nat} {row : List (Option Int)} (h : j ≤ len) : moreR R len row j = R j := if_neg (by omega)
/-- one more row -/
theorem RowsAt.more {own : Addr → Prop} {H : Hp} {rp ra : Addr} {R : Nat → List (Option Int)} {len : Nat} {row : List (Option Int)} {xs : List V} (h : RowsAt own H rp R len) (hx : H rp = some (.lst xs)) (ho : own ra) (hr : H ra = some (.lst (row.map vO))) (hn : ra ≠ rp) : RowsAt own (upd H rp (.lst (xs ++ [.ref ra]))) rp (moreR R len row) (len + 1) := by
  obtain ⟨h1, ras, h2, h3, h4⟩ := h
  rw [hx] at h2
  have ex : xs = ras.map V.ref := by cases h2; rfl
  refine ⟨h1, ras ++ [ra], ?_, by simp [h3], fun j r q => ?_⟩
  · rw [upd_same, ex]
    simp
  · by_cases e : j = len + 1
    · subst e
      rw [List.getElem?_append_right (by omega), h3] at q
      simp at q
      subst q
      refine ⟨ho, hn, ?_⟩
      rw [upd_ne hn, moreR_new]
      exact hr
    · have lt : j < ras.length := by
        have := (List.getElem?_eq_some_iff.mp q).1
        simp at this
        omega
      rw [List.getElem?_append_left lt] at q
      refine ⟨(h4 j r q).1, (h4 j r q).2.1, ?_⟩
      rw [upd_ne (h4 j r q).2.1, moreR_old (by omega)]
      exact (h4 j r q).2.2
theorem atI_row {row : List (Option Int)} {v : Nat} {o : Option Int} (h : row[v]? = some o) : atI (row.map vO) (v : Int) = some (vO o) := atI_map h
theorem rowF_of {row : List (Option Int)} {v : Nat} {o : Option Int} (h : row[v]? = some o) : rowF row v = o := by unfold rowF; rw [h]; rfl
theorem vO_non (o : Option Int) : decide (vO o = V.non) = decide (o = none) := by cases o <;> rfl
theorem small1 {z g : Int} (h : -2 < z ∧ z < 2) : CMul z g := .inl ⟨by omega, by omega⟩
theorem rep_none (k : Nat) : (List.replicate k [V.non]).flatten = (List.replicate k (none : Option Int)).map vO := by
  induction k with
  | zero => rfl
  | succ k ih => rw [List.replicate_succ, List.flatten_cons, ih, List.replicate_succ]; rfl
def spRest (K : PySem.W.Frag) : Sp := fun vs H Q _ => ∃ (me lr : Addr) (M : MD) (last : List (Option Int)) (lo len : Nat) (s : Int) (own : Addr → Prop), vs = [.ref me, .ref lr, vN lo, vN len, .int s] ∧ MeterAt K H me M ∧ M.Ok ∧ H lr = some (.lst (last.map vO)) ∧ last.length = M.costs.length ∧ len ≤ 1000 ∧ (-2 < s ∧ s < 2) ∧
  own lr ∧ (∀ a, H a = none → own a) ∧
  ∀ rp R H', Same H H' → H rp = none → RowsAt own H' rp R len → (∀ j, j ≤ len → RowB M.costs.length (Rest M.ar lo M.g s (rowF last) j) (R j)) → Q (.ref rp) H'
theorem sc_rest_rows : FnScope ["meter", "last_row", "lowest", "length", "sense", "rows", "k", "row", "arrow", "tail", "head", "worth"] ["meter", "last_row", "lowest", "length", "sense"] (defScope s_rest_rows) := ⟨rfl, rfl, rfl, by decide +kernel, rfl, by decide +kernel, by decide +kernel⟩
theorem ok_rest_rows (T : Tx K mg) (G_arrow_gain : Fn P w K mg base 1 "arrow_gain" ["meter", "arrow"] (spGain K)) : Fn P w K mg base 2 "rest_rows" ["meter", "last_row", "lowest", "length", "sense"] (spRest K) := by
  refine fn_mk (st := s_rest_rows) T.f_rest_rows T.g_rest_rows sc_rest_rows (fun _ _ _ _ _ _ us hl => match us, hl with | [_, _, _, _, _], _ => rfl) ?len (fun cdv A outer s H vs Q E hr h => ?body)
  case len => exact fun vs H Q E ⟨me, lr, M, last, lo, len, s, own, e, _⟩ => by rw [e]; rfl
  case body =>
    obtain ⟨me, lr, M, last, lo, len, z, own, rfl, hM, ok, hlr, hll, hlen, hz, olr, onew, q⟩ := h
    refine ⟨_, (pss_cons (ps_set (i := 5) sc_rest_rows.nd rfl (Or.inl rfl) (pe_lst (pa_cons (pv 1) pa_nil)))
      (pss_cons (ps_for PassesOwn.never rfl (pi_range1 rfl T.z_range (pa_cons (pv 3) pa_nil)) (pg_name (i := 6) sc_rest_rows.nd rfl (Or.inl rfl)) (pss_cons (ps_set (i := 7) sc_rest_rows.nd rfl (Or.inl rfl) (pe_op op_rep (pe_lst (pa_cons pe_non pa_nil)) (pe_callB (kLen K) rfl T.z_len bt_len (pa_cons (pv 1) pa_nil))))
      (pss_cons (ps_for PassesOwn.never rfl (kEnum K rfl T.z_enumerate (pa_cons (kFld K (kFld K (pv 0))) pa_nil)) (kGTup K (n := 2) (pgs_cons (pg_name (i := 8) sc_rest_rows.nd rfl (Or.inl rfl)) (pgs_cons (kGTup K (n := 2) (pgs_cons (pg_name (i := 9) sc_rest_rows.nd rfl (Or.inl rfl)) (pgs_cons (pg_name (i := 10) sc_rest_rows.nd rfl (Or.inl rfl)) pgs_nil))) pgs_nil))) (pss_one (ps_if (PW.pt (pw_and (pt_cmpR op_ge (pv 9) (pv 2) (nomark _)) (pw_and1 (pt_cmpR op_notN1 (pe_ix (kIx K) (pe_ix (kIx K) (pv 5) (pv 6) (fun _ _ => rfl)) (pv 10) (fun _ _ => rfl)) pe_non (nomark _))))) (pss_cons (ps_set (i := 11) sc_rest_rows.nd rfl (Or.inl rfl) (pe_op op_add (pe_ix (kIx K) (pe_ix (kIx K) (pv 5) (pv 6) (fun _ _ => rfl)) (pv 10) (fun _ _ => rfl)) (pe_op op_mul (pv 4) (pe_fn G_arrow_gain hr rfl (pa_cons (pv 0) (pa_cons (pv 8) pa_nil))))))
      (pss_one (ps_if (PW.pt (pw_or (pt_cmpR op_isN1 (pe_ix (kIx K) (pv 7) (pv 9) (fun _ _ => rfl)) pe_non (nomark _)) (pw_or1 (pt_cmpR op_gt (pv 11) (pe_ix (kIx K) (pv 7) (pv 9) (fun _ _ => rfl)) (nomark _))))) (pss_one (ps_asg (pv 11) (pg_sub (pv 7) (pv 9) set_list))) pss_nil))) pss_nil)))
      (pss_one (ps_expr (kApp K (pv 5) (pv 7)))))))
      (pss_one (ps_ret (pv 5))))), ?_⟩
    show (_ : TS) { nx := fun _ H' => Q .non H', rt := Q } ([some (.ref me), some (.ref lr), some (vN lo), some (vN len), some (.int z), none, none, none, none, none, none, none] : L2.St) H
    walk_at "go"
    refine ⟨by show 1 ≤ sizeLine; decide, fun rp nrp => ?_⟩
    have e0 : Same H (upd H rp (.lst [.ref lr])) := Same.new nrp
    have lrp : lr ≠ rp := ne_of_none hlr nrp
    refine c_seq (f_r1 ?_)
    walk_at "go"
    refine ovR1 (by omega) ?_
    have en : ((len : Int)).toNat = len := by omega
    rw [en]
    refine fo walk_range (fun k σ' H' => ∃ (R : Nat → List (Option Int)) (o6 o7 o8 o9 o10 o11 : Option V), σ' = [some (.ref me), some (.ref lr), some (vN lo), some (vN len), some (.int z), some (.ref rp), o6, o7, o8, o9, o10, o11] ∧ Same H H' ∧ RowsAt own H' rp R k ∧ ∀ j, j ≤ k → RowB M.costs.length (Rest M.ar lo M.g z (rowF last) j) (R j)) ?_ (fun _ _ _ _ _ => trivial) ?_ ?_
    · refine ⟨fun _ => last, none, none, none, none, none, none, rfl, e0, ⟨onew rp nrp, [lr], upd_same, rfl, fun j ra hj => ?_⟩, fun j hj => ?_⟩
      · cases j with
        | zero =>
          cases hj
          exact ⟨olr, lrp, by rw [upd_ne lrp]; exact hlr⟩
        | succ j => simp at hj
      · have : j = 0 := by omega
        subst this
        exact rest_first hll
    · rintro k x σ' H1 H1' hk ⟨R, o6, o7, o8, o9, o10, o11, rfl, e1, hR, hB⟩ ⟨rfl, rfl⟩
      simp only [Int.zero_add]
      walk_at "go"
      refine ⟨by show 1 ≤ sizeLine; decide, fun p1 np1 => ?_⟩
      have e2 : Same H1' (upd H1' p1 (.lst [.non])) := Same.new np1
      have hlr2 : SqA K (upd H1' p1 (.lst [.non])) lr (last.map vO) := .lst (e2 _ _ (e1 _ _ hlr))
      walk_at "go"
      refine c_len hlr2 ?_
      walk_at "go"
      refine c_rep upd_same ⟨by rw [List.length_map]; omega, by rw [List.length_map]; have := ok.n2; omega, by simp⟩ fun p2 np2 => ?_
      generalize hHb : upd H1' p1 (.lst [.non]) = Hb at *
      have eHb : Same H Hb := e1.trans e2
      rw [show ((List.map vO last).length : Int).toNat = M.costs.length by simp; omega, rep_none]
      walk_at "go"
      refine c_seq (f_enum ?_)
      have e3 : Same Hb (upd Hb p2 (.lst ((List.replicate M.costs.length none).map vO))) := Same.new np2
      obtain ⟨c, tc, ta, tch, xs, mo⟩ := hM
      have moB := mo.mono eHb
      obtain ⟨f1, f2, f3, f4, f5, f6, f7, f8, f9, fA, fB, f10, _⟩ := mo.mono (eHb.trans e3)
      walk_at "go"
      have hl : xs.length = M.ar.length := by rw [f10.len, List.length_map]
      have hRB : RowsAt own Hb rp R k := hR.same e2
      refine ovET f9 (fo walk_et (fun i σ'' H'' => ∃ (row : List (Option Int)) (o8 o9 o10 o11 : Option V), σ'' = [some (.ref me), some (.ref lr), some (vN lo), some (vN len), some (.int z), some (.ref rp), some (vN k), some (.ref p2), o8, o9, o10, o11] ∧ Same Hb H'' ∧ H'' p2 = some (.lst (row.map vO)) ∧ RowB M.costs.length (RestI M.ar lo M.g z (rowF (R k)) i) row) ?_ (fun i σ'' H'' _ ⟨row, _, _, _, _, _, e, _⟩ => e.tup moB.star) ?_ ?_)
      · exact ⟨_, o8, o9, o10, o11, rfl, e3, upd_same, rowB_none fun v w _ => restI_zero⟩
      · rintro i x σ'' H2 H3 hi ⟨row, o8, o9, o10, o11, rfl, e4, hp2, hrow⟩ ⟨T1, x1, y1, rfl, hT, rfl, hx1, hy1⟩
        cases hx1
        replace hy1 : xs[i]? = some y1 := hy1
        obtain ⟨pr, hpr⟩ := getElem_some (l := M.ar) (k := i) (by omega)
        obtain ⟨a, ha, _, _, ha4⟩ := moB.arrow hpr
        rw [hy1] at ha
        cases ha
        have e5 : Same H2 (upd H2 T1 (.tup [vN i, .ref a])) := Same.new hT
        have p2T : p2 ≠ T1 := ne_of_none hp2 hT
        have e45 := e4.trans e5
        have ta4 : SqT K (upd H2 T1 (.tup [vN i, .ref a])) a [vN pr.1, vN pr.2] := e45.tup ha4
        obtain ⟨t1, t2, t3, t4⟩ := ok.tl hpr
        obtain ⟨ras, ra, r1, r2, r3, r4, r5, r6⟩ := (hRB.same e45).row (K := K) (Nat.le_refl k)
        obtain ⟨oh, hoh, _⟩ := (hB k (Nat.le_refl k)).2 pr.2 t4
        have r7 := atI_row hoh
        obtain ⟨ot, hot, _⟩ := hrow.2 pr.1 t3
        have r8 := atI_row hot
        have hp2' : upd H2 T1 (.tup [vN i, .ref a]) p2 = some (.lst (row.map vO)) := e5 _ _ hp2
        have r9 : SqA K (upd H2 T1 (.tup [vN i, .ref a])) p2 (row.map vO) := .lst hp2'
        walk_at "go"
        refine d2 (fun h1 => ?_) fun h1 => ?_
        · walk_at "go"
          rw [vO_non]
          cases oh with
          | none =>
            refine c_ndt rfl ?_
            walk_at "go"
            exact ⟨row, _, _, _, _, rfl, e45, hp2', hrow.congr fun v w _ => restI_no hpr (fun q => q.2 (rowF_of hoh)) v w⟩
          | some x =>
            refine c_ndf (by simp) ?_
            replace r7 : atI ((R k).map vO) (pr.2 : Int) = some (.int x) := r7
            walk_at "go"
            refine ⟨me, M, i, rfl, ⟨c, tc, ta, tch, xs, moB.mono e45⟩, ok, by omega, ?_⟩
            refine c_I (small1 hz) ?_
            walk_at "go"
            rw [vO_non]
            have hq := restI_yes (g := M.g) (s := z) (lo := lo) (prev := R k) hpr (by omega) (rowF_of hoh)
            cases ot with
            | none =>
              refine c_dt rfl ?_
              walk_at "go"
              refine c_setL hp2' (by rw [List.length_map, hrow.1]; exact t3) ?_
              refine ⟨row.set pr.1 (some (x + z * M.g i)), _, _, _, _, rfl, Same.mut e45 np2, ?_, hrow.set hot (fun v w _ => hq v w) fun b eb => by cases eb⟩
              rw [upd_same, List.map_set]
              rfl
            | some b =>
              refine c_df (by simp) ?_
              replace r8 : atI (row.map vO) (pr.1 : Int) = some (.int b) := r8
              walk_at "go"
              refine d2 (fun h2 => ?_) fun h2 => ?_
              · walk_at "go"
                refine c_setL hp2' (by rw [List.length_map, hrow.1]; exact t3) ?_
                refine ⟨row.set pr.1 (some (x + z * M.g i)), _, _, _, _, rfl, Same.mut e45 np2, ?_, hrow.set hot (fun v w _ => hq v w) fun b' eb => by cases eb; exact h2⟩
                rw [upd_same, List.map_set]
                rfl
              · walk_at "go"
                exact ⟨row, _, _, _, _, rfl, e45, hp2', hrow.keep hot (fun v w _ => hq v w) h2⟩
        · walk_at "go"
          exact ⟨row, _, _, _, _, rfl, e45, hp2', hrow.congr fun v w _ => restI_no hpr (fun q => h1 (by omega)) v w⟩
      · rintro σ'' H2 ⟨row, o8, o9, o10, o11, rfl, e4, hp2, hrow⟩
        dsimp only
        have hR2 := hRB.same e4
        obtain ⟨ras, hras, hlen2, _⟩ := hR2.2
        obtain ⟨_, hrasB, _⟩ := hRB.2
        walk_at "go"
        refine c_app hras (by rw [List.length_map]; omega) ?_
        have p2rp : p2 ≠ rp := (ne_of_none hrasB np2).symm
        refine ⟨moreR R k row, _, _, _, _, _, _, rfl, Same.mut (eHb.trans e4) nrp, hR2.more hras (onew p2 (eHb.free np2)) hp2 p2rp, fun j hj => ?_⟩
        by_cases ej : j = k + 1
        · subst ej
          rw [moreR_new]
          rw [hl] at hrow
          exact rest_row ok.arr (hB k (Nat.le_refl k)) hrow
        · rw [moreR_old (by omega)]
          exact hB j (by omega)
    · rintro σ' H1 ⟨R, o6, o7, o8, o9, o10, o11, rfl, e1, hR, hB⟩
      dsimp only
      walk_at "go"
      exact q rp R H1 e1 nrp hR hB
end
end
end Pa
end
section
set_option Elab.async false
set_option linter.all false
set_option maxRecDepth 100000
set_option maxHeartbeats 4000000
namespace Pa
open PySem PySem.Spec PyProof.Rows L2
local macro_rules | `(tactic| walk_at "st") => `(tactic| first
  | ((with_reducible refine' c_var ?h0 ?_); (case h0 => rfl))
  | with_reducible refine c_c ?_
  | with_reducible refine c_op ?_
  | with_reducible refine c_un ?_
  | with_reducible refine c_I0 ?_
  | with_reducible refine c_U ?_
  | with_reducible refine c_eqI ?_
  | with_reducible refine c_neI ?_
  | with_reducible refine c_isN ?_
  | with_reducible refine c_notN ?_
  | ((with_reducible refine' c_ix2 ?h0 ?h1 ?_); (case h0 => assumption); (case h1 => assumption))
  | with_reducible refine c_fld ?_
  | ((with_reducible refine' c_fldv ?h0 ?_); (case h0 => assumption))
  | with_reducible refine c_bl ?_
  | with_reducible refine c_test ?_
  | with_reducible refine c_tB ?_
  | with_reducible refine c_and ?_
  | with_reducible refine c_or ?_
  | with_reducible refine c_not ?_
  | with_reducible refine c_notV ?_
  | with_reducible refine c_andV ?_
  | with_reducible refine c_orV ?_
  | with_reducible refine c_chain ?_
  | with_reducible refine c_if ?_
  | with_reducible refine c_nil ?_
  | with_reducible refine c_cons ?_
  | with_reducible refine c_fn ?_
  | with_reducible refine c_cb ?_
  | with_reducible refine c_tup ?_
  | with_reducible refine c_lst ?_
  | with_reducible refine c_asgL ?_
  | with_reducible refine c_asg ?_
  | with_reducible refine c_dropL ?_
  | with_reducible refine c_drop ?_
  | with_reducible refine c_asgG ?_
  | with_reducible refine c_asgGs ?_
  | with_reducible refine c_ret ?_
  | with_reducible refine c_ifL ?_
  | with_reducible refine c_ifS ?_
  | with_reducible refine c_nextL ?_
  | with_reducible refine c_setF ?_
  | with_reducible refine c_setFs ?_
  | with_reducible refine c_mk ?_
  | with_reducible refine c_tru ?_
  | with_reducible refine c_mt ?_
  | ((with_reducible refine' c_mtO ?h0 ?_); (case h0 => assumption))
  | ((with_reducible refine' c_aug ?h0 ?_); (case h0 => rfl))
  | ((with_reducible refine' c_augL ?h0 ?_); (case h0 => rfl))
  | with_reducible refine c_ip ?_
  | with_reducible refine c_bm ?_
  | with_reducible refine c_bm0 ?_
  | ((with_reducible refine' c_ty ?h0 ?_); (case h0 => assumption))
  | with_reducible refine g_sub ?_
  | with_reducible refine g_name ?_
  | with_reducible refine g_nil ?_
  | with_reducible refine g_cons ?_
  | ((with_reducible refine' g_tup ?h0 ?h1 ?_); (case h0 => first | assumption | exact SqT.of upd_same); (case h1 => rfl))
  | with_reducible refine c_tt ?_
  | with_reducible refine c_ff ?_
  | with_reducible refine c_nt ?_
  | with_reducible refine c_nf ?_
  | with_reducible refine c_brk ?_)
local macro_rules | `(tactic| walk_at "go") => `(tactic| repeat (walk_at "st"))
section
/-! lead_rows. -/
section
variable {P : Program} {w : World} {K : PySem.W.Frag} {mg : Str → Option Value} {base : Heap}
def spLeads (K : PySem.W.Frag) : Sp := fun vs H Q _ => ∃ (me : Addr) (M : MD) (s : Int), vs = [.ref me, .int s] ∧ MeterAt K H me M ∧ M.Ok ∧ (-2 < s ∧ s < 2) ∧
  ∀ rp R H', Same H H' → H rp = none → RowsAt (fun a => H a = none) H' rp R (M.costs.length - 1) → (∀ j, j ≤ M.costs.length - 1 → RowB M.costs.length (Lead M.ar M.g s M.first j) (R j)) → Q (.ref rp) H'
theorem sc_lead_rows : FnScope ["meter", "sense", "many", "rows", "k", "row", "arrow", "tail", "head", "worth"] ["meter", "sense"] (defScope s_lead_rows) := ⟨rfl, rfl, rfl, by decide +kernel, rfl, by decide +kernel, by decide +kernel⟩
theorem ok_lead_rows (T : Tx K mg) (G_arrow_gain : Fn P w K mg base 1 "arrow_gain" ["meter", "arrow"] (spGain K)) : Fn P w K mg base 2 "lead_rows" ["meter", "sense"] (spLeads K) := by
  refine fn_mk (st := s_lead_rows) T.f_lead_rows T.g_lead_rows sc_lead_rows (fun _ _ _ _ _ _ us hl => match us, hl with | [_, _], _ => rfl) ?len (fun cdv A outer s H vs Q E hr h => ?body)
  case len => exact fun vs H Q E ⟨me, M, s, e, _⟩ => by rw [e]; rfl
  case body =>
    obtain ⟨me, M, z, rfl, hM, ok, hz, q⟩ := h
    refine ⟨_, (pss_cons (ps_set (i := 2) sc_lead_rows.nd rfl (Or.inl rfl) (pe_callB (kLen K) rfl T.z_len bt_len (pa_cons (kFld K (kFld K (pv 0))) pa_nil)))
      (pss_cons (ps_set (i := 3) sc_lead_rows.nd rfl (Or.inl rfl) (pe_lst (pa_cons (pe_op op_cat (pe_lst (pa_cons (pe_op op_mul (pv 1) (kFld K (pv 0))) pa_nil)) (pe_op op_rep (pe_lst (pa_cons pe_non pa_nil)) (pe_op op_sub (pv 2) pe_int))) pa_nil)))
      (pss_cons (ps_for PassesOwn.never rfl (pi_range1 rfl T.z_range (pa_cons (pe_op op_sub (pv 2) pe_int) pa_nil)) (pg_name (i := 4) sc_lead_rows.nd rfl (Or.inl rfl)) (pss_cons (ps_set (i := 5) sc_lead_rows.nd rfl (Or.inl rfl) (pe_op op_rep (pe_lst (pa_cons pe_non pa_nil)) (pv 2)))
      (pss_cons (ps_for PassesOwn.never rfl (kEnum K rfl T.z_enumerate (pa_cons (kFld K (kFld K (pv 0))) pa_nil)) (kGTup K (n := 2) (pgs_cons (pg_name (i := 6) sc_lead_rows.nd rfl (Or.inl rfl)) (pgs_cons (kGTup K (n := 2) (pgs_cons (pg_name (i := 7) sc_lead_rows.nd rfl (Or.inl rfl)) (pgs_cons (pg_name (i := 8) sc_lead_rows.nd rfl (Or.inl rfl)) pgs_nil))) pgs_nil))) (pss_one (ps_if (pt_cmpR op_notN1 (pe_ix (kIx K) (pe_ix (kIx K) (pv 3) (pv 4) (fun _ _ => rfl)) (pv 7) (fun _ _ => rfl)) pe_non (nomark _)) (pss_cons (ps_set (i := 9) sc_lead_rows.nd rfl (Or.inl rfl) (pe_op op_add (pe_ix (kIx K) (pe_ix (kIx K) (pv 3) (pv 4) (fun _ _ => rfl)) (pv 7) (fun _ _ => rfl)) (pe_op op_mul (pv 1) (pe_fn G_arrow_gain hr rfl (pa_cons (pv 0) (pa_cons (pv 6) pa_nil))))))
      (pss_one (ps_if (PW.pt (pw_or (pt_cmpR op_isN1 (pe_ix (kIx K) (pv 5) (pv 8) (fun _ _ => rfl)) pe_non (nomark _)) (pw_or1 (pt_cmpR op_gt (pv 9) (pe_ix (kIx K) (pv 5) (pv 8) (fun _ _ => rfl)) (nomark _))))) (pss_one (ps_asg (pv 9) (pg_sub (pv 5) (pv 8) set_list))) pss_nil))) pss_nil)))
      (pss_one (ps_expr (kApp K (pv 3) (pv 5)))))))
      (pss_one (ps_ret (pv 3)))))), ?_⟩
    show (_ : TS) { nx := fun _ H' => Q .non H', rt := Q } ([some (.ref me), some (.int z), none, none, none, none, none, none, none, none] : L2.St) H
    have ok1 := ok.n1
    have ok2 := ok.n2
    obtain ⟨c, tc, ta, tch, xs, mo⟩ := hM
    obtain ⟨f1, f2, f3, f4, f5, f6, f7, f8, f9, fA, fB, f10, _⟩ := id mo
    walk_at "go"
    refine c_len f6 ?_
    walk_at "go"
    refine c_I (small1 hz) ?_
    walk_at "go"
    rw [List.length_map]
    refine ⟨by show 1 ≤ sizeLine; decide, fun p1 np1 => ?_⟩
    have e1 : Same H (upd H p1 (.lst [.int (z * M.first)])) := Same.new np1
    generalize hH1 : upd H p1 (.lst [.int (z * M.first)]) = H1 at *
    have hp1 : H1 p1 = some (.lst [.int (z * M.first)]) := by rw [← hH1, upd_same]
    walk_at "go"
    refine ⟨by show 1 ≤ sizeLine; decide, fun p2 np2 => ?_⟩
    have e2 : Same H1 (upd H1 p2 (.lst [.non])) := Same.new np2
    walk_at "go"
    refine c_rep upd_same ⟨by omega, by omega, by simp⟩ fun p3 np3 => ?_
    have em : (((M.costs.length : Nat) : Int) - 1).toNat = M.costs.length - 1 := by omega
    rw [em, rep_none]
    have e3 := Same.new (o := .lst ((List.replicate (M.costs.length - 1) (none : Option Int)).map vO)) np3
    refine c_cat (e3 _ _ (e2 _ _ hp1)) upd_same (by simp; omega) fun lr nlr => ?_
    have e4 := Same.new (o := .lst ([V.int (z * M.first)] ++ (List.replicate (M.costs.length - 1) (none : Option Int)).map vO)) nlr
    have e04 := ((e1.trans e2).trans e3).trans e4
    have nlrH : H lr = none := ((e1.trans e2).trans e3).free nlr
    have hlr := upd_same (H := upd (upd H1 p2 (.lst [.non])) p3 (.lst ((List.replicate (M.costs.length - 1) (none : Option Int)).map vO))) (a := lr) (o := .lst ([V.int (z * M.first)] ++ (List.replicate (M.costs.length - 1) (none : Option Int)).map vO))
    generalize hH4 : upd (upd (upd H1 p2 (.lst [.non])) p3 (.lst ((List.replicate (M.costs.length - 1) (none : Option Int)).map vO))) lr (.lst ([V.int (z * M.first)] ++ (List.replicate (M.costs.length - 1) (none : Option Int)).map vO)) = H4 at *
    clear e4 nlr e3 np3 e2 np2
    walk_at "go"
    refine ⟨by show 1 ≤ sizeLine; decide, fun rp nrp => ?_⟩
    have e0 : Same H (upd H4 rp (.lst [.ref lr])) := e04.trans (Same.new nrp)
    have nrpH : H rp = none := e04.free nrp
    have lrp : lr ≠ rp := ne_of_none hlr nrp
    have hlr2 : upd H4 rp (.lst [.ref lr]) lr = some (.lst ((some (z * M.first) :: List.replicate (M.costs.length - 1) (none : Option Int)).map vO)) := by rw [upd_ne lrp]; exact hlr
    walk_at "go"
    refine c_seq (f_r1 ?_)
    walk_at "go"
    refine ovR1 (by omega) ?_
    rw [em]
    refine fo walk_range (fun k σ' H' => ∃ (R : Nat → List (Option Int)) (o4 o5 o6 o7 o8 o9 : Option V), σ' = [some (.ref me), some (.int z), some (.int (M.costs.length : Nat)), some (.ref rp), o4, o5, o6, o7, o8, o9] ∧ Same H H' ∧ RowsAt (fun a => H a = none) H' rp R k ∧ ∀ j, j ≤ k → RowB M.costs.length (Lead M.ar M.g z M.first j) (R j)) ?_ (fun _ _ _ _ _ => trivial) ?_ ?_
    · refine ⟨fun _ => (some (z * M.first) :: List.replicate (M.costs.length - 1) (none : Option Int)), none, none, none, none, none, none, rfl, e0, ⟨nrpH, [lr], upd_same, rfl, fun j ra hj => ?_⟩, fun j hj => ?_⟩
      · cases j with
        | zero =>
          cases hj
          exact ⟨nlrH, lrp, hlr2⟩
        | succ j => simp at hj
      · have : j = 0 := by omega
        subst this
        exact lead_first ok1
    · rintro k x σ' H5 H5' hk ⟨R, o4, o5, o6, o7, o8, o9, rfl, e1, hR, hB⟩ ⟨rfl, rfl⟩
      simp only [Int.zero_add]
      walk_at "go"
      refine ⟨by show 1 ≤ sizeLine; decide, fun p1 np1 => ?_⟩
      have e2 : Same H5' (upd H5' p1 (.lst [.non])) := Same.new np1
      walk_at "go"
      refine c_rep upd_same ⟨by omega, by omega, by simp⟩ fun p2 np2 => ?_
      generalize hHb : upd H5' p1 (.lst [.non]) = Hb at *
      have eHb : Same H Hb := e1.trans e2
      rw [show ((M.costs.length : Nat) : Int).toNat = M.costs.length by omega, rep_none]
      walk_at "go"
      refine c_seq (f_enum ?_)
      have e3 : Same Hb (upd Hb p2 (.lst ((List.replicate M.costs.length none).map vO))) := Same.new np2
      have moB := mo.mono eHb
      obtain ⟨f1, f2, f3, f4, f5, f6, f7, f8, f9, fA, fB, f10, _⟩ := mo.mono (eHb.trans e3)
      walk_at "go"
      have hl : xs.length = M.ar.length := by rw [f10.len, List.length_map]
      have hRB := hR.same e2
      refine ovET f9 (fo walk_et (fun i σ'' H'' => ∃ (row : List (Option Int)) (o6 o7 o8 o9 : Option V), σ'' = [some (.ref me), some (.int z), some (.int (M.costs.length : Nat)), some (.ref rp), some (vN k), some (.ref p2), o6, o7, o8, o9] ∧ Same Hb H'' ∧ H'' p2 = some (.lst (row.map vO)) ∧ RowB M.costs.length (LeadI M.ar M.g z (rowF (R k)) i) row) ?_ (fun i σ'' H'' _ ⟨row, _, _, _, _, _, e, _⟩ => e.tup moB.star) ?_ ?_)
      · exact ⟨_, o6, o7, o8, o9, rfl, e3, upd_same, rowB_none fun v w _ => leadI_zero⟩
      · rintro i x σ'' H2 H3 hi ⟨row, o6, o7, o8, o9, rfl, e4, hp2, hrow⟩ ⟨T1, x1, y1, rfl, hT, rfl, hx1, hy1⟩
        cases hx1
        replace hy1 : xs[i]? = some y1 := hy1
        obtain ⟨pr, hpr⟩ := getElem_some (l := M.ar) (k := i) (by omega)
        obtain ⟨a, ha, _, _, ha4⟩ := moB.arrow hpr
        rw [hy1] at ha
        cases ha
        have e5 : Same H2 (upd H2 T1 (.tup [vN i, .ref a])) := Same.new hT
        have e45 := e4.trans e5
        have ta4 : SqT K (upd H2 T1 (.tup [vN i, .ref a])) a [vN pr.1, vN pr.2] := e45.tup ha4
        obtain ⟨t1, t2, t3, t4⟩ := ok.tl hpr
        obtain ⟨ras, ra, r1, r2, r3, r4, r5, r6⟩ := (hRB.same e45).row (K := K) (Nat.le_refl k)
        obtain ⟨oh, hoh, _⟩ := (hB k (Nat.le_refl k)).2 pr.1 t3
        have r7 := atI_row hoh
        obtain ⟨ot, hot, _⟩ := hrow.2 pr.2 t4
        have r8 := atI_row hot
        have hp2' : upd H2 T1 (.tup [vN i, .ref a]) p2 = some (.lst (row.map vO)) := e5 _ _ hp2
        have r9 : SqA K (upd H2 T1 (.tup [vN i, .ref a])) p2 (row.map vO) := .lst hp2'
        walk_at "go"
        rw [vO_non]
        cases oh with
        | none =>
          refine c_ndt rfl ?_
          walk_at "go"
          exact ⟨row, _, _, _, _, rfl, e45, hp2', hrow.congr fun v w _ => leadI_no hpr (rowF_of hoh) v w⟩
        | some x =>
          refine c_ndf (by simp) ?_
          replace r7 : atI ((R k).map vO) (pr.1 : Int) = some (.int x) := r7
          walk_at "go"
          refine ⟨me, M, i, rfl, ⟨c, tc, ta, tch, xs, moB.mono e45⟩, ok, by omega, ?_⟩
          refine c_I (small1 hz) ?_
          walk_at "go"
          rw [vO_non]
          have hq := leadI_yes (g := M.g) (s := z) (prev := R k) hpr (rowF_of hoh)
          cases ot with
          | none =>
            refine c_dt rfl ?_
            walk_at "go"
            refine c_setL hp2' (by rw [List.length_map, hrow.1]; exact t4) ?_
            refine ⟨row.set pr.2 (some (x + z * M.g i)), _, _, _, _, rfl, Same.mut e45 np2, ?_, hrow.set hot (fun v w _ => hq v w) fun b eb => by cases eb⟩
            rw [upd_same, List.map_set]
            rfl
          | some b =>
            refine c_df (by simp) ?_
            replace r8 : atI (row.map vO) (pr.2 : Int) = some (.int b) := r8
            walk_at "go"
            refine d2 (fun h2 => ?_) fun h2 => ?_
            · walk_at "go"
              refine c_setL hp2' (by rw [List.length_map, hrow.1]; exact t4) ?_
              refine ⟨row.set pr.2 (some (x + z * M.g i)), _, _, _, _, rfl, Same.mut e45 np2, ?_, hrow.set hot (fun v w _ => hq v w) fun b' eb => by cases eb; exact h2⟩
              rw [upd_same, List.map_set]
              rfl
            · walk_at "go"
              exact ⟨row, _, _, _, _, rfl, e45, hp2', hrow.keep hot (fun v w _ => hq v w) h2⟩
      · rintro σ'' H2 ⟨row, o6, o7, o8, o9, rfl, e4, hp2, hrow⟩
        dsimp only
        have hR2 := hRB.same e4
        obtain ⟨ras, hras, hlen2, _⟩ := hR2.2
        obtain ⟨_, hrasB, _⟩ := hRB.2
        walk_at "go"
        refine c_app hras (by rw [List.length_map]; omega) ?_
        have p2rp : p2 ≠ rp := (ne_of_none hrasB np2).symm
        refine ⟨moreR R k row, _, _, _, _, _, _, rfl, Same.mut (eHb.trans e4) nrpH, hR2.more hras (eHb.free np2) hp2 p2rp, fun j hj => ?_⟩
        by_cases ej : j = k + 1
        · subst ej
          rw [moreR_new]
          rw [hl] at hrow
          exact lead_row ok.arr (hB k (Nat.le_refl k)) hrow
        · rw [moreR_old (by omega)]
          exact hB j (by omega)
    · rintro σ' H5 ⟨R, o4, o5, o6, o7, o8, o9, rfl, e1, hR, hB⟩
      dsimp only
      walk_at "go"
      exact q rp R H5 e1 nrpH hR hB
end
end
end Pa
end
section
set_option Elab.async false
set_option linter.all false
set_option maxRecDepth 100000
set_option maxHeartbeats 4000000
namespace Pa
open PySem PySem.Spec PyProof.Rows L2
local macro_rules | `(tactic| walk_at "st") => `(tactic| first
  | ((with_reducible refine' c_var ?h0 ?_); (case h0 => rfl))
  | with_reducible refine c_c ?_
  | with_reducible refine c_op ?_
  | with_reducible refine c_un ?_
  | with_reducible refine c_I0 ?_
  | with_reducible refine c_U ?_
  | with_reducible refine c_eqI ?_
  | with_reducible refine c_neI ?_
  | with_reducible refine c_isN ?_
  | with_reducible refine c_notN ?_
  | ((with_reducible refine' c_ix2 ?h0 ?h1 ?_); (case h0 => assumption); (case h1 => assumption))
  | with_reducible refine c_fld ?_
  | ((with_reducible refine' c_fldv ?h0 ?_); (case h0 => assumption))
  | with_reducible refine c_bl ?_
  | with_reducible refine c_test ?_
  | with_reducible refine c_tB ?_
  | with_reducible refine c_and ?_
  | with_reducible refine c_or ?_
  | with_reducible refine c_not ?_
  | with_reducible refine c_notV ?_
  | with_reducible refine c_andV ?_
  | with_reducible refine c_orV ?_
  | with_reducible refine c_chain ?_
  | with_reducible refine c_if ?_
  | with_reducible refine c_nil ?_
  | with_reducible refine c_cons ?_
  | with_reducible refine c_fn ?_
  | with_reducible refine c_cb ?_
  | with_reducible refine c_tup ?_
  | with_reducible refine c_lst ?_
  | with_reducible refine c_asgL ?_
  | with_reducible refine c_asg ?_
  | with_reducible refine c_dropL ?_
  | with_reducible refine c_drop ?_
  | with_reducible refine c_asgG ?_
  | with_reducible refine c_asgGs ?_
  | with_reducible refine c_ret ?_
  | with_reducible refine c_ifL ?_
  | with_reducible refine c_ifS ?_
  | with_reducible refine c_nextL ?_
  | with_reducible refine c_yes ?_
  | with_reducible refine c_setF ?_
  | with_reducible refine c_setFs ?_
  | with_reducible refine c_mk ?_
  | with_reducible refine c_tru ?_
  | with_reducible refine c_mt ?_
  | ((with_reducible refine' c_mtO ?h0 ?_); (case h0 => assumption))
  | ((with_reducible refine' c_aug ?h0 ?_); (case h0 => rfl))
  | ((with_reducible refine' c_augL ?h0 ?_); (case h0 => rfl))
  | with_reducible refine c_ip ?_
  | with_reducible refine c_bm ?_
  | with_reducible refine c_bm0 ?_
  | ((with_reducible refine' c_ty ?h0 ?_); (case h0 => assumption))
  | with_reducible refine g_sub ?_
  | with_reducible refine g_name ?_
  | with_reducible refine g_nil ?_
  | with_reducible refine g_cons ?_
  | ((with_reducible refine' g_tup ?h0 ?h1 ?_); (case h0 => first | assumption | exact SqT.of upd_same); (case h1 => rfl))
  | with_reducible refine c_tt ?_
  | with_reducible refine c_ff ?_
  | with_reducible refine c_nt ?_
  | with_reducible refine c_nf ?_
  | with_reducible refine c_brk ?_)
local macro_rules | `(tactic| walk_at "go") => `(tactic| repeat (walk_at "st"))
section
/-! can_drift, least_ring, least_walk. -/
section
variable {P : Program} {w : World} {K : PySem.W.Frag} {mg : Str → Option Value} {base : Heap}
def TabAt (own : Addr → Prop) (H : Hp) (tb : Addr) (R : Nat → List (Option Int)) (len : Nat) : Prop := own tb ∧ ∃ tt rp, H tb = some (.lst [.ref tt]) ∧ own tt ∧ H tt = some (.tup [.int (-1), .ref rp]) ∧ RowsAt own H rp R len
theorem TabAt.mono {own : Addr → Prop} {H H' : Hp} {tb : Addr} {R : Nat → List (Option Int)} {len : Nat} (h : TabAt own H tb R len) (e : ∀ a o, own a → H a = some o → H' a = some o) : TabAt own H' tb R len := by
  obtain ⟨h1, tt, rp, h2, h3, h4, h5⟩ := h
  exact ⟨h1, tt, rp, e _ _ h1 h2, h3, e _ _ h3 h4, h5.mono e⟩
theorem TabAt.same {own : Addr → Prop} {H H' : Hp} {tb : Addr} {R : Nat → List (Option Int)} {len : Nat} (h : TabAt own H tb R len) (e : Same H H') : TabAt own H' tb R len := h.mono fun a o _ => e a o
def canB (o : Option Int) (acc : Int) : Bool := match o with
  | none => false
  | some b => decide (0 < -1 * acc + b)
def spCan (K : PySem.W.Frag) : Sp := fun vs H Q _ => ∃ (tb : Addr) (R : Nat → List (Option Int)) (len p left : Nat) (acc : Int) (own : Addr → Prop) (o : Option Int), vs = [.ref tb, vN p, vN left, .int acc] ∧ TabAt own H tb R len ∧ left ≤ len ∧ (R left)[p]? = some o ∧ Q (.bl (canB o acc)) H
theorem sc_can_drift : FnScope ["tables", "place", "left", "gained", "sense", "rows", "rest"] ["tables", "place", "left", "gained"] (defScope s_can_drift) := ⟨rfl, rfl, rfl, by decide +kernel, rfl, by decide +kernel, by decide +kernel⟩
theorem ok_can_drift (T : Tx K mg) : Fn P w K mg base 1 "can_drift" ["tables", "place", "left", "gained"] (spCan K) := by
  refine fn_mk (st := s_can_drift) T.f_can_drift T.g_can_drift sc_can_drift (fun _ _ _ _ _ _ us hl => match us, hl with | [_, _, _, _], _ => rfl) ?len (fun cdv A outer s H vs Q E hr h => ?body)
  case len => exact fun vs H Q E ⟨tb, R, len, p, left, acc, own, o, e, _⟩ => by rw [e]; rfl
  case body =>
    obtain ⟨tb, R, len, p, left, acc, own, o, rfl, hT, hl, ho, q⟩ := h
    refine ⟨_, (pss_cons (ps_for PassesOwn.never rfl (kSeq K (pv 0)) (kGTup K (n := 2) (pgs_cons (pg_name (i := 4) sc_can_drift.nd rfl (Or.inl rfl)) (pgs_cons (pg_name (i := 5) sc_can_drift.nd rfl (Or.inl rfl)) pgs_nil))) (pss_cons (ps_set (i := 6) sc_can_drift.nd rfl (Or.inl rfl) (pe_ix (kIx K) (pe_ix (kIx K) (pv 5) (pv 2) (fun _ _ => rfl)) (pv 1) (fun _ _ => rfl)))
      (pss_one (ps_if (PW.pt (pw_and (pt_cmpR op_notN1 (pv 6) pe_non (nomark _)) (pw_and1 (pt_cmpR op_gt (pe_op op_add (pe_op op_mul (pv 4) (pv 3)) (pv 6)) pe_int (nomark _))))) (pss_one (ps_ret pe_bl)) pss_nil))))
      (pss_one (ps_ret pe_bl))), ?_⟩
    show (_ : TS) { nx := fun _ H' => Q .non H', rt := Q } ([some (.ref tb), some (vN p), some (vN left), some (.int acc), none, none, none] : L2.St) H
    obtain ⟨h1, tt, rp, h2, h3, h4, h5⟩ := hT
    obtain ⟨ras, ra, r1, r2, r3, _⟩ := h5.row (K := K) hl
    have r4 := atI_row ho
    have h6 : SqT K H tt [.int (-1), .ref rp] := .of h4
    refine c_seq (f_seq ?_)
    walk_at "go"
    refine ovL (.of h2) (fo walk_list (fun i σ' H' => ∃ (o4 o5 o6 : Option V), H' = H ∧ σ' = [some (.ref tb), some (vN p), some (vN left), some (.int acc), o4, o5, o6] ∧ (i = 1 → canB o acc = false)) ⟨none, none, none, rfl, rfl, fun z => by omega⟩ (fun i σ' H' _ ⟨_, _, _, e, _⟩ => by rw [e]; exact .of h2) ?_ ?_)
    · rintro i x σ' H' H'' hi ⟨o4, o5, o6, rfl, rfl, _⟩ ⟨rfl, hx⟩
      have i0 : i = 0 := by simp at hi; omega
      subst i0
      cases hx
      walk_at "go"
      rw [vO_non]
      cases o with
      | none =>
        refine c_ndt rfl ?_
        walk_at "go"
        exact ⟨_, _, _, rfl, rfl, fun _ => rfl⟩
      | some b =>
        refine c_ndf (by simp) ?_
        walk_at "go"
        refine c_I (small1 ⟨by omega, by omega⟩) ?_
        walk_at "go"
        refine c_I0 (n := b) ?_
        walk_at "go"
        refine d2 (fun h7 => ?_) fun h7 => ?_
        · walk_at "go"
          have e : canB (some b) acc = true := decide_eq_true h7
          rw [e] at q
          exact q
        · walk_at "go"
          exact ⟨_, _, _, rfl, rfl, fun _ => decide_eq_false h7⟩
    · rintro σ' H' ⟨o4, o5, o6, rfl, rfl, hc⟩
      dsimp only
      walk_at "go"
      rw [hc rfl] at q
      exact q
theorem canB_iff {o : Option Int} {acc : Int} : canB o acc = true ↔ ∃ b, o = some b ∧ 1 ≤ -acc + b := by
  cases o with
  | none => exact ⟨fun h => (nomatch h), fun ⟨b, e, _⟩ => (nomatch e)⟩
  | some b =>
    show decide (0 < -1 * acc + b) = true ↔ _
    rw [decide_eq_true_iff]
    constructor
    · exact fun h => ⟨b, rfl, by omega⟩
    · rintro ⟨c, e, h⟩
      cases e
      omega
abbrev FallG (M : MD) (s L : Nat) : List Nat → Prop := Good M.ar s M.g (-1) (rowF (lastR M.costs.length s)) s 0 1 L
def spRing (K : PySem.W.Frag) : Sp := fun vs H Q _ => ∃ (me tb : Addr) (M : MD) (R : Nat → List (Option Int)) (len st L : Nat) (own : Addr → Prop), vs = [.ref me, .ref tb, vN st, vN L] ∧ MeterAt K H me M ∧ M.Ok ∧ TabAt own H tb R len ∧ L ≤ len ∧ len ≤ 1000 ∧ st < M.costs.length ∧
  (∀ j, j ≤ len → RowB M.costs.length (Rest M.ar st M.g (-1) (rowF (lastR M.costs.length st)) j) (R j)) ∧
  ((∀ r, ¬ FallG M st L r) → Q .non H) ∧ (∀ r, FallG M st L r → (∀ r', FallG M st L r' → LexLe r r') → ∀ a H', Same H H' → H a = none → H' a = some (.tup (r.map vN)) → Q (.ref a) H')
theorem sc_least_ring : FnScope ["meter", "tables", "start", "length", "ring", "place", "gained", "left", "arrow", "head"] ["meter", "tables", "start", "length"] (defScope s_least_ring) := ⟨rfl, rfl, rfl, by decide +kernel, rfl, by decide +kernel, by decide +kernel⟩
theorem ok_least_ring (T : Tx K mg) (G_arrow_gain : Fn P w K mg base 1 "arrow_gain" ["meter", "arrow"] (spGain K)) (G_can_drift : Fn P w K mg base 1 "can_drift" ["tables", "place", "left", "gained"] (spCan K)) (G_Chart_outs : Mt P w K mg base 3 "Chart" "outs" ["self", "place"] (spOuts K)) : Fn P w K mg base 4 "least_ring" ["meter", "tables", "start", "length"] (spRing K) := by
  refine fn_mk (st := s_least_ring) T.f_least_ring T.g_least_ring sc_least_ring (fun _ _ _ _ _ _ us hl => match us, hl with | [_, _, _, _], _ => rfl) ?len (fun cdv A outer s H vs Q E hr h => ?body)
  case len => exact fun vs H Q E ⟨me, tb, M, R, len, st, L, own, e, _⟩ => by rw [e]; rfl
  case body =>
    obtain ⟨me, tb, M, R, len, st, L, own, rfl, hM, ok, hT, hL, hlen, hst, hB, q0, q1⟩ := h
    refine ⟨_, (pss_cons (ps_if (pt_not (pt_val (pe_fn G_can_drift hr rfl (pa_cons (pv 1) (pa_cons (pv 2) (pa_cons (pv 3) (pa_cons pe_int pa_nil))))))) (pss_one (ps_ret pe_non)) pss_nil)
      (pss_cons (ps_set (i := 4) sc_least_ring.nd rfl (Or.inl rfl) (pe_lst pa_nil))
      (pss_cons (ps_set (i := 5) sc_least_ring.nd rfl (Or.inl rfl) (pv 2))
      (pss_cons (ps_set (i := 6) sc_least_ring.nd rfl (Or.inl rfl) pe_int)
      (pss_cons (ps_for PassesOwn.never rfl (pi_revR rfl T.z_reversed (prg_1 rfl T.z_range (pv 3))) (pg_name (i := 7) sc_least_ring.nd rfl (Or.inl rfl)) (pss_one (ps_for PassesOwn.never rfl (kSeq K (kMt K (kFld K (pv 0)) T.c_Chart T.m_Chart_outs G_Chart_outs hr (pa_cons (pv 5) pa_nil))) (pg_name (i := 8) sc_least_ring.nd rfl (Or.inl rfl)) (pss_cons (ps_set (i := 9) sc_least_ring.nd rfl (Or.inl rfl) (pe_ix (kIx K) (pe_ix (kIx K) (kFld K (kFld K (pv 0))) (pv 8) (fun _ _ => rfl)) pe_int (fun _ _ => rfl)))
      (pss_one (ps_if (pt_val (pe_fn G_can_drift hr rfl (pa_cons (pv 1) (pa_cons (pv 9) (pa_cons (pv 7) (pa_cons (pe_op op_add (pv 6) (pe_fn G_arrow_gain hr rfl (pa_cons (pv 0) (pa_cons (pv 8) pa_nil)))) pa_nil)))))) (pss_cons (ps_expr (kApp K (pv 4) (pv 8)))
      (pss_cons (ps_aug (i := 6) sc_least_ring.nd rfl (Or.inl rfl) (pe_fn G_arrow_gain hr rfl (pa_cons (pv 0) (pa_cons (pv 8) pa_nil))) ip_add)
      (pss_cons (ps_set (i := 5) sc_least_ring.nd rfl (Or.inl rfl) (pv 9))
      (pss_one ps_break)))) pss_nil))))))
      (pss_one (ps_ret (pe_callTy (kTup K) rfl T.z_tuple bt_tuple (pa_cons (pv 4) pa_nil))))))))), ?_⟩
    show (_ : TS) { nx := fun _ H' => Q .non H', rt := Q } ([some (.ref me), some (.ref tb), some (vN st), some (vN L), none, none, none, none, none, none] : L2.St) H
    obtain ⟨c, tc, ta, tch, xs, mo⟩ := hM
    have canI : ∀ (left v : Nat) (acc : Int), left ≤ len → v < M.costs.length → ∃ o, (R left)[v]? = some o ∧ (canB o acc = true ↔ Can M.ar st M.g (-1) (rowF (lastR M.costs.length st)) 1 left v (-acc)) := fun left v acc hl hv => by
      obtain ⟨o, ho, _⟩ := (hB left hl).2 v hv
      refine ⟨o, ho, ?_⟩
      rw [can_best (hB left hl) hv, canB_iff, rowF_of ho]
    walk_at "go"
    obtain ⟨o, ho, hc⟩ := canI L st 0 hL hst
    refine ⟨tb, R, len, st, L, 0, own, o, rfl, hT, hL, ho, ?_⟩
    walk_at "go"
    cases hcb : canB o 0 with
    | false =>
      walk_at "go"
      refine q0 fun r hr => ?_
      have : canB o 0 = true := hc.mpr (can_good.mpr ⟨r, by simpa using hr⟩)
      rw [hcb] at this
      cases this
    | true =>
      have hex := can_good.mp (hc.mp hcb)
      walk_at "go"
      refine ⟨Nat.zero_le _, fun rp nrp => ?_⟩
      have e0 : Same H (upd H rp (.lst [])) := Same.new nrp
      walk_at "go"
      refine c_seq (f_rev ?_)
      walk_at "go"
      refine ovRev (by omega) ?_
      refine fo walk_rangeC (fun i σ' H' => ∃ (p : List Nat) (place : Nat) (acc : Int) (o7 o8 o9 : Option V), σ' = [some (.ref me), some (.ref tb), some (vN st), some (vN L), some (.ref rp), some (vN place), some (.int acc), o7, o8, o9] ∧ Same H H' ∧ H' rp = some (.lst (p.map vN)) ∧ p.length = i ∧ place < M.costs.length ∧ Pre M.ar st M.g (-1) (rowF (lastR M.costs.length st)) st 0 1 L p place (-acc)) ?_ (fun _ _ _ _ _ => trivial) ?_ ?_
      · exact ⟨[], st, 0, _, _, _, rfl, e0, upd_same, rfl, hst, Pre.start (by simpa using hex)⟩
      · rintro i x σ' H1 H1' hi ⟨p, place, acc, o7, o8, o9, rfl, e1, hrp, hpl, hplace, pr⟩ ⟨rfl, rfl⟩
        have eL : ((L : Int) - 1 + (i : Nat) * -1) = ((L - p.length - 1 : Nat) : Int) := by omega
        show gName 7 (.int ((L : Int) - 1 + (i : Nat) * -1)) _ _ _
        rw [eL]
        walk_at "go"
        refine f_seq ?_
        have mo1 := mo.mono e1
        obtain ⟨f1, f2, f3, f4, f5, f6, f7, f8, f9, fA, fB, f10, fC, _⟩ := id mo1
        walk_at "go"
        refine ⟨c, M.costs, M.ar, place, rfl, mo1.chat, hplace, ok.m1, fun oa H2 e2 hoa => ?_⟩
        have e02 := e1.trans e2
        refine ovT hoa (fo walk_tup (fun j σ'' H'' => ∃ (o8 o9 : Option V), σ'' = [some (.ref me), some (.ref tb), some (vN st), some (vN L), some (.ref rp), some (vN place), some (.int acc), some (vN (L - p.length - 1)), o8, o9] ∧ Same H2 H'' ∧ ∀ j' k h, j' < j → (outsOf M.ar place)[j']? = some k → M.ar[k]? = some (place, h) → ¬ Can M.ar st M.g (-1) (rowF (lastR M.costs.length st)) 1 (L - p.length - 1) h (-(acc + M.g k))) ?_ (fun j σ'' H'' _ ⟨_, _, _, e, _⟩ => e.tup hoa) ?_ ?_)
        · exact ⟨_, _, rfl, Same.refl _, fun j' k h z => absurd z (Nat.not_lt_zero _)⟩
        · rintro j x σ'' H3 H3' hj ⟨o8, o9, rfl, e3, hno⟩ ⟨rfl, hx⟩
          have e23 := e02.trans e3
          obtain ⟨k, hk⟩ := getElem_some (l := outsOf M.ar place) (k := j) (by simpa using hj)
          rw [List.getElem?_map, hk] at hx
          cases hx
          obtain ⟨h, hp⟩ := mem_outs.mp (List.mem_of_getElem? hk)
          have mo3 := mo.mono e23
          obtain ⟨f1, f2, f3, f4, f5, f6, f7, f8, f9, fA, fB, f10, _⟩ := id mo3
          obtain ⟨a, ha, ha2, ha3, _⟩ := mo3.arrow hp
          obtain ⟨t1, t2, t3, t4⟩ := ok.tl hp
          have g1 : atI ([vN place, vN h] : List V) 1 = some (vN h) := atI_nat (j := 1) rfl
          have hkm : k < M.ar.length := (List.getElem?_eq_some_iff.mp hp).1
          obtain ⟨o, ho, hc⟩ := canI (L - p.length - 1) h (acc + M.g k) (by omega) t4
          walk_at "go"
          refine ⟨me, M, k, rfl, ⟨c, tc, ta, tch, xs, mo3⟩, ok, hkm, ?_⟩
          walk_at "go"
          refine ⟨tb, R, len, h, _, _, own, o, rfl, hT.same e23, by omega, ho, ?_⟩
          walk_at "go"
          have hrp3 : H3' rp = some (.lst (p.map vN)) := (e2.trans e3) _ _ hrp
          cases hcb2 : canB o (acc + M.g k) with
          | true =>
            walk_at "go"
            refine c_app hrp3 (by rw [List.length_map]; omega) ?_
            have mo4 : MeterAt K (upd H3' rp (.lst (p.map vN ++ [vN k]))) me M := ⟨c, tc, ta, tch, xs, mo.mono (Same.mut e23 nrp)⟩
            walk_at "go"
            refine ⟨me, M, k, rfl, mo4, ok, hkm, ?_⟩
            walk_at "go"
            have eg : -(acc + M.g k) = -acc + -1 * M.g k := by omega
            refine ⟨p ++ [k], h, acc + M.g k, _, _, _, rfl, Same.mut e23 nrp, ?_, by simp [hpl], t4, ?_⟩
            · rw [upd_same, List.map_append]
              rfl
            · rw [eg]
              refine pr.next (by omega) hp ?_ fun j2 h2 hj2 hc2 => ?_
              · rw [← eg]
                exact hc.mp hcb2
              · obtain ⟨i2, hi2⟩ := at_outs (mem_outs.mpr ⟨h2, hj2⟩)
                by_cases hlt : i2 < j
                · refine absurd ?_ (hno i2 j2 h2 hlt hi2 hj2)
                  have eg2 : -(acc + M.g j2) = -acc + -1 * M.g j2 := by omega
                  rw [eg2]
                  exact hc2
                · exact outs_sorted hk hi2 (by omega)
          | false =>
            walk_at "go"
            refine ⟨_, _, rfl, e3, fun j2 k2 h2 hj2 hk2 hp2 => ?_⟩
            by_cases hlt : j2 < j
            · exact hno j2 k2 h2 hlt hk2 hp2
            · have ej : j2 = j := by omega
              subst ej
              rw [hk] at hk2
              cases hk2
              rw [hp] at hp2
              cases hp2
              intro hcan
              rw [hc.mpr hcan] at hcb2
              cases hcb2
        · rintro σ'' H3 ⟨o8, o9, rfl, e3, hno⟩
          exfalso
          obtain ⟨k, h, hp, _, hcan⟩ := pr.some (by omega)
          obtain ⟨i2, hi2⟩ := at_outs (mem_outs.mpr ⟨h, hp⟩)
          refine hno i2 k h (by rw [List.length_map]; exact (List.getElem?_eq_some_iff.mp hi2).1) hi2 hp ?_
          have eg : -(acc + M.g k) = -acc + -1 * M.g k := by omega
          rw [eg]
          exact hcan
      · rintro σ' H1 ⟨p, place, acc, o7, o8, o9, rfl, e1, hrp, hpl, hplace, pr⟩
        dsimp only
        walk_at "go"
        refine ⟨rp, _, rfl, .inl ⟨.of hrp, fun a na => ?_⟩⟩
        exact q1 p (by simpa using pr.done hpl) (fun r' hr' => pr.least r' (by simpa using hr')) a _ (e1.trans (Same.new na)) (e1.free na) upd_same
end
end
end Pa
end
section
set_option Elab.async false
set_option linter.all false
set_option maxRecDepth 100000
set_option maxHeartbeats 4000000
namespace Pa
open PySem PySem.Spec PyProof.Rows L2
local macro_rules | `(tactic| walk_at "st") => `(tactic| first
  | ((with_reducible refine' c_var ?h0 ?_); (case h0 => rfl))
  | with_reducible refine c_c ?_
  | with_reducible refine c_op ?_
  | with_reducible refine c_un ?_
  | with_reducible refine c_I0 ?_
  | with_reducible refine c_U ?_
  | with_reducible refine c_eqI ?_
  | with_reducible refine c_neI ?_
  | with_reducible refine c_isN ?_
  | with_reducible refine c_notN ?_
  | ((with_reducible refine' c_ix2 ?h0 ?h1 ?_); (case h0 => assumption); (case h1 => assumption))
  | with_reducible refine c_fld ?_
  | ((with_reducible refine' c_fldv ?h0 ?_); (case h0 => assumption))
  | with_reducible refine c_bl ?_
  | with_reducible refine c_test ?_
  | with_reducible refine c_tB ?_
  | with_reducible refine c_and ?_
  | with_reducible refine c_or ?_
  | with_reducible refine c_not ?_
  | with_reducible refine c_notV ?_
  | with_reducible refine c_andV ?_
  | with_reducible refine c_orV ?_
  | with_reducible refine c_chain ?_
  | with_reducible refine c_if ?_
  | with_reducible refine c_nil ?_
  | with_reducible refine c_cons ?_
  | with_reducible refine c_fn ?_
  | with_reducible refine c_cb ?_
  | with_reducible refine c_tup ?_
  | with_reducible refine c_lst ?_
  | with_reducible refine c_asgL ?_
  | with_reducible refine c_asg ?_
  | with_reducible refine c_dropL ?_
  | with_reducible refine c_drop ?_
  | with_reducible refine c_asgG ?_
  | with_reducible refine c_asgGs ?_
  | with_reducible refine c_ret ?_
  | with_reducible refine c_ifL ?_
  | with_reducible refine c_ifS ?_
  | with_reducible refine c_nextL ?_
  | with_reducible refine c_setF ?_
  | with_reducible refine c_setFs ?_
  | with_reducible refine c_mk ?_
  | with_reducible refine c_tru ?_
  | with_reducible refine c_mt ?_
  | ((with_reducible refine' c_mtO ?h0 ?_); (case h0 => assumption))
  | ((with_reducible refine' c_aug ?h0 ?_); (case h0 => rfl))
  | ((with_reducible refine' c_augL ?h0 ?_); (case h0 => rfl))
  | with_reducible refine c_ip ?_
  | with_reducible refine c_bm ?_
  | with_reducible refine c_bm0 ?_
  | ((with_reducible refine' c_ty ?h0 ?_); (case h0 => assumption))
  | with_reducible refine g_sub ?_
  | with_reducible refine g_name ?_
  | with_reducible refine g_nil ?_
  | with_reducible refine g_cons ?_
  | ((with_reducible refine' g_tup ?h0 ?h1 ?_); (case h0 => first | assumption | exact SqT.of upd_same); (case h1 => rfl))
  | with_reducible refine c_tt ?_
  | with_reducible refine c_ff ?_
  | with_reducible refine c_nt ?_
  | with_reducible refine c_nf ?_
  | with_reducible refine c_brk ?_)
local macro_rules | `(tactic| walk_at "go") => `(tactic| repeat (walk_at "st"))
section
/-! least_walk. -/
section
variable {P : Program} {w : World} {K : PySem.W.Frag} {mg : Str → Option Value} {base : Heap}
def spWalk (K : PySem.W.Frag) : Sp := fun vs H Q _ => ∃ (me rr : Addr) (M : MD) (R : Nat → List (Option Int)) (len L : Nat) (w0 thr s : Int) (last : Nat → Option Int) (own : Addr → Prop), vs = [.ref me, .ref rr, vN L, .int w0, .int thr, .int s] ∧ MeterAt K H me M ∧ M.Ok ∧ RowsAt own H rr R len ∧ L ≤ len ∧ len ≤ 1000 ∧ (-2 < s ∧ s < 2) ∧
  (∀ j, j ≤ len → RowB M.costs.length (Rest M.ar 0 M.g s last j) (R j)) ∧ (∃ r, Good M.ar 0 M.g s last 0 w0 thr L r) ∧
  (∀ r, Good M.ar 0 M.g s last 0 w0 thr L r → (∀ r', Good M.ar 0 M.g s last 0 w0 thr L r' → LexLe r r') → ∀ a H', Same H H' → H a = none → H' a = some (.tup (r.map vN)) → Q (.ref a) H')
theorem sc_least_walk : FnScope ["meter", "rests", "length", "start", "wanted", "sense", "walk", "place", "worth", "left", "arrow", "head", "more"] ["meter", "rests", "length", "start", "wanted", "sense"] (defScope s_least_walk) := ⟨rfl, rfl, rfl, by decide +kernel, rfl, by decide +kernel, by decide +kernel⟩
theorem ok_least_walk (T : Tx K mg) (G_arrow_gain : Fn P w K mg base 1 "arrow_gain" ["meter", "arrow"] (spGain K)) (G_Chart_outs : Mt P w K mg base 3 "Chart" "outs" ["self", "place"] (spOuts K)) : Fn P w K mg base 4 "least_walk" ["meter", "rests", "length", "start", "wanted", "sense"] (spWalk K) := by
  refine fn_mk (st := s_least_walk) T.f_least_walk T.g_least_walk sc_least_walk (fun _ _ _ _ _ _ us hl => match us, hl with | [_, _, _, _, _, _], _ => rfl) ?len (fun cdv A outer s H vs Q E hr h => ?body)
  case len => exact fun vs H Q E ⟨me, rr, M, R, len, L, w0, thr, s, last, own, e, _⟩ => by rw [e]; rfl
  case body =>
    obtain ⟨me, rr, M, R, len, L, w0, thr, z, last, own, rfl, hM, ok, hR, hL, hlen, hz, hB, hex, q⟩ := h
    refine ⟨_, (pss_cons (ps_set (i := 6) sc_least_walk.nd rfl (Or.inl rfl) (pe_lst pa_nil))
      (pss_cons (ps_set (i := 7) sc_least_walk.nd rfl (Or.inl rfl) pe_int)
      (pss_cons (ps_set (i := 8) sc_least_walk.nd rfl (Or.inl rfl) (pv 3))
      (pss_cons (ps_for PassesOwn.never rfl (pi_revR rfl T.z_reversed (prg_1 rfl T.z_range (pv 2))) (pg_name (i := 9) sc_least_walk.nd rfl (Or.inl rfl)) (pss_one (ps_for PassesOwn.never rfl (kSeq K (kMt K (kFld K (pv 0)) T.c_Chart T.m_Chart_outs G_Chart_outs hr (pa_cons (pv 7) pa_nil))) (pg_name (i := 10) sc_least_walk.nd rfl (Or.inl rfl)) (pss_cons (ps_set (i := 11) sc_least_walk.nd rfl (Or.inl rfl) (pe_ix (kIx K) (pe_ix (kIx K) (kFld K (kFld K (pv 0))) (pv 10) (fun _ _ => rfl)) pe_int (fun _ _ => rfl)))
      (pss_cons (ps_set (i := 12) sc_least_walk.nd rfl (Or.inl rfl) (pe_op op_add (pv 8) (pe_op op_mul (pv 5) (pe_fn G_arrow_gain hr rfl (pa_cons (pv 0) (pa_cons (pv 10) pa_nil))))))
      (pss_one (ps_if (PW.pt (pw_and (pt_cmpR op_notN1 (pe_ix (kIx K) (pe_ix (kIx K) (pv 1) (pv 9) (fun _ _ => rfl)) (pv 11) (fun _ _ => rfl)) pe_non (nomark _)) (pw_and1 (pt_cmpR op_ge (pe_op op_add (pv 12) (pe_ix (kIx K) (pe_ix (kIx K) (pv 1) (pv 9) (fun _ _ => rfl)) (pv 11) (fun _ _ => rfl))) (pv 4) (nomark _))))) (pss_cons (ps_expr (kApp K (pv 6) (pv 10)))
      (pss_cons (ps_set (i := 8) sc_least_walk.nd rfl (Or.inl rfl) (pv 12))
      (pss_cons (ps_set (i := 7) sc_least_walk.nd rfl (Or.inl rfl) (pv 11))
      (pss_one ps_break)))) pss_nil)))))))
      (pss_one (ps_ret (pe_callTy (kTup K) rfl T.z_tuple bt_tuple (pa_cons (pv 6) pa_nil)))))))), ?_⟩
    show (_ : TS) { nx := fun _ H' => Q .non H', rt := Q } ([some (.ref me), some (.ref rr), some (vN L), some (.int w0), some (.int thr), some (.int z), none, none, none, none, none, none, none] : L2.St) H
    obtain ⟨c, tc, ta, tch, xs, mo⟩ := hM
    have hst : 0 < M.costs.length := ok.n1
    walk_at "go"
    refine ⟨Nat.zero_le _, fun rp nrp => ?_⟩
    have e0 : Same H (upd H rp (.lst [])) := Same.new nrp
    walk_at "go"
    refine c_seq (f_rev ?_)
    walk_at "go"
    refine ovRev (by omega) ?_
    refine fo walk_rangeC (fun i σ' H' => ∃ (p : List Nat) (place : Nat) (acc : Int) (o9 o10 o11 o12 : Option V), σ' = [some (.ref me), some (.ref rr), some (vN L), some (.int w0), some (.int thr), some (.int z), some (.ref rp), some (vN place), some (.int acc), o9, o10, o11, o12] ∧ Same H H' ∧ H' rp = some (.lst (p.map vN)) ∧ p.length = i ∧ place < M.costs.length ∧ Pre M.ar 0 M.g z last 0 w0 thr L p place acc) ?_ (fun _ _ _ _ _ => trivial) ?_ ?_
    · exact ⟨[], 0, w0, _, _, _, _, rfl, e0, upd_same, rfl, hst, Pre.start hex⟩
    · rintro i x σ' H1 H1' hi ⟨p, place, acc, o9, o10, o11, o12, rfl, e1, hrp, hpl, hplace, pr⟩ ⟨rfl, rfl⟩
      have eL : ((L : Int) - 1 + (i : Nat) * -1) = ((L - p.length - 1 : Nat) : Int) := by omega
      show gName 9 (.int ((L : Int) - 1 + (i : Nat) * -1)) _ _ _
      rw [eL]
      walk_at "go"
      refine f_seq ?_
      have mo1 := mo.mono e1
      obtain ⟨f1, f2, f3, f4, f5, f6, f7, f8, f9, fA, fB, f10, fC, _⟩ := id mo1
      walk_at "go"
      refine ⟨c, M.costs, M.ar, place, rfl, mo1.chat, hplace, ok.m1, fun oa H2 e2 hoa => ?_⟩
      have e02 := e1.trans e2
      refine ovT hoa (fo walk_tup (fun j σ'' H'' => ∃ (o10 o11 o12 : Option V), σ'' = [some (.ref me), some (.ref rr), some (vN L), some (.int w0), some (.int thr), some (.int z), some (.ref rp), some (vN place), some (.int acc), some (vN (L - p.length - 1)), o10, o11, o12] ∧ Same H2 H'' ∧ ∀ j' k h, j' < j → (outsOf M.ar place)[j']? = some k → M.ar[k]? = some (place, h) → ¬ Can M.ar 0 M.g z last thr (L - p.length - 1) h (acc + z * M.g k)) ?_ (fun j σ'' H'' _ ⟨_, _, _, _, e, _⟩ => e.tup hoa) ?_ ?_)
      · exact ⟨_, _, _, rfl, Same.refl _, fun j' k h z => absurd z (Nat.not_lt_zero _)⟩
      · rintro j x σ'' H3 H3' hj ⟨o10, o11, o12, rfl, e3, hno⟩ ⟨rfl, hx⟩
        have e23 := e02.trans e3
        obtain ⟨k, hk⟩ := getElem_some (l := outsOf M.ar place) (k := j) (by simpa using hj)
        rw [List.getElem?_map, hk] at hx
        cases hx
        obtain ⟨h, hp⟩ := mem_outs.mp (List.mem_of_getElem? hk)
        have mo3 := mo.mono e23
        obtain ⟨f1, f2, f3, f4, f5, f6, f7, f8, f9, fA, fB, f10, _⟩ := id mo3
        obtain ⟨a, ha, ha2, ha3, _⟩ := mo3.arrow hp
        obtain ⟨t1, t2, t3, t4⟩ := ok.tl hp
        have g1 : atI ([vN place, vN h] : List V) 1 = some (vN h) := atI_nat (j := 1) rfl
        have hkm : k < M.ar.length := (List.getElem?_eq_some_iff.mp hp).1
        have hrp3 : H3' rp = some (.lst (p.map vN)) := (e2.trans e3) _ _ hrp
        obtain ⟨ras, ra, r1, r2, r3, r4, r5, r6⟩ := (hR.same e23).row (K := K) (show L - p.length - 1 ≤ len by omega)
        obtain ⟨o, ho, _⟩ := (hB (L - p.length - 1) (by omega)).2 h t4
        have r7 := atI_row ho
        have hcan : Can M.ar 0 M.g z last thr (L - p.length - 1) h (acc + z * M.g k) ↔ ∃ b, o = some b ∧ thr ≤ acc + z * M.g k + b := by rw [can_best (hB (L - p.length - 1) (by omega)) t4, rowF_of ho]
        have skip : ¬ Can M.ar 0 M.g z last thr (L - p.length - 1) h (acc + z * M.g k) → ∀ j' k2 h2, j' < j + 1 → (outsOf M.ar place)[j']? = some k2 → M.ar[k2]? = some (place, h2) → ¬ Can M.ar 0 M.g z last thr (L - p.length - 1) h2 (acc + z * M.g k2) := fun nc j2 k2 h2 hj2 hk2 hp2 => by
          by_cases hlt : j2 < j
          · exact hno j2 k2 h2 hlt hk2 hp2
          · have ej : j2 = j := by omega
            subst ej
            rw [hk] at hk2
            cases hk2
            rw [hp] at hp2
            cases hp2
            exact nc
        walk_at "go"
        refine ⟨me, M, k, rfl, ⟨c, tc, ta, tch, xs, mo3⟩, ok, hkm, ?_⟩
        refine c_I (small1 hz) ?_
        walk_at "go"
        rw [vO_non]
        cases o with
        | none =>
          refine c_ndt rfl ?_
          walk_at "go"
          exact ⟨_, _, _, rfl, e3, skip fun hc => by obtain ⟨b, e, _⟩ := hcan.mp hc; cases e⟩
        | some b =>
          refine c_ndf (by simp) ?_
          replace r7 : atI ((R (L - p.length - 1)).map vO) (h : Int) = some (.int b) := r7
          walk_at "go"
          refine d2 (fun h7 => ?_) fun h7 => ?_
          · walk_at "go"
            refine c_app hrp3 (by rw [List.length_map]; omega) ?_
            walk_at "go"
            refine ⟨p ++ [k], h, acc + z * M.g k, _, _, _, _, rfl, Same.mut e23 nrp, ?_, by simp [hpl], t4, ?_⟩
            · rw [upd_same, List.map_append]
              rfl
            · refine pr.next (by omega) hp (hcan.mpr ⟨b, rfl, h7⟩) fun j2 h2 hj2 hc2 => ?_
              obtain ⟨i2, hi2⟩ := at_outs (mem_outs.mpr ⟨h2, hj2⟩)
              by_cases hlt : i2 < j
              · exact absurd hc2 (hno i2 j2 h2 hlt hi2 hj2)
              · exact outs_sorted hk hi2 (by omega)
          · walk_at "go"
            exact ⟨_, _, _, rfl, e3, skip fun hc => by obtain ⟨b', e, l⟩ := hcan.mp hc; cases e; exact h7 l⟩
      · rintro σ'' H3 ⟨o10, o11, o12, rfl, e3, hno⟩
        exfalso
        obtain ⟨k, h, hp, _, hcan⟩ := pr.some (by omega)
        obtain ⟨i2, hi2⟩ := at_outs (mem_outs.mpr ⟨h, hp⟩)
        exact hno i2 k h (by rw [List.length_map]; exact (List.getElem?_eq_some_iff.mp hi2).1) hi2 hp hcan
    · rintro σ' H1 ⟨p, place, acc, o9, o10, o11, o12, rfl, e1, hrp, hpl, hplace, pr⟩
      dsimp only
      walk_at "go"
      refine ⟨rp, _, rfl, .inl ⟨.of hrp, fun a na => ?_⟩⟩
      exact q p (pr.done hpl) pr.least a _ (e1.trans (Same.new na)) (e1.free na) upd_same
end
end
end Pa
end
section
set_option Elab.async false
set_option linter.all false
set_option maxRecDepth 100000
set_option maxHeartbeats 4000000
namespace Pa
open PySem PySem.Spec PyProof.Rows L2
local macro_rules | `(tactic| walk_at "st") => `(tactic| first
  | ((with_reducible refine' c_var ?h0 ?_); (case h0 => rfl))
  | with_reducible refine c_c ?_
  | with_reducible refine c_op ?_
  | with_reducible refine c_un ?_
  | with_reducible refine c_I0 ?_
  | with_reducible refine c_U ?_
  | with_reducible refine c_eqI ?_
  | with_reducible refine c_neI ?_
  | with_reducible refine c_isN ?_
  | with_reducible refine c_notN ?_
  | ((with_reducible refine' c_ix2 ?h0 ?h1 ?_); (case h0 => assumption); (case h1 => assumption))
  | with_reducible refine c_fld ?_
  | ((with_reducible refine' c_fldv ?h0 ?_); (case h0 => assumption))
  | with_reducible refine c_bl ?_
  | with_reducible refine c_test ?_
  | with_reducible refine c_tB ?_
  | with_reducible refine c_and ?_
  | with_reducible refine c_or ?_
  | with_reducible refine c_not ?_
  | with_reducible refine c_notV ?_
  | with_reducible refine c_andV ?_
  | with_reducible refine c_orV ?_
  | with_reducible refine c_chain ?_
  | with_reducible refine c_if ?_
  | with_reducible refine c_nil ?_
  | with_reducible refine c_cons ?_
  | with_reducible refine c_fn ?_
  | with_reducible refine c_cb ?_
  | with_reducible refine c_tup ?_
  | with_reducible refine c_lst ?_
  | with_reducible refine c_asgL ?_
  | with_reducible refine c_asg ?_
  | with_reducible refine c_dropL ?_
  | with_reducible refine c_drop ?_
  | with_reducible refine c_asgG ?_
  | with_reducible refine c_asgGs ?_
  | with_reducible refine c_ret ?_
  | with_reducible refine c_ifL ?_
  | with_reducible refine c_ifS ?_
  | with_reducible refine c_nextL ?_
  | with_reducible refine c_yes ?_
  | with_reducible refine c_setF ?_
  | with_reducible refine c_setFs ?_
  | with_reducible refine c_mk ?_
  | with_reducible refine c_tru ?_
  | with_reducible refine c_mt ?_
  | ((with_reducible refine' c_mtO ?h0 ?_); (case h0 => assumption))
  | ((with_reducible refine' c_aug ?h0 ?_); (case h0 => rfl))
  | ((with_reducible refine' c_augL ?h0 ?_); (case h0 => rfl))
  | with_reducible refine c_ip ?_
  | with_reducible refine c_bm ?_
  | with_reducible refine c_bm0 ?_
  | ((with_reducible refine' c_ty ?h0 ?_); (case h0 => assumption))
  | with_reducible refine g_sub ?_
  | with_reducible refine g_name ?_
  | with_reducible refine g_nil ?_
  | with_reducible refine g_cons ?_
  | ((with_reducible refine' g_tup ?h0 ?h1 ?_); (case h0 => first | assumption | exact SqT.of upd_same); (case h1 => rfl))
  | with_reducible refine c_tt ?_
  | with_reducible refine c_ff ?_
  | with_reducible refine c_nt ?_
  | with_reducible refine c_nf ?_
  | with_reducible refine c_brk ?_)
local macro_rules | `(tactic| walk_at "go") => `(tactic| repeat (walk_at "st"))
section
/-! Drift, first_drift, find_fall. -/
section
variable {P : Program} {w : World} {K : PySem.W.Frag} {mg : Str → Option Value} {base : Heap}
theorem nb (a b : Str) (h : (a == b) = false) : ¬ a = b := fun e => by rw [e] at h; simp at h
def DriftAt (K : PySem.W.Frag) (H : Hp) (a : Addr) (xs : List V) (by_ : Int) : Prop := ∃ dx fs t, H a = some (.ins (He.ga K "Drift") dx fs) ∧ fs.lookup ("ring" : Str) = some (.ref t) ∧ fs.lookup ("by" : Str) = some (.int by_) ∧ SqT K H t xs
theorem DriftAt.mono {H H' : Hp} {a : Addr} {xs : List V} {b : Int} (e : Same H H') (h : DriftAt K H a xs b) : DriftAt K H' a xs b := by
  obtain ⟨dx, fs, t, h1, h2, h3, h4⟩ := h
  exact ⟨dx, fs, t, e _ _ h1, h2, h3, e.tup h4⟩
def spDrift (K : PySem.W.Frag) : Sp := fun vs H Q _ => ∃ (a dx t : Addr) (xs : List V) (b : Int), vs = [.ref a, .ref t, .int b] ∧ H a = some (.ins (He.ga K "Drift") dx []) ∧ SqT K H t xs ∧
  ∀ H' fs, (∀ x o, x ≠ a → H x = some o → H' x = some o) → H' a = some (.ins (He.ga K "Drift") dx fs) → fs.lookup ("ring" : Str) = some (.ref t) → fs.lookup ("by" : Str) = some (.int b) → Q .non H'
theorem ne_rb : ¬ ("ring" : Str) = "by" := by decide +kernel
theorem sc_Drift_init : FnScope ["self", "ring", "by"] ["self", "ring", "by"] (defScope s_Drift_init) := ⟨rfl, rfl, rfl, by decide +kernel, rfl, by decide +kernel, by decide +kernel⟩
theorem ok_Drift_init (T : Tx K mg) : Mt P w K mg base 1 "Drift" "__init__" ["self", "ring", "by"] (spDrift K) := by
  refine mt_mk (st := s_Drift_init) T.f_Drift_init sc_Drift_init (fun _ _ _ _ _ _ us hl => match us, hl with | [_, _, _], _ => rfl) ?len (fun cdv A outer s H vs Q E hr h => ?body)
  case len => exact fun vs H Q E ⟨a, dx, t, xs, b, e, _⟩ => by rw [e]; rfl
  case body =>
    obtain ⟨a, dx, t, xs, b, rfl, ha, ht, q⟩ := h
    refine ⟨_, (pss_cons (kSetF K (pv 0) (pe_callTy (kTup K) rfl T.z_tuple bt_tuple (pa_cons (pv 1) pa_nil)))
      (pss_one (kSetF K (pv 0) (pv 2)))), ?_⟩
    show (_ : TS) { nx := fun _ H' => Q .non H', rt := Q } ([some (.ref a), some (.ref t), some (.int b)] : L2.St) H
    walk_at "go"
    refine ⟨t, xs, rfl, .inr ⟨ht, ?_⟩⟩
    walk_at "go"
    refine setF ha T.c_Drift T.n_Drift_ring (by simp) ?_
    walk_at "go"
    refine setF upd_same T.c_Drift T.n_Drift_by (by simp [putF]) ?_
    refine q _ _ (fun x o hx e => ?_) upd_same ?_ ?_
    · rw [upd_ne hx, upd_ne hx]
      exact e
    · rw [lookup_putF, if_neg ne_rb, lookup_putF, if_pos rfl]
    · rw [lookup_putF, if_pos rfl]
theorem mk_drift {t : Addr} {xs : List V} {b : Int} {H : Hp} {Q : VK} (ht : SqT K H t xs) (q : ∀ a H', Same H H' → H a = none → DriftAt K H' a xs b → Q (.ref a) H') : MkO (He.ga K "Drift") (spDrift K) [.ref t, .int b] H Q := by
  intro a dx na ndx hne
  have e1 : Same H (upd H dx (.own a)) := Same.new ndx
  have e2 : Same H (upd (upd H dx (.own a)) a (.ins (He.ga K "Drift") dx [])) := Same.mut e1 na
  refine ⟨a, dx, t, xs, b, rfl, upd_same, e2.tup ht, fun H' fs k h1 h2 h3 => ⟨rfl, ?_⟩⟩
  have e3 : Same H H' := fun x o e => k x o (ne_of_none e na) (e2 _ _ e)
  exact q a H' e3 na ⟨dx, fs, t, h1, h2, h3, e3.tup ht⟩
end
end
section
/-! first_drift, find_fall. -/
section
variable {P : Program} {w : World} {K : PySem.W.Frag} {mg : Str → Option Value} {base : Heap}
/-- a list of tuples of numbers -/
def FoundAt (H : Hp) (fp : Addr) (rs : List (List Nat)) : Prop := ∃ as : List Addr, H fp = some (.lst (as.map V.ref)) ∧ as.length = rs.length ∧ ∀ (k : Nat) (a : Addr) (r : List Nat), as[k]? = some a → rs[k]? = some r → H a = some (.tup (r.map vN))
theorem FoundAt.mono {H H' : Hp} {fp : Addr} {rs : List (List Nat)} (e : Same H H') (h : FoundAt H fp rs) : FoundAt H' fp rs := by
  obtain ⟨as, h1, h2, h3⟩ := h
  exact ⟨as, e _ _ h1, h2, fun k a r q1 q2 => e _ _ (h3 k a r q1 q2)⟩
theorem FoundAt.add {H : Hp} {fp a : Addr} {rs : List (List Nat)} {r : List Nat} {xs : List V} (h : FoundAt H fp rs) (hx : H fp = some (.lst xs)) (ha : H a = some (.tup (r.map vN))) : FoundAt (upd H fp (.lst (xs ++ [.ref a]))) fp (rs ++ [r]) := by
  obtain ⟨as, h1, h2, h3⟩ := h
  rw [hx] at h1
  have ex : xs = as.map V.ref := by cases h1; rfl
  have nt : ∀ {b : Addr} {ys : List V}, H b = some (.tup ys) → b ≠ fp := fun hb => ne_of hb hx (by intro z; cases z)
  refine ⟨as ++ [a], by rw [upd_same, ex]; simp, by simp [h2], fun k b r' q1 q2 => ?_⟩
  by_cases hk : k < as.length
  · rw [List.getElem?_append_left hk] at q1
    rw [List.getElem?_append_left (by omega)] at q2
    rw [upd_ne (nt (h3 k b r' q1 q2))]
    exact h3 k b r' q1 q2
  · rw [List.getElem?_append_right (by omega)] at q1
    rw [List.getElem?_append_right (by omega), ← h2] at q2
    have hk0 : k - as.length = 0 := by
      cases e : k - as.length with
      | zero => rfl
      | succ m => rw [e] at q1; simp at q1
    rw [hk0] at q1 q2
    cases q1
    cases q2
    rw [upd_ne (nt ha)]
    exact ha
theorem FoundAt.dp {H : Hp} {fp : Addr} {rs : List (List Nat)} (h : FoundAt H fp rs) : ∃ xs, H fp = some (.lst xs) ∧ DpAll K H xs (rs.map tN) := by
  obtain ⟨as, h1, h2, h3⟩ := h
  refine ⟨as.map V.ref, h1, ?_⟩
  clear h1
  induction as generalizing rs with
  | nil =>
    cases rs with
    | nil => exact .nil
    | cons r rs => simp at h2
  | cons a as ih =>
    cases rs with
    | nil => simp at h2
    | cons r rs =>
      exact .cons (.tup (.of (h3 0 a r rfl rfl)) (DpAll.of_nats r)) (ih (by simpa using h2) fun k b r' q1 q2 => h3 (k + 1) b r' (by simpa using q1) (by simpa using q2))
def Tabs (M : MD) (own : Addr → Prop) (H : Hp) (tbs : List Addr) : Prop := ∀ (j : Nat) (tb : Addr), tbs[j]? = some tb → ∃ R, TabAt own H tb R (M.costs.length - j) ∧ ∀ k, k ≤ M.costs.length - j → RowB M.costs.length (Rest M.ar j M.g (-1) (rowF (lastR M.costs.length j)) k) (R k)
theorem Tabs.mono {M : MD} {own : Addr → Prop} {H H' : Hp} {tbs : List Addr} (h : Tabs M own H tbs) (e : ∀ a o, own a → H a = some o → H' a = some o) : Tabs M own H' tbs := fun j tb q => by
  obtain ⟨R, h1, h2⟩ := h j tb q
  exact ⟨R, h1.mono e, h2⟩
theorem RowsAt.imp {own own' : Addr → Prop} {H : Hp} {rp : Addr} {R : Nat → List (Option Int)} {len : Nat} (h : RowsAt own H rp R len) (e : ∀ a, own a → own' a) : RowsAt own' H rp R len := by
  obtain ⟨h1, ras, h2, h3, h4⟩ := h
  exact ⟨e _ h1, ras, h2, h3, fun j ra q => ⟨e _ (h4 j ra q).1, (h4 j ra q).2⟩⟩
def spFirst (K : PySem.W.Frag) : Sp := fun vs H Q _ => ∃ (me se : Addr) (M : MD), vs = [.ref me, .ref se] ∧ MeterAt K H me M ∧ M.Ok ∧ SqT K H se [.int (-1)] ∧
  ((∀ r, Ring M.ar r → 0 ≤ gs M.g r) → ∀ H', Same H H' → Q .non H') ∧ (∀ r, MinFall M.ar M.g r → ∀ a H', Same H H' → H a = none → DriftAt K H' a (r.map vN) (gs M.g r) → Q (.ref a) H')
theorem last_step (n s i : Nat) : (((List.range (i + 1)).map fun v => if v = s then some (0 : Int) else none).map vO) = (((List.range i).map fun v => if v = s then some (0 : Int) else none).map vO) ++ [if i = s then V.int 0 else V.non] := by
  rw [List.range_succ, List.map_append, List.map_append]
  by_cases h : i = s <;> simp [h, vO]
theorem sc_first_drift : FnScope ["meter", "senses", "many", "tables", "start", "last_row", "length", "found", "ring", "place", "sense", "arrow"] ["meter", "senses"] (defScope s_first_drift) := ⟨rfl, rfl, rfl, by decide +kernel, rfl, by decide +kernel, by decide +kernel⟩
theorem ok_first_drift (T : Tx K mg) (G_arrow_gain : Fn P w K mg base 1 "arrow_gain" ["meter", "arrow"] (spGain K)) (G_rest_rows : Fn P w K mg base 2 "rest_rows" ["meter", "last_row", "lowest", "length", "sense"] (spRest K)) (G_least_ring : Fn P w K mg base 4 "least_ring" ["meter", "tables", "start", "length"] (spRing K)) (G_Drift : Mt P w K mg base 1 "Drift" "__init__" ["self", "ring", "by"] (spDrift K)) : Fn P w K mg base 5 "first_drift" ["meter", "senses"] (spFirst K) := by
  refine fn_mk (st := s_first_drift) T.f_first_drift T.g_first_drift sc_first_drift (fun _ _ _ _ _ _ us hl => match us, hl with | [_, _], _ => rfl) ?len (fun cdv A outer s H vs Q E hr h => ?body)
  case len => exact fun vs H Q E ⟨me, se, M, e, _⟩ => by rw [e]; rfl
  case body =>
    obtain ⟨me, se, M, rfl, hM, ok, hse, q0, q1⟩ := h
    refine ⟨_, (pss_cons (ps_set (i := 2) sc_first_drift.nd rfl (Or.inr rfl) (pe_callB (kLen K) rfl T.z_len bt_len (pa_cons (kFld K (kFld K (pv 0))) pa_nil)))
      (pss_cons (ps_set (i := 3) sc_first_drift.nd rfl (Or.inl rfl) (pe_lst pa_nil))
      (pss_cons (ps_for PassesOwn.never rfl (pi_range1 rfl T.z_range (pa_cons (pv 2) pa_nil)) (pg_name (i := 4) sc_first_drift.nd rfl (Or.inr rfl)) (pss_cons (ps_set (i := 5) sc_first_drift.nd rfl (Or.inr rfl) (pe_lc (own := [("place", 9)]) rfl sc_first_drift.nd (pi_range1 rfl T.z_range (pa_cons (pv 2) pa_nil)) (blkOk_by (own := [("place", 9)]) (N := ["meter", "senses", "many", "tables", "start", "last_row", "length", "found", "ring", "place", "sense", "arrow"]) (sc := defScope s_first_drift) (by decide +kernel)) (fun _ _ _ _ _ => (pg_name (i := 9) sc_first_drift.nd rfl (Or.inl rfl))) (fun _ _ _ _ _ => pts_nil) (fun _ _ _ _ _ => (pe_ifExp (pt_cmpR op_eq (pv 9) (pv 4) (nomark _)) pe_int pe_non))))
      (pss_one (ps_expr (kApp K (pv 3) (pe_lc (own := [("sense", 10)]) rfl sc_first_drift.nd (kSeq K (pv 1)) (blkOk_by (own := [("sense", 10)]) (N := ["meter", "senses", "many", "tables", "start", "last_row", "length", "found", "ring", "place", "sense", "arrow"]) (sc := defScope s_first_drift) (by decide +kernel)) (fun _ _ _ _ _ => (pg_name (i := 10) sc_first_drift.nd rfl (Or.inl rfl))) (fun _ _ _ _ _ => pts_nil) (fun _ _ _ _ _ => (pe_tup (pa_cons (pv 10) (pa_cons (pe_fn G_rest_rows hr rfl (pa_cons (pv 0) (pa_cons (pv 5) (pa_cons (pv 4) (pa_cons (pe_op op_sub (pv 2) (pv 4)) (pa_cons (pv 10) pa_nil)))))) pa_nil))))))))))
      (pss_cons (ps_for PassesOwn.never rfl (pi_range2 rfl T.z_range (pa_cons pe_int (pa_cons (pe_op op_add (pv 2) pe_int) pa_nil))) (pg_name (i := 6) sc_first_drift.nd rfl (Or.inl rfl)) (pss_cons (ps_set (i := 7) sc_first_drift.nd rfl (Or.inl rfl) (pe_lst pa_nil))
      (pss_cons (ps_for PassesOwn.never rfl (pi_range1 rfl T.z_range (pa_cons (pe_op op_sub (pe_op op_add (pv 2) pe_int) (pv 6)) pa_nil)) (pg_name (i := 4) sc_first_drift.nd rfl (Or.inr rfl)) (pss_cons (ps_set (i := 8) sc_first_drift.nd rfl (Or.inl rfl) (pe_fn G_least_ring hr rfl (pa_cons (pv 0) (pa_cons (pe_ix (kIx K) (pv 3) (pv 4) (fun _ _ => rfl)) (pa_cons (pv 4) (pa_cons (pv 6) pa_nil))))))
      (pss_one (ps_if (pt_cmpR op_notN1 (pv 8) pe_non (nomark _)) (pss_one (ps_expr (kApp K (pv 7) (pv 8)))) pss_nil))))
      (pss_one (ps_if (kTru K (pv 7)) (pss_cons (ps_set (i := 8) sc_first_drift.nd rfl (Or.inl rfl) (pe_ix (kIx K) (pe_callB (kSort K hr) rfl T.z_sorted bt_sorted (pa_cons (pv 7) pa_nil)) pe_int (fun _ _ => rfl)))
      (pss_one (ps_ret (kMk K T.k_Drift G_Drift hr rfl T.g_Drift (pa_cons (pv 8) (pa_cons (pe_callB (kSum K) rfl T.z_sum bt_sum (pa_cons (pe_lc (own := [("arrow", 11)]) rfl sc_first_drift.nd (kSeq K (pv 8)) (blkOk_by (own := [("arrow", 11)]) (N := ["meter", "senses", "many", "tables", "start", "last_row", "length", "found", "ring", "place", "sense", "arrow"]) (sc := defScope s_first_drift) (by decide +kernel)) (fun _ _ _ _ _ => (pg_name (i := 11) sc_first_drift.nd rfl (Or.inl rfl))) (fun _ _ _ _ _ => pts_nil) (fun _ _ _ _ _ => (pe_fn G_arrow_gain hr rfl (pa_cons (pv 0) (pa_cons (pv 11) pa_nil))))) pa_nil)) pa_nil)))))) pss_nil)))))
      (pss_one (ps_ret pe_non)))))), ?_⟩
    show (_ : TS) { nx := fun _ H' => Q .non H', rt := Q } ([some (.ref me), some (.ref se), none, none, none, none, none, none, none, none, none, none] : L2.St) H
    have ok1 := ok.n1
    have ok2 := ok.n2
    obtain ⟨c, tc, ta, tch, xs, mo⟩ := hM
    obtain ⟨f1, f2, f3, f4, f5, f6, f7, f8, f9, fA, fB, f10, fC, _⟩ := id mo
    walk_at "go"
    refine c_len f6 ?_
    walk_at "go"
    refine ⟨Nat.zero_le _, fun tp ntp => ?_⟩
    rw [List.length_map]
    have e0 : Same H (upd H tp (.lst [])) := Same.new ntp
    walk_at "go"
    refine c_seq (f_r1 ?_)
    walk_at "go"
    refine ovR1 (by omega) ?_
    have en : ((M.costs.length : Nat) : Int).toNat = M.costs.length := by omega
    rw [en]
    refine fo walk_range (fun i σ' H' => ∃ (tbs : List Addr) (o4 o5 o6 o7 o8 o9 o10 o11 : Option V), σ' = [some (.ref me), some (.ref se), some (.int (M.costs.length : Nat)), some (.ref tp), o4, o5, o6, o7, o8, o9, o10, o11] ∧ Same H H' ∧ H' tp = some (.lst (tbs.map V.ref)) ∧ tbs.length = i ∧ Tabs M (fun a => H a = none ∧ a ≠ tp) H' tbs) ?_ (fun _ _ _ _ _ => trivial) ?_ ?_
    · exact ⟨[], _, _, _, _, _, _, _, _, rfl, e0, upd_same, rfl, fun j tb z => by simp at z⟩
    · rintro i x σ' H1 H1' hi ⟨tbs, o4, o5, o6, o7, o8, o9, o10, o11, rfl, e1, htp, hlen, hT⟩ ⟨rfl, rfl⟩
      simp only [Int.zero_add]
      walk_at "go"
      refine l_r1 ?_
      walk_at "go"
      refine ovR1 (by omega) ?_
      rw [en]
      refine lp walk_range (fun _ _ => trivial) (fun k acc => acc = ((List.range k).map fun v => if v = i then some (0 : Int) else none).map vO) rfl ?_ ?_
      · rintro D j x acc H2 H2' nD hj hla hD e2 hR ⟨rfl, rfl⟩
        simp only [Int.zero_add]
        walk_at "go"
        refine ⟨rfl, ?_⟩
        walk_at "go"
        refine d2 (fun h => ?_) fun h => ?_
        · walk_at "go"
          refine Lp.add nD hD e2 (Same.refl _) hla ?_ (by omega)
          rw [hR, last_step M.costs.length, if_pos (by omega)]
        · walk_at "go"
          refine Lp.add nD hD e2 (Same.refl _) hla ?_ (by omega)
          rw [hR, last_step M.costs.length, if_neg (by omega)]
      · intro lr acc H2 nlr e2 hlr hla hR
        have hlr2 : H2 lr = some (.lst ((lastR M.costs.length i).map vO)) := by rw [hlr, hR]; rfl
        have htp2 := e2 _ _ htp
        have e02 := e1.trans e2
        have hse2 := e02.tup hse
        walk_at "go"
        refine l_seq ?_
        walk_at "go"
        have onew : ∀ {Hx : Hp} {a : Addr}, Same H2 Hx → Hx a = none → H a = none ∧ a ≠ tp := fun {Hx a} e na => ⟨(e02.trans e).free na, fun q => by rw [q, e _ _ htp2] at na; cases na⟩
        refine ovT hse2 (lg walk_tup (fun D j acc Hx => Same H2 Hx ∧ (j = 0 → acc = []) ∧ (j = 1 → ∃ tt rr R, acc = [.ref tt] ∧ (H tt = none ∧ tt ≠ tp ∧ tt ≠ D) ∧ Hx tt = some (.tup [.int (-1), .ref rr]) ∧ RowsAt (fun a => H a = none ∧ a ≠ tp ∧ a ≠ D) Hx rr R (M.costs.length - i) ∧ ∀ k, k ≤ M.costs.length - i → RowB M.costs.length (Rest M.ar i M.g (-1) (rowF (lastR M.costs.length i)) k) (R k))) (fun D nD => ⟨Same.new nD, fun _ => rfl, fun z => by omega⟩) (fun D j acc Hx _ _ _ p => p.1.tup hse2) ?_ ?_)
        · rintro D j x acc Hx Hx' nD hj hla hD ⟨eX, hacc, _⟩ ⟨rfl, hx⟩
          have j0 : j = 0 := by simp at hj; omega
          subst j0
          cases hx
          have hacc0 := hacc rfl
          subst hacc0
          have eI : ((M.costs.length : Nat) : Int) - (i : Int) = ((M.costs.length - i : Nat) : Int) := by omega
          walk_at "go"
          refine ⟨rfl, ?_⟩
          walk_at "go"
          rw [eI]
          have lrD : lr ≠ D := ne_of_none hlr2 nD
          have lrtp : lr ≠ tp := fun q => by rw [q, htp] at nlr; cases nlr
          refine ⟨me, lr, M, lastR M.costs.length i, i, M.costs.length - i, -1, fun a => H a = none ∧ a ≠ tp ∧ a ≠ D, rfl, ⟨c, tc, ta, tch, xs, mo.mono (e02.trans eX)⟩, ok, eX _ _ hlr2, lastR_len, by omega, ⟨by omega, by omega⟩, ⟨e1.free nlr, lrtp, lrD⟩, fun a na => ⟨(onew eX na).1, (onew eX na).2, fun q => by rw [q, hD] at na; cases na⟩, fun rr R H4 e4 nrr hR4 hB4 => ?_⟩
          walk_at "go"
          refine ⟨by show 2 ≤ sizeLine; decide, fun tt ntt => ?_⟩
          have e5 : Same H4 (upd H4 tt (.tup [.int (-1), .ref rr])) := Same.new ntt
          have eX5 := (eX.trans e4).trans e5
          have hD5 := (e4.trans e5) _ _ hD
          have ttD : tt ≠ D := fun q => by rw [q, e4 _ _ hD] at ntt; cases ntt
          have otn := onew (eX.trans e4) ntt
          refine Lc.add hD5 hla (by omega) ⟨Same.mut eX5 nD, fun z => by omega, fun _ => ⟨tt, rr, R, rfl, ⟨otn.1, otn.2, ttD⟩, by rw [upd_ne ttD, upd_same], (hR4.same e5).mono fun a o ho e => by rw [upd_ne ho.2.2]; exact e, hB4⟩⟩
        · intro D acc Hx nD hD hla ⟨eX, _, h1⟩
          obtain ⟨tt, rr, R, rfl, ott, htt, hRx, hBx⟩ := h1 rfl
          have htpX := eX _ _ htp2
          have oD : H D = none ∧ D ≠ tp := ⟨e02.free nD, fun q => by rw [q, htp2] at nD; cases nD⟩
          walk_at "go"
          refine c_app htpX (by rw [List.length_map]; omega) ?_
          refine ⟨tbs ++ [D], _, _, _, _, _, _, _, _, rfl, Same.mut (e02.trans eX) ntp, by rw [upd_same]; simp, by simp [hlen], fun j tb hj => ?_⟩
          by_cases hjl : j < tbs.length
          · rw [List.getElem?_append_left hjl] at hj
            exact ((hT.mono fun a o ho e => (e2.trans eX) a o e).mono fun a o ho e => by rw [upd_ne ho.2]; exact e) j tb hj
          · have ej : j = i := by
              have := (List.getElem?_eq_some_iff.mp hj).1
              simp at this
              omega
            subst ej
            rw [List.getElem?_append_right (by omega), hlen] at hj
            simp at hj
            subst hj
            refine ⟨R, ⟨oD, tt, rr, by rw [upd_ne oD.2]; exact hD, ⟨ott.1, ott.2.1⟩, by rw [upd_ne ott.2.1]; exact htt, (hRx.imp fun a h => ⟨h.1, h.2.1⟩).mono fun a o ho e => by rw [upd_ne ho.2]; exact e⟩, hBx⟩
    · rintro σ' H1 ⟨tbs, o4, o5, o6, o7, o8, o9, o10, o11, rfl, e1, htp, hlen, hT⟩
      dsimp only
      refine c_seq (f_r2 ?_)
      walk_at "go"
      refine ovR2 (by omega) ?_
      rw [show (((M.costs.length : Nat) : Int) + 1 - 1).toNat = M.costs.length by omega]
      refine fo walk_range (fun i σ' H' => ∃ (o4 o5 o6 o7 o8 o9 o10 o11 : Option V), σ' = [some (.ref me), some (.ref se), some (.int (M.costs.length : Nat)), some (.ref tp), o4, o5, o6, o7, o8, o9, o10, o11] ∧ Same H1 H' ∧ ∀ r', Ring M.ar r' → gs M.g r' < 0 → i + 1 ≤ r'.length) ⟨_, _, _, _, _, _, _, _, rfl, Same.refl _, fun r' hr' _ => ring_len hr'⟩ (fun _ _ _ _ _ => trivial) ?_ ?_
      · rintro i x σ' H2 H2' hi ⟨o4, o5, o6, o7, o8, o9, o10, o11, rfl, e2, hmin⟩ ⟨rfl, rfl⟩
        have eI : (1 : Int) + (i : Int) = ((i + 1 : Nat) : Int) := by omega
        show gName 6 (.int (1 + (i : Nat))) _ _ _
        rw [eI]
        have e12 := e1.trans e2
        walk_at "go"
        refine ⟨Nat.zero_le _, fun fp nfp => ?_⟩
        have e3 : Same H2' (upd H2' fp (.lst [])) := Same.new nfp
        walk_at "go"
        refine c_seq (f_r1 ?_)
        walk_at "go"
        refine ovR1 (by omega) ?_
        rw [show (((M.costs.length : Nat) : Int) + 1 - ((i + 1 : Nat) : Int)).toNat = M.costs.length - i by omega]
        refine fo walk_range (fun j σ'' H'' => ∃ (rs : List (List Nat)) (o4 o5 o8 o9 o10 o11 : Option V), σ'' = [some (.ref me), some (.ref se), some (.int (M.costs.length : Nat)), some (.ref tp), o4, o5, some (vN (i + 1)), some (.ref fp), o8, o9, o10, o11] ∧ Same H2' H'' ∧ FoundAt H'' fp rs ∧ rs.length ≤ j ∧ (∀ r ∈ rs, ∃ s, Wk M.ar s s r s ∧ r.length = i + 1 ∧ gs M.g r < 0) ∧ ∀ s, s < j → ∀ r, Wk M.ar s s r s → r.length = i + 1 → gs M.g r < 0 → ∃ r1 ∈ rs, LexLe r1 r) ?_ (fun _ _ _ _ _ => trivial) ?_ ?_
        · exact ⟨[], _, _, _, _, _, _, rfl, e3, ⟨[], upd_same, rfl, fun k a r z => by simp at z⟩, Nat.le_refl _, (fun r hr => by cases hr), fun s z => absurd z (Nat.not_lt_zero _)⟩
        · rintro j x σ'' H3 H3' hj ⟨rs, o4, o5, o8, o9, o10, o11, rfl, e4, hF, hrl, hin, hall⟩ ⟨rfl, rfl⟩
          simp only [Int.zero_add]
          have e24 := e2.trans e4
          have htp3 : SqA K H3' tp (tbs.map V.ref) := .lst (e24 _ _ htp)
          obtain ⟨tb, htb⟩ := getElem_some (l := tbs) (k := j) (by omega)
          have htb2 : atI (tbs.map V.ref) (j : Int) = some (.ref tb) := atI_map htb
          obtain ⟨R, hTab, hB⟩ := hT j tb htb
          have hjn : j < M.costs.length := by omega
          walk_at "go"
          refine ⟨me, tb, M, R, M.costs.length - j, j, i + 1, _, rfl, ⟨c, tc, ta, tch, xs, mo.mono (e12.trans e4)⟩, ok, hTab.same e24, by omega, by omega, hjn, hB, fun hnone => ?_, fun r hr hrmin a H4 e5 na ha => ?_⟩
          · walk_at "go"
            refine c_ndt rfl ?_
            walk_at "go"
            refine ⟨rs, _, _, _, _, _, _, rfl, e4, hF, by omega, hin, fun s hs r w1 w2 w3 => ?_⟩
            by_cases hsj : s < j
            · exact hall s hsj r w1 w2 w3
            · have esj : s = j := by omega
              subst esj
              exact absurd ((fall_good hjn).mpr ⟨w1, w2, w3⟩) (hnone r)
          · walk_at "go"
            refine c_ndf (by intro z; cases z) ?_
            have hF4 := hF.mono e5
            obtain ⟨as, has, _⟩ := id hF4
            walk_at "go"
            refine c_app has (by rw [List.length_map]; obtain ⟨as', q1, q2, _⟩ := hF4; rw [has] at q1; have : as.length = as'.length := by have := congrArg (fun z => match z with | some (HO.lst l) => l.length | _ => 0) q1; simpa using this
                                 omega) ?_
            have hrg := (fall_good hjn).mp hr
            refine ⟨rs ++ [r], _, _, _, _, _, _, rfl, Same.mut (e4.trans e5) nfp, hF4.add has ha, by simp; omega, fun r' hr' => ?_, fun s hs r' w1 w2 w3 => ?_⟩
            · rcases List.mem_append.mp hr' with q | q
              · exact hin r' q
              · rw [List.mem_singleton.mp q]
                exact ⟨j, hrg⟩
            · by_cases hsj : s < j
              · obtain ⟨r1, m1, l1⟩ := hall s hsj r' w1 w2 w3
                exact ⟨r1, List.mem_append_left _ m1, l1⟩
              · have esj : s = j := by omega
                subst esj
                exact ⟨r, by simp, hrmin r' ((fall_good hjn).mpr ⟨w1, w2, w3⟩)⟩
        · rintro σ'' H3 ⟨rs, o4, o5, o8, o9, o10, o11, rfl, e4, hF, hrl, hin, hall⟩
          dsimp only
          obtain ⟨ys, hys, hdp⟩ := hF.dp (K := K)
          walk_at "go"
          refine trL (.of hys) ?_
          have hyl := hdp.len
          rw [List.length_map] at hyl
          refine b2 (fun hb => ?_) fun hb => ?_
          · have hne : rs ≠ [] := fun z => by
              rw [z] at hyl
              have : ys = [] := List.length_eq_zero_iff.mp hyl
              rw [this] at hb
              cases hb
            obtain ⟨l', r0, hm0, hsort, hle⟩ := sort_first hne
            walk_at "go"
            refine ⟨fp, ys, rs.map tN, rfl, .of hys, hdp, PySem.W.AllAlike.of fun a b => alike_tN a b, .inl fun d hd => ?_, fun d hd => ?_, fun sp zs nsp hzl hzd => ?_⟩
            · obtain ⟨r, hr, rfl⟩ := List.mem_map.mp hd
              obtain ⟨s, w1, w2, w3⟩ := hin r hr
              cases r with
              | nil => simp at w2
              | cons k r => exact ⟨_, _, rfl⟩
            · obtain ⟨r, hr, rfl⟩ := List.mem_map.mp hd
              exact depth_tN r
            · rw [hsort] at hzd
              cases hzd with
              | @cons v vs _ _ hv hvs =>
                obtain ⟨ra, us, rfl, hra, hus⟩ := hv.tupE
                have hus2 : us = r0.map vN := DpAll.nats hus
                subst hus2
                have e5 : Same H3 (upd H3 sp (.lst (.ref ra :: vs))) := Same.new nsp
                have g1 : SqA K (upd H3 sp (.lst (.ref ra :: vs))) sp (.ref ra :: vs) := .lst upd_same
                have g2 : atI (.ref ra :: vs) 0 = some (V.ref ra) := atI_nat (j := 0) rfl
                have hra5 := e5.tup hra
                have e6 := (e12.trans e4).trans e5
                generalize upd H3 sp (.lst (.ref ra :: vs)) = H5 at *
                have hmf : MinFall M.ar M.g r0 := min_fall ok.arr (by omega) hmin hin (fun s hs r w1 w2 w3 => hall s (by omega) r w1 w2 w3) hm0 hle
                walk_at "go"
                refine l_seq ?_
                walk_at "go"
                refine ovT hra5 (lp walk_tup (fun Hx e => e.tup hra5) (fun k acc => acc = ((r0.take k).map M.g).map V.int) rfl ?_ ?_)
                · rintro D k x acc H6 H6' nD hk hla hD e7 hR ⟨rfl, hx⟩
                  obtain ⟨kk, hkk⟩ := getElem_some (l := r0) (k := k) (by simpa using hk)
                  rw [List.getElem?_map, hkk] at hx
                  cases hx
                  walk_at "go"
                  refine ⟨rfl, ?_⟩
                  walk_at "go"
                  obtain ⟨s, w1, w2, w3⟩ := hin r0 hm0
                  refine ⟨me, M, kk, rfl, ⟨c, tc, ta, tch, xs, mo.mono (e6.trans e7)⟩, ok, w1.lt kk (List.mem_of_getElem? hkk), ?_⟩
                  refine Lp.add nD hD e7 (Same.refl _) hla ?_ (by rw [List.length_map] at hk; obtain ⟨s, w1, w2, w3⟩ := hin r0 hm0; omega)
                  rw [hR, List.take_add_one, hkk]
                  simp
                · intro D acc H6 nD e7 hD hla hR
                  walk_at "go"
                  refine ⟨D, r0.map M.g, rfl, .of (by rw [hD, hR]; simp), ?_⟩
                  walk_at "go"
                  refine mk_drift (e7.tup hra5) fun a H7 e8 na hdr => ?_
                  rw [sum_gs] at hdr
                  have e9 := (e6.trans e7).trans e8
                  exact q1 r0 hmf a H7 e9 ((e6.trans e7).free na) hdr
          · have hrs : rs = [] := by
              cases ys with
              | nil => exact List.length_eq_zero_iff.mp (by simpa using hyl.symm)
              | cons y ys => cases hb
            subst hrs
            walk_at "go"
            refine ⟨_, _, _, _, _, _, _, _, rfl, e2.trans e4, no_len ok.arr (fun s hs r w1 w2 w3 => ?_) hmin⟩
            obtain ⟨r1, m1, _⟩ := hall s (by omega) r w1 w2 w3
            cases m1
      · rintro σ' H2 ⟨o4, o5, o6, o7, o8, o9, o10, o11, rfl, e2, hmin⟩
        dsimp only
        walk_at "go"
        exact q0 (fun r hr => no_ring ok.arr hmin hr) _ (e1.trans e2)
end
end
section
/-! find_fall, check_run, places_of, used_by, charged, lead_behind. -/
section
variable {P : Program} {w : World} {K : PySem.W.Frag} {mg : Str → Option Value} {base : Heap}
def spFall (K : PySem.W.Frag) : Sp := fun vs H Q _ => ∃ (me : Addr) (M : MD), vs = [.ref me] ∧ MeterAt K H me M ∧ M.Ok ∧
  ((∀ r, Ring M.ar r → 0 ≤ gs M.g r) → ∀ H', Same H H' → Q .non H') ∧ (∀ r, MinFall M.ar M.g r → ∀ a H', Same H H' → H a = none → DriftAt K H' a (r.map vN) (gs M.g r) → Q (.ref a) H')
theorem sc_find_fall : FnScope ["meter"] ["meter"] (defScope s_find_fall) := ⟨rfl, rfl, rfl, by decide +kernel, rfl, by decide +kernel, by decide +kernel⟩
theorem ok_find_fall (T : Tx K mg) (G_first_drift : Fn P w K mg base 5 "first_drift" ["meter", "senses"] (spFirst K)) : Fn P w K mg base 6 "find_fall" ["meter"] (spFall K) := by
  refine fn_mk (st := s_find_fall) T.f_find_fall T.g_find_fall sc_find_fall (fun _ _ _ _ _ _ us hl => match us, hl with | [_], _ => rfl) ?len (fun cdv A outer s H vs Q E hr h => ?body)
  case len => exact fun vs H Q E ⟨me, M, e, _⟩ => by rw [e]; rfl
  case body =>
    obtain ⟨me, M, rfl, hM, ok, q0, q1⟩ := h
    refine ⟨_, (pss_one (ps_ret (pe_fn G_first_drift hr rfl (pa_cons (pv 0) (pa_cons (pe_tup (pa_cons (pe_un un_neg pe_int) pa_nil)) pa_nil))))), ?_⟩
    show (_ : TS) { nx := fun _ H' => Q .non H', rt := Q } ([some (.ref me)] : L2.St) H
    walk_at "go"
    refine ⟨by show 1 ≤ sizeLine; decide, fun p np => ?_⟩
    have e1 := Same.new (o := .tup [.int (-1)]) np
    refine ⟨me, p, M, rfl, hM.mono e1, ok, .of upd_same, fun hn H' e => ?_, fun r hr a H' e na hd => ?_⟩
    · exact q0 hn H' (e1.trans e)
    · exact q1 r hr a H' (e1.trans e) (e1.free na) hd
/-! ### runs -/
theorem ar_at {H : Hp} {xs : List V} {ar : List (Nat × Nat)} (h : DpAll K H xs (ar.map arD)) {k : Nat} {p : Nat × Nat} (e : ar[k]? = some p) :
    ∃ a, xs[k]? = some (.ref a) ∧ atI xs (k : Int) = some (.ref a) ∧ SqA K H a [vN p.1, vN p.2] ∧ SqT K H a [vN p.1, vN p.2] := by
  obtain ⟨v, h1, h2⟩ := h.get (i := k) (d := arD p) (by rw [List.getElem?_map, e]; rfl)
  obtain ⟨a, ys, rfl, h3, h4⟩ := h2.tupE
  have h5 : ys = [vN p.1, vN p.2] := DpAll.nats (is := [p.1, p.2]) h4
  subst h5
  exact ⟨a, h1, atI_nat h1, .inr h3, h3⟩
/-- the place behind the first i arrows -/
theorem Wk.step {ar : List (Nat × Nat)} {lo a b : Nat} {r : List Nat} (w : Wk ar lo a r b) {i : Nat} (hi : i < r.length) : ∃ k t h, r[i]? = some k ∧ ar[k]? = some (t, h) ∧ Wk ar lo a (r.take i) t ∧ Wk ar lo a (r.take (i + 1)) h := by
  have e : r = r.take i ++ r.drop i := (List.take_append_drop i r).symm
  rw [e] at w
  obtain ⟨t, w1, w2⟩ := w.split
  obtain ⟨k, hk⟩ := getElem_some hi
  have e2 : r.drop i = k :: r.drop (i + 1) := by
    rw [List.drop_eq_getElem_cons hi]
    congr 1
    rw [List.getElem?_eq_getElem hi] at hk
    exact Option.some.inj hk
  rw [e2] at w2
  obtain ⟨h, h1, h2, h3⟩ := w2
  refine ⟨k, t, h, hk, h1, w1, ?_⟩
  rw [List.take_add_one, hk]
  exact w1.append ⟨h, h1, h2, rfl⟩
def spRun (K : PySem.W.Frag) : Sp := fun vs H Q _ => ∃ (c ru : Addr) (costs : List Int) (ar : List (Nat × Nat)) (r : List Nat) (b : Nat), vs = [.ref c, .ref ru] ∧ ChartAt K H c costs ar ∧ SqT K H ru (r.map vN) ∧ Wk ar 0 0 r b ∧ r.length ≤ 400 ∧ ∀ H', Same H H' → Q (.ref ru) H'
theorem sc_check_run : FnScope ["chart", "run", "place", "index", "arrow"] ["chart", "run"] (defScope s_check_run) := ⟨rfl, rfl, rfl, by decide +kernel, rfl, by decide +kernel, by decide +kernel⟩
theorem ok_check_run (T : Tx K mg) (G_is_whole : Fn P w K mg base 1 "is_whole" ["thing", "low", "high"] spWhole) (G_is_row : Fn P w K mg base 1 "is_row" ["thing", "least", "most"] (spRow K)) : Fn P w K mg base 2 "check_run" ["chart", "run"] (spRun K) := by
  refine fn_mk (st := s_check_run) T.f_check_run T.g_check_run sc_check_run (fun _ _ _ _ _ _ us hl => match us, hl with | [_, _], _ => rfl) ?len (fun cdv A outer s H vs Q E hr h => ?body)
  case len => exact fun vs H Q E ⟨c, ru, costs, ar, r, b, e, _⟩ => by rw [e]; rfl
  case body =>
    obtain ⟨c, ru, costs, ar, r, b, rfl, hc, hru, hw, hl, q⟩ := h
    refine ⟨_, (pss_cons (ps_if (pt_not (pt_val (pe_fn G_is_row hr rfl (pa_cons (pv 1) (pa_cons pe_int (pa_cons pe_int pa_nil)))))) (pss_one ps_never) pss_nil)
      (pss_cons (ps_set (i := 2) sc_check_run.nd rfl (Or.inl rfl) pe_int)
      (pss_cons (ps_for PassesOwn.never rfl (kEnum K rfl T.z_enumerate (pa_cons (pv 1) pa_nil)) (kGTup K (n := 2) (pgs_cons (pg_name (i := 3) sc_check_run.nd rfl (Or.inl rfl)) (pgs_cons (pg_name (i := 4) sc_check_run.nd rfl (Or.inl rfl)) pgs_nil))) (pss_cons (ps_if (PW.pt (pw_or (pt_not (pt_val (pe_fn G_is_whole hr rfl (pa_cons (pv 4) (pa_cons pe_int (pa_cons (pe_op op_sub (pe_callB (kLen K) rfl T.z_len bt_len (pa_cons (kFld K (pv 0)) pa_nil)) pe_int) pa_nil)))))) (pw_or1 (pt_cmpR op_ne (pe_ix (kIx K) (pe_ix (kIx K) (kFld K (pv 0)) (pv 4) (fun _ _ => rfl)) pe_int (fun _ _ => rfl)) (pv 2) (nomark _))))) (pss_one ps_never) pss_nil)
      (pss_one (ps_set (i := 2) sc_check_run.nd rfl (Or.inl rfl) (pe_ix (kIx K) (pe_ix (kIx K) (kFld K (pv 0)) (pv 4) (fun _ _ => rfl)) pe_int (fun _ _ => rfl))))))
      (pss_one (ps_ret (pe_callTy (kTup K) rfl T.z_tuple bt_tuple (pa_cons (pv 1) pa_nil))))))), ?_⟩
    show (_ : TS) { nx := fun _ H' => Q .non H', rt := Q } ([some (.ref c), some (.ref ru), none, none, none] : L2.St) H
    walk_at "go"
    refine ⟨ru, r.map vN, 0, 400, rfl, .inr hru, fun H1 e1 => ?_⟩
    walk_at "go"
    rw [List.length_map]
    refine c_ndt (by omega) ?_
    walk_at "go"
    have hru1 := e1.tup hru
    refine c_seq (f_enum ?_)
    walk_at "go"
    refine ovET hru1 (fo walk_et (fun i σ' H' => ∃ (pl : Nat) (o3 o4 : Option V), σ' = [some (.ref c), some (.ref ru), some (vN pl), o3, o4] ∧ Same H1 H' ∧ Wk ar 0 0 (r.take i) pl) ⟨0, _, _, rfl, Same.refl _, rfl⟩ (fun i σ' H' _ ⟨_, _, _, _, e, _⟩ => e.tup hru1) ?_ ?_)
    · rintro i x σ' H2 H2' hi ⟨pl, o3, o4, rfl, e2, hpl⟩ ⟨T1, x1, y1, rfl, hT, rfl, hx1, hy1⟩
      cases hx1
      replace hy1 : (r.map vN)[i]? = some y1 := hy1
      rw [List.length_map] at hi
      obtain ⟨k, t, hd, hk, hkk, w1, w2⟩ := hw.step hi
      rw [List.getElem?_map, hk] at hy1
      cases hy1
      cases w1.det hpl
      have e3 : Same H2 (upd H2 T1 (.tup [vN i, vN k])) := Same.new hT
      have e4 := (e1.trans e2).trans e3
      obtain ⟨dx, fs, tc, ta, xs, h1, h2, h3, h4, h5, h6, h7⟩ := hc.mono e4
      have f1 : FldAt K (upd H2 T1 (.tup [vN i, vN k])) c "arrows" (.ref ta) := ⟨_, _, _, h1, T.c_Chart, T.n_Chart_arrows, h3⟩
      have f2 : SqA K (upd H2 T1 (.tup [vN i, vN k])) ta xs := .inr h6
      obtain ⟨a, g1, g2, g3, g4⟩ := ar_at h7 hkk
      have g5 : atI ([vN pl, vN hd] : List V) 0 = some (vN pl) := atI_nat (j := 0) rfl
      have g6 : atI ([vN pl, vN hd] : List V) 1 = some (vN hd) := atI_nat (j := 1) rfl
      have hxl : xs.length = ar.length := by rw [h7.len, List.length_map]
      have hkl : k < ar.length := (List.getElem?_eq_some_iff.mp hkk).1
      walk_at "go"
      refine c_len f2 ?_
      walk_at "go"
      refine ⟨_, _, _, rfl, ?_⟩
      walk_at "go"
      refine c_ndt (by omega) ?_
      walk_at "go"
      refine c_ndt rfl ?_
      walk_at "go"
      exact ⟨hd, _, _, rfl, e2.trans e3, w2⟩
    · rintro σ' H2 ⟨pl, o3, o4, rfl, e2, hpl⟩
      dsimp only
      walk_at "go"
      refine ⟨ru, r.map vN, rfl, .inr ⟨(e1.trans e2).tup hru, ?_⟩⟩
      exact q _ (e1.trans e2)
theorem pls_heads (ar : List (Nat × Nat)) : ∀ (a : Nat) (r : List Nat), pls ar a r = a :: r.map (hdOf ar)
  | a, [] => rfl
  | a, k :: r => by rw [pls, pls_heads ar (hdOf ar k) r]; rfl
def spPls (K : PySem.W.Frag) : Sp := fun vs H Q _ => ∃ (c ru : Addr) (costs : List Int) (ar : List (Nat × Nat)) (r : List Nat) (b : Nat), vs = [.ref c, .ref ru] ∧ ChartAt K H c costs ar ∧ SqT K H ru (r.map vN) ∧ Wk ar 0 0 r b ∧ r.length ≤ 400 ∧ ∀ a H', Same H H' → SqT K H' a ((pls ar 0 r).map vN) → Q (.ref a) H'
theorem sc_places_of : FnScope ["chart", "run", "arrow"] ["chart", "run"] (defScope s_places_of) := ⟨rfl, rfl, rfl, by decide +kernel, rfl, by decide +kernel, by decide +kernel⟩
theorem ok_places_of (T : Tx K mg) (G_check_run : Fn P w K mg base 2 "check_run" ["chart", "run"] (spRun K)) : Fn P w K mg base 3 "places_of" ["chart", "run"] (spPls K) := by
  refine fn_mk (st := s_places_of) T.f_places_of T.g_places_of sc_places_of (fun _ _ _ _ _ _ us hl => match us, hl with | [_, _], _ => rfl) ?len (fun cdv A outer s H vs Q E hr h => ?body)
  case len => exact fun vs H Q E ⟨c, ru, costs, ar, r, b, e, _⟩ => by rw [e]; rfl
  case body =>
    obtain ⟨c, ru, costs, ar, r, b, rfl, hc, hru, hw, hl, q⟩ := h
    refine ⟨_, (pss_one (ps_ret (pe_op (kCat K) (pe_tup (pa_cons pe_int pa_nil)) (pe_callTy (kTup K) rfl T.z_tuple bt_tuple (pa_cons (pe_lc (own := [("arrow", 2)]) rfl sc_places_of.nd (kSeq K (pe_fn G_check_run hr rfl (pa_cons (pv 0) (pa_cons (pv 1) pa_nil)))) (blkOk_by (own := [("arrow", 2)]) (N := ["chart", "run", "arrow"]) (sc := defScope s_places_of) (by decide +kernel)) (fun _ _ _ _ _ => (pg_name (i := 2) sc_places_of.nd rfl (Or.inl rfl))) (fun _ _ _ _ _ => pts_nil) (fun _ _ _ _ _ => (pe_ix (kIx K) (pe_ix (kIx K) (kFld K (pv 0)) (pv 2) (fun _ _ => rfl)) pe_int (fun _ _ => rfl)))) pa_nil))))), ?_⟩
    show (_ : TS) { nx := fun _ H' => Q .non H', rt := Q } ([some (.ref c), some (.ref ru), none] : L2.St) H
    walk_at "go"
    refine ⟨by show 1 ≤ sizeLine; decide, fun p np => ?_⟩
    have e1 : Same H (upd H p (.tup [.int 0])) := Same.new np
    have hp1 : SqT K (upd H p (.tup [.int 0])) p [.int 0] := .of upd_same
    generalize upd H p (.tup [.int 0]) = H1 at *
    walk_at "go"
    refine l_seq ?_
    walk_at "go"
    refine ⟨c, ru, costs, ar, r, b, rfl, hc.mono e1, e1.tup hru, hw, hl, fun H2 e2 => ?_⟩
    have e02 := e1.trans e2
    have hru2 := e02.tup hru
    refine ovT hru2 (lp walk_tup (fun Hx e => e.tup hru2) (fun k acc => acc = ((r.take k).map (hdOf ar)).map vN) rfl ?_ ?_)
    · rintro D i x acc H3 H3' nD hi hla hD e3 hR ⟨rfl, hx⟩
      rw [List.length_map] at hi
      obtain ⟨k, t, hd, hk, hkk, w1, w2⟩ := hw.step hi
      rw [List.getElem?_map, hk] at hx
      cases hx
      obtain ⟨dx, fs, tc, ta, xs, h1, h2, h3, h4, h5, h6, h7⟩ := hc.mono (e02.trans e3)
      have f1 : FldAt K H3' c "arrows" (.ref ta) := ⟨_, _, _, h1, T.c_Chart, T.n_Chart_arrows, h3⟩
      have f2 : SqA K H3' ta xs := .inr h6
      obtain ⟨a, g1, g2, g3, g4⟩ := ar_at h7 hkk
      have g6 : atI ([vN t, vN hd] : List V) 1 = some (vN hd) := atI_nat (j := 1) rfl
      walk_at "go"
      refine ⟨rfl, ?_⟩
      walk_at "go"
      refine Lp.add nD hD e3 (Same.refl _) hla ?_ (by omega)
      rw [hR, List.take_add_one, hk]
      simp [hdOf_of hkk]
    · intro D acc H3 nD e3 hD hla hR
      walk_at "go"
      refine ⟨D, acc, rfl, .inl ⟨.of hD, fun l nl => ?_⟩⟩
      have e4 : Same H3 (upd H3 l (.tup acc)) := Same.new nl
      have hl4 : SqT K (upd H3 l (.tup acc)) l acc := .of upd_same
      have e5 := (e2.trans e3).trans e4
      have eA : acc = (r.map (hdOf ar)).map vN := by rw [hR]; simp
      have eP : ((pls ar 0 r).map vN : List V) = [V.int 0] ++ acc := by rw [eA, pls_heads]; rfl
      refine ⟨p, l, [.int 0], acc, rfl, rfl, e5.tup hp1, hl4, ?_, fun z => by simp at z, fun _ z => ?_, fun _ _ u nu => ?_⟩
      · have b : (1000000 : Nat) ≤ sizeLine := by decide
        rw [eA]
        simp
        omega
      · refine q p _ (e1.trans e5) ?_
        have ez : ([V.int 0] ++ acc : List V) = [V.int 0] := by rw [z]; rfl
        rw [eP, ez]
        exact e5.tup hp1
      · refine q u _ ((e1.trans e5).trans (Same.new nu)) ?_
        rw [eP]
        exact .of upd_same
def costAt (costs : List Int) (p : Nat) : Int := costs[p]?.getD 0
def spUsed (K : PySem.W.Frag) : Sp := fun vs H Q _ => ∃ (c ru : Addr) (costs : List Int) (ar : List (Nat × Nat)) (r : List Nat) (b : Nat), vs = [.ref c, .ref ru] ∧ ChartAt K H c costs ar ∧ SqT K H ru (r.map vN) ∧ Wk ar 0 0 r b ∧ r.length ≤ 400 ∧ (∀ p ∈ ar, p.1 < costs.length ∧ p.2 < costs.length) ∧ 0 < costs.length ∧ ∀ H', Same H H' → Q (.int ((pls ar 0 r).map (costAt costs)).sum) H'
theorem sc_used_by : FnScope ["chart", "run", "place"] ["chart", "run"] (defScope s_used_by) := ⟨rfl, rfl, rfl, by decide +kernel, rfl, by decide +kernel, by decide +kernel⟩
theorem ok_used_by (T : Tx K mg) (G_places_of : Fn P w K mg base 3 "places_of" ["chart", "run"] (spPls K)) : Fn P w K mg base 4 "used_by" ["chart", "run"] (spUsed K) := by
  refine fn_mk (st := s_used_by) T.f_used_by T.g_used_by sc_used_by (fun _ _ _ _ _ _ us hl => match us, hl with | [_, _], _ => rfl) ?len (fun cdv A outer s H vs Q E hr h => ?body)
  case len => exact fun vs H Q E ⟨c, ru, costs, ar, r, b, e, _⟩ => by rw [e]; rfl
  case body =>
    obtain ⟨c, ru, costs, ar, r, b, rfl, hc, hru, hw, hl, har, hn, q⟩ := h
    refine ⟨_, (pss_one (ps_ret (pe_callB (kSum K) rfl T.z_sum bt_sum (pa_cons (pe_lc (own := [("place", 2)]) rfl sc_used_by.nd (kSeq K (pe_fn G_places_of hr rfl (pa_cons (pv 0) (pa_cons (pv 1) pa_nil)))) (blkOk_by (own := [("place", 2)]) (N := ["chart", "run", "place"]) (sc := defScope s_used_by) (by decide +kernel)) (fun _ _ _ _ _ => (pg_name (i := 2) sc_used_by.nd rfl (Or.inl rfl))) (fun _ _ _ _ _ => pts_nil) (fun _ _ _ _ _ => (pe_ix (kIx K) (kFld K (pv 0)) (pv 2) (fun _ _ => rfl)))) pa_nil)))), ?_⟩
    show (_ : TS) { nx := fun _ H' => Q .non H', rt := Q } ([some (.ref c), some (.ref ru), none] : L2.St) H
    walk_at "go"
    refine l_seq ?_
    walk_at "go"
    refine ⟨c, ru, costs, ar, r, b, rfl, hc, hru, hw, hl, fun a H1 e1 ha => ?_⟩
    have hpl := hw.places_lt har hn
    refine ovT ha (lp walk_tup (fun Hx e => e.tup ha) (fun k acc => acc = (((pls ar 0 r).take k).map (costAt costs)).map V.int) rfl ?_ ?_)
    · rintro D i x acc H3 H3' nD hi hla hD e3 hR ⟨rfl, hx⟩
      rw [List.length_map] at hi
      obtain ⟨k, hk⟩ := getElem_some hi
      rw [List.getElem?_map, hk] at hx
      cases hx
      have hkl : k < costs.length := hpl k (List.mem_of_getElem? hk)
      obtain ⟨y, hy⟩ := getElem_some hkl
      obtain ⟨dx, fs, tc, ta, xs, h1, h2, h3, h4, h5, h6, h7⟩ := hc.mono (e1.trans e3)
      have f1 : FldAt K H3' c "costs" (.ref tc) := ⟨_, _, _, h1, T.c_Chart, T.n_Chart_costs, h2⟩
      have f2 : SqA K H3' tc (costs.map V.int) := .inr h5
      have g6 : atI (costs.map V.int) (k : Int) = some (.int y) := atI_map hy
      walk_at "go"
      refine ⟨rfl, ?_⟩
      walk_at "go"
      refine Lp.add nD hD e3 (Same.refl _) hla ?_ (by rw [pls_length] at hi; omega)
      rw [hR, List.take_add_one, hk]
      simp [costAt, hy]
    · intro D acc H3 nD e3 hD hla hR
      walk_at "go"
      refine ⟨D, (pls ar 0 r).map (costAt costs), rfl, .of ?_, ?_⟩
      · rw [hD, hR, List.length_map, List.take_length]
      · exact q _ (e1.trans e3)
def chAt (ch : List Int) (k : Nat) : Int := ch[k]?.getD 0
def spCharged (K : PySem.W.Frag) : Sp := fun vs H Q _ => ∃ (me ru : Addr) (M : MD) (r : List Nat) (b : Nat), vs = [.ref me, .ref ru] ∧ MeterAt K H me M ∧ M.Ok ∧ SqT K H ru (r.map vN) ∧ Wk M.ar 0 0 r b ∧ r.length ≤ 400 ∧ ∀ H', Same H H' → Q (.int (M.first + (r.map (chAt M.ch)).sum)) H'
theorem sc_Meter_charged : FnScope ["self", "run", "arrow"] ["self", "run"] (defScope s_Meter_charged) := ⟨rfl, rfl, rfl, by decide +kernel, rfl, by decide +kernel, by decide +kernel⟩
theorem ok_Meter_charged (T : Tx K mg) (G_check_run : Fn P w K mg base 2 "check_run" ["chart", "run"] (spRun K)) : Mt P w K mg base 3 "Meter" "charged" ["self", "run"] (spCharged K) := by
  refine mt_mk (st := s_Meter_charged) T.f_Meter_charged sc_Meter_charged (fun _ _ _ _ _ _ us hl => match us, hl with | [_, _], _ => rfl) ?len (fun cdv A outer s H vs Q E hr h => ?body)
  case len => exact fun vs H Q E ⟨me, ru, M, r, b, e, _⟩ => by rw [e]; rfl
  case body =>
    obtain ⟨me, ru, M, r, b, rfl, ⟨c, tc, ta, tch, xs, mo⟩, ok, hru, hw, hl, q⟩ := h
    refine ⟨_, (pss_one (ps_ret (pe_op op_add (kFld K (pv 0)) (pe_callB (kSum K) rfl T.z_sum bt_sum (pa_cons (pe_lc (own := [("arrow", 2)]) rfl sc_Meter_charged.nd (kSeq K (pe_fn G_check_run hr rfl (pa_cons (kFld K (pv 0)) (pa_cons (pv 1) pa_nil)))) (blkOk_by (own := [("arrow", 2)]) (N := ["self", "run", "arrow"]) (sc := defScope s_Meter_charged) (by decide +kernel)) (fun _ _ _ _ _ => (pg_name (i := 2) sc_Meter_charged.nd rfl (Or.inl rfl))) (fun _ _ _ _ _ => pts_nil) (fun _ _ _ _ _ => (pe_ix (kIx K) (kFld K (pv 0)) (pv 2) (fun _ _ => rfl)))) pa_nil))))), ?_⟩
    show (_ : TS) { nx := fun _ H' => Q .non H', rt := Q } ([some (.ref me), some (.ref ru), none] : L2.St) H
    obtain ⟨f1, f2, f3, f4, f5, f6, f7, f8, f9, fA, fB, f10, fC, _⟩ := id mo
    walk_at "go"
    refine l_seq ?_
    walk_at "go"
    refine ⟨c, ru, M.costs, M.ar, r, b, rfl, mo.chat, hru, hw, hl, fun H1 e1 => ?_⟩
    have hru2 := e1.tup hru
    refine ovT hru2 (lp walk_tup (fun Hx e => e.tup hru2) (fun k acc => acc = ((r.take k).map (chAt M.ch)).map V.int) rfl ?_ ?_)
    · rintro D i x acc H3 H3' nD hi hla hD e3 hR ⟨rfl, hx⟩
      rw [List.length_map] at hi
      obtain ⟨k, hk⟩ := getElem_some hi
      rw [List.getElem?_map, hk] at hx
      cases hx
      have hkl : k < M.ar.length := hw.lt k (List.mem_of_getElem? hk)
      obtain ⟨y, hy⟩ := getElem_some (l := M.ch) (k := k) (by rw [ok.ch]; exact hkl)
      obtain ⟨f1, f2, f3, f4, f5, f6, f7, f8, f9, fA, fB, f10, fC, _⟩ := mo.mono (e1.trans e3)
      have g6 : atI (M.ch.map V.int) (k : Int) = some (.int y) := atI_map hy
      walk_at "go"
      refine ⟨rfl, ?_⟩
      walk_at "go"
      refine Lp.add nD hD e3 (Same.refl _) hla ?_ (by omega)
      rw [hR, List.take_add_one, hk]
      simp [chAt, hy]
    · intro D acc H3 nD e3 hD hla hR
      walk_at "go"
      refine ⟨D, r.map (chAt M.ch), rfl, .of ?_, ?_⟩
      · rw [hD, hR, List.length_map, List.take_length]
      · walk_at "go"
        exact q _ (e1.trans e3)
theorem lead_math {M : MD} {r : List Nat} {b : Nat} (hw : Wk M.ar 0 0 r b) : M.first + (r.map (chAt M.ch)).sum - ((pls M.ar 0 r).map (costAt M.costs)).sum = M.first + gs M.g r - costAt M.costs b := by
  rw [← tails_pls hw, List.map_append, List.sum_append]
  have : ∀ r : List Nat, (r.map (chAt M.ch)).sum - ((r.map (tlOf M.ar)).map (costAt M.costs)).sum = gs M.g r := by
    intro r
    induction r with
    | nil => rfl
    | cons k r ih =>
      have e : M.g k = chAt M.ch k - costAt M.costs (tlOf M.ar k) := rfl
      simp only [List.map_cons, List.sum_cons, gs]
      omega
  have := this r
  simp only [List.map_cons, List.map_nil, List.sum_cons, List.sum_nil]
  omega
def spLead (K : PySem.W.Frag) : Sp := fun vs H Q _ => ∃ (me ru : Addr) (M : MD) (r : List Nat) (b : Nat), vs = [.ref me, .ref ru] ∧ MeterAt K H me M ∧ M.Ok ∧ SqT K H ru (r.map vN) ∧ Wk M.ar 0 0 r b ∧ r.length ≤ 400 ∧ ∀ H', Same H H' → Q (.int (M.first + gs M.g r - costAt M.costs b)) H'
theorem sc_Meter_lead_behind : FnScope ["self", "run"] ["self", "run"] (defScope s_Meter_lead_behind) := ⟨rfl, rfl, rfl, by decide +kernel, rfl, by decide +kernel, by decide +kernel⟩
theorem ok_Meter_lead_behind (T : Tx K mg) (G_used_by : Fn P w K mg base 4 "used_by" ["chart", "run"] (spUsed K)) (G_Meter_charged : Mt P w K mg base 3 "Meter" "charged" ["self", "run"] (spCharged K)) : Mt P w K mg base 5 "Meter" "lead_behind" ["self", "run"] (spLead K) := by
  refine mt_mk (st := s_Meter_lead_behind) T.f_Meter_lead_behind sc_Meter_lead_behind (fun _ _ _ _ _ _ us hl => match us, hl with | [_, _], _ => rfl) ?len (fun cdv A outer s H vs Q E hr h => ?body)
  case len => exact fun vs H Q E ⟨me, ru, M, r, b, e, _⟩ => by rw [e]; rfl
  case body =>
    obtain ⟨me, ru, M, r, b, rfl, ⟨c, tc, ta, tch, xs, mo⟩, ok, hru, hw, hl, q⟩ := h
    refine ⟨_, (pss_one (ps_ret (pe_op op_sub (kMt K (pv 0) T.c_Meter T.m_Meter_charged G_Meter_charged hr (pa_cons (pv 1) pa_nil)) (pe_fn G_used_by hr rfl (pa_cons (kFld K (pv 0)) (pa_cons (pv 1) pa_nil)))))), ?_⟩
    show (_ : TS) { nx := fun _ H' => Q .non H', rt := Q } ([some (.ref me), some (.ref ru)] : L2.St) H
    have mls1 : ∃ dx fs, H me = some (.ins (He.ga K "Meter") dx fs) ∧ fs.lookup ("charged" : Str) = none := by
      obtain ⟨dx, fs, h1, h2, _⟩ := mo.mls
      exact ⟨dx, fs, h1, h2⟩
    walk_at "go"
    refine ⟨me, ru, M, r, b, rfl, ⟨c, tc, ta, tch, xs, mo⟩, ok, hru, hw, hl, fun H1 e1 => ?_⟩
    obtain ⟨f1, f2, f3, f4, f5, f6, f7, f8, f9, fA, fB, f10, fC, _⟩ := mo.mono e1
    walk_at "go"
    refine ⟨c, ru, M.costs, M.ar, r, b, rfl, mo.chat.mono e1, e1.tup hru, hw, hl, ok.arr, ok.n1, fun H2 e2 => ?_⟩
    walk_at "go"
    rw [lead_math hw]
    exact q _ (e1.trans e2)
end
end
section
/-! extreme_worths, low_leads. -/
section
variable {P : Program} {w : World} {K : PySem.W.Frag} {mg : Str → Option Value} {base : Heap}
/-- x the least lead ahead of v -/
def LowOf (M : MD) (v : Nat) (x : Int) : Prop := ∃ r, Path M.ar r v ∧ x = M.first + gs M.g r ∧ ∀ r', Path M.ar r' v → x ≤ M.first + gs M.g r'
def NoFall (M : MD) : Prop := ∀ r, Ring M.ar r → 0 ≤ gs M.g r
def Reach (M : MD) : Prop := ∀ v, v < M.costs.length → ∃ r, Wk M.ar 0 0 r v
theorem NoFall.path {M : MD} (nf : NoFall M) {x : List Nat} {v : Nat} (hw : Wk M.ar 0 0 x v) : ∃ r, Path M.ar r v ∧ gs M.g r ≤ gs M.g x ∧ r.length ≤ x.length := by
  obtain ⟨r, h1, h2, h3, _⟩ := to_path nf x.length x v (Nat.le_refl _) hw
  exact ⟨r, h1, h2, h3⟩
theorem low_of {M : MD} (ok : M.Ok) (nf : NoFall M) {R : Nat → List (Option Int)} (hB : ∀ j, j ≤ M.costs.length - 1 → RowB M.costs.length (Lead M.ar M.g (-1) M.first j) (R j)) {v : Nat} (hv : v < M.costs.length) {m : Int}
    (hm : m ∈ (List.range M.costs.length).filterMap fun j => rowF (R j) v) (hx : ∀ y, y ∈ ((List.range M.costs.length).filterMap fun j => rowF (R j) v) → y ≤ m) : LowOf M v (-m) := by
  have hn := ok.n1
  obtain ⟨j, hj, e⟩ := List.mem_filterMap.mp hm
  rw [List.mem_range] at hj
  have hb := (hB j (by omega)).at hv
  rw [e] at hb
  obtain ⟨⟨r0, w0, l0, e0⟩, _⟩ := hb
  have all : ∀ r, Path M.ar r v → -(M.first + gs M.g r) ≤ m := fun r hr => by
    have hl := Path.short ok.arr ok.n1 hr
    have hb := (hB r.length (by omega)).at hv
    cases eo : rowF (R r.length) v with
    | none =>
      rw [eo] at hb
      exact absurd ⟨r, hr.1, rfl, rfl⟩ (hb _)
    | some y =>
      rw [eo] at hb
      have h1 := hb.2 _ ⟨r, hr.1, rfl, rfl⟩
      have h2 := hx y (List.mem_filterMap.mpr ⟨r.length, List.mem_range.mpr hl, eo⟩)
      omega
  obtain ⟨r, h1, h2, h3⟩ := nf.path w0
  have h4 := all r h1
  refine ⟨r, h1, by omega, fun r' h' => ?_⟩
  have := all r' h'
  omega
theorem some_row {M : MD} (ok : M.Ok) (nf : NoFall M) (hr : Reach M) {R : Nat → List (Option Int)} (hB : ∀ j, j ≤ M.costs.length - 1 → RowB M.costs.length (Lead M.ar M.g (-1) M.first j) (R j)) {v : Nat} (hv : v < M.costs.length) : 0 < ((List.range M.costs.length).filterMap fun j => rowF (R j) v).length := by
  obtain ⟨x, hx⟩ := hr v hv
  obtain ⟨r, h1, _⟩ := nf.path hx
  have hl := Path.short ok.arr ok.n1 h1
  have hb := (hB r.length (by omega)).at hv
  cases eo : rowF (R r.length) v with
  | none =>
    rw [eo] at hb
    exact absurd ⟨r, h1.1, rfl, rfl⟩ (hb _)
  | some y => exact List.length_pos_of_mem (List.mem_filterMap.mpr ⟨r.length, List.mem_range.mpr hl, eo⟩)
theorem fm_step {R : Nat → List (Option Int)} {v k : Nat} : ((List.range (k + 1)).filterMap fun j => rowF (R j) v) = ((List.range k).filterMap fun j => rowF (R j) v) ++ (match rowF (R k) v with | none => [] | some x => [x]) := by
  rw [List.range_succ, List.filterMap_append]
  congr 1
  cases h : rowF (R k) v <;> simp [h]
def spExt (K : PySem.W.Frag) : Sp := fun vs H Q _ => ∃ (me : Addr) (M : MD), vs = [.ref me, .int (-1)] ∧ MeterAt K H me M ∧ M.Ok ∧ NoFall M ∧ Reach M ∧
  ∀ a H' (ws : List Int), Same H H' → H' a = some (.lst (ws.map V.int)) → ws.length = M.costs.length → (∀ (v : Nat) (x : Int), ws[v]? = some x → LowOf M v (-x)) → Q (.ref a) H'
theorem sc_extreme_worths : FnScope ["meter", "sense", "drift", "rows", "place", "row"] ["meter", "sense"] (defScope s_extreme_worths) := ⟨rfl, rfl, rfl, by decide +kernel, rfl, by decide +kernel, by decide +kernel⟩
theorem ok_extreme_worths (T : Tx K mg) (G_find_fall : Fn P w K mg base 6 "find_fall" ["meter"] (spFall K)) (G_lead_rows : Fn P w K mg base 2 "lead_rows" ["meter", "sense"] (spLeads K)) : Fn P w K mg base 7 "extreme_worths" ["meter", "sense"] (spExt K) := by
  refine fn_mk (st := s_extreme_worths) T.f_extreme_worths T.g_extreme_worths sc_extreme_worths (fun _ _ _ _ _ _ us hl => match us, hl with | [_, _], _ => rfl) ?len (fun cdv A outer s H vs Q E hr h => ?body)
  case len => exact fun vs H Q E ⟨me, M, e, _⟩ => by rw [e]; rfl
  case body =>
    obtain ⟨me, M, rfl, hM, ok, nf, hreach, q⟩ := h
    refine ⟨_, (pss_cons (ps_set (i := 2) sc_extreme_worths.nd rfl (Or.inl rfl) (pe_ifExp (pt_cmpR op_eq (pv 1) pe_int (nomark _)) pe_never (pe_fn G_find_fall hr rfl (pa_cons (pv 0) pa_nil))))
      (pss_cons (ps_if (pt_cmpR op_notN1 (pv 2) pe_non (nomark _)) (pss_one ps_never) pss_nil)
      (pss_cons (ps_set (i := 3) sc_extreme_worths.nd rfl (Or.inr rfl) (pe_fn G_lead_rows hr rfl (pa_cons (pv 0) (pa_cons (pv 1) pa_nil))))
      (pss_one (ps_ret (pe_lc (own := [("place", 4)]) rfl sc_extreme_worths.nd (pi_range1 rfl T.z_range (pa_cons (pe_callB (kLen K) rfl T.z_len bt_len (pa_cons (kFld K (kFld K (pv 0))) pa_nil)) pa_nil)) (blkOk_by (own := [("place", 4)]) (N := ["meter", "sense", "drift", "rows", "place", "row"]) (sc := defScope s_extreme_worths) (by decide +kernel)) (fun _ _ _ _ _ => (pg_name (i := 4) sc_extreme_worths.nd rfl (by first | exact Or.inl rfl | exact Or.inr rfl))) (fun _ _ _ _ _ => pts_nil) (fun _ _ _ _ _ => (pe_callB (kMax K) rfl T.z_max bt_max (pa_cons (pe_lc (own := [("row", 5)]) rfl sc_extreme_worths.nd (kSeq K (pv 3)) (blkOk_by (own := [("row", 5)]) (N := ["meter", "sense", "drift", "rows", "place", "row"]) (by rfl)) (fun _ _ _ _ _ => (pg_name (i := 5) sc_extreme_worths.nd rfl (by first | exact Or.inl rfl | exact Or.inr rfl))) (fun _ _ _ _ _ => (pts_one (pt_cmpR op_notN1 (pe_ix (kIx K) (pv 5) (pv 4) (fun _ _ => rfl)) pe_non (nomark _)))) (fun _ _ _ _ _ => (pe_ix (kIx K) (pv 5) (pv 4) (fun _ _ => rfl)))) pa_nil))))))))), ?_⟩
    show (_ : TS) { nx := fun _ H' => Q .non H', rt := Q } ([some (.ref me), some (.int (-1)), none, none, none, none] : L2.St) H
    have ok1 := ok.n1
    have ok2 := ok.n2
    walk_at "go"
    refine c_df (by omega) ?_
    walk_at "go"
    refine ⟨me, M, rfl, hM, ok, fun _ H1 e1 => ?_, fun r hr => absurd hr.2.1 (by have := nf r hr.1; omega)⟩
    walk_at "go"
    refine c_ndt rfl ?_
    walk_at "go"
    refine ⟨me, M, -1, rfl, hM.mono e1, ok, by omega, fun rp R H2 e2 nrp hR hB => ?_⟩
    obtain ⟨c, tc, ta, tch, xs, mo⟩ := hM
    have e02 := e1.trans e2
    obtain ⟨f1, f2, f3, f4, f5, f6, f7, f8, f9, fA, fB, f10, fC, _⟩ := mo.mono e02
    walk_at "go"
    refine l_r1 ?_
    walk_at "go"
    refine c_len f6 ?_
    walk_at "go"
    rw [List.length_map]
    refine ovR1 (by omega) ?_
    have en : ((M.costs.length : Nat) : Int).toNat = M.costs.length := by omega
    rw [en]
    obtain ⟨_, ras, hras, hrl, hrow⟩ := id hR
    refine lp walk_range (fun _ _ => trivial) (fun k acc => ∃ ws : List Int, acc = ws.map V.int ∧ ws.length = k ∧ ∀ (v : Nat) (x : Int), ws[v]? = some x → LowOf M v (-x)) ⟨[], rfl, rfl, fun v x z => by simp at z⟩ ?_ ?_
    · rintro D v x acc H3 H3' nD hv hla hD e3 ⟨ws, rfl, hwl, hws⟩ ⟨rfl, rfl⟩
      simp only [Int.zero_add]
      walk_at "go"
      refine ⟨rfl, ?_⟩
      walk_at "go"
      refine l_seq ?_
      walk_at "go"
      refine ovL (.of (e3 _ _ hras)) (lp walk_list (fun Hx e => .of (e _ _ (e3 _ _ hras))) (fun k acc => acc = ((List.range k).filterMap fun j => rowF (R j) v).map V.int) rfl ?_ ?_)
      · rintro D2 j x2 acc2 H4 H4' nD2 hj hla2 hD2 e4 hR2 ⟨rfl, hx2⟩
        rw [List.length_map] at hj
        obtain ⟨ra, hra⟩ := getElem_some hj
        rw [List.getElem?_map, hra] at hx2
        cases hx2
        have e34 := e3.trans e4
        have hra2 : SqA K H4' ra ((R j).map vO) := .lst (e34 _ _ (hrow j ra hra).2.2)
        obtain ⟨o, ho, _⟩ := (hB j (by omega)).2 v hv
        have g1 : atI ((R j).map vO) (v : Int) = some (vO o) := atI_row ho
        walk_at "go"
        refine ⟨rfl, ?_⟩
        walk_at "go"
        rw [vO_non]
        cases o with
        | none =>
          refine c_ndt rfl ?_
          refine Lp.skip hD2 e4 (Same.refl _) hla2 ?_
          rw [hR2, fm_step, rowF_of ho, List.append_nil]
        | some y =>
          refine c_ndf (by simp) ?_
          replace g1 : atI ((R j).map vO) (v : Int) = some (.int y) := g1
          walk_at "go"
          refine Lp.add nD2 hD2 e4 (Same.refl _) hla2 ?_ (by omega)
          rw [hR2, fm_step, rowF_of ho, List.map_append]
          rfl
      · intro D2 acc2 H4 nD2 e4 hD2 hla2 hR2
        rw [List.length_map, hrl, show M.costs.length - 1 + 1 = M.costs.length by omega] at hR2
        subst hR2
        walk_at "go"
        refine ⟨D2, _, rfl, .of hD2, some_row ok nf hreach hB hv, fun m hm hx => ?_⟩
        refine Lp.add nD hD e3 e4 hla ⟨ws ++ [m], by simp, by simp [hwl], fun v' x' h' => ?_⟩ (by omega)
        by_cases hlt : v' < ws.length
        · rw [List.getElem?_append_left hlt] at h'
          exact hws v' x' h'
        · rw [List.getElem?_append_right (by omega)] at h'
          have hz : v' - ws.length = 0 := by
            have := (List.getElem?_eq_some_iff.mp h').1
            simp at this
            omega
          rw [hz] at h'
          cases h'
          have ev : v' = v := by omega
          subst ev
          exact low_of ok nf hB hv hm hx
    · rintro D acc H3 nD e3 hD hla ⟨ws, rfl, hwl, hws⟩
      exact q D _ ws (e02.trans e3) hD hwl hws
def spLow (K : PySem.W.Frag) : Sp := fun vs H Q _ => ∃ (me : Addr) (M : MD), vs = [.ref me] ∧ MeterAt K H me M ∧ M.Ok ∧ NoFall M ∧ Reach M ∧
  ∀ a H' (ws : List Int), Same H H' → SqT K H' a (ws.map V.int) → ws.length = M.costs.length → (∀ (v : Nat) (x : Int), ws[v]? = some x → LowOf M v x) → Q (.ref a) H'
theorem sc_low_leads : FnScope ["meter", "worth"] ["meter"] (defScope s_low_leads) := ⟨rfl, rfl, rfl, by decide +kernel, rfl, by decide +kernel, by decide +kernel⟩
theorem ok_low_leads (T : Tx K mg) (G_extreme_worths : Fn P w K mg base 7 "extreme_worths" ["meter", "sense"] (spExt K)) : Fn P w K mg base 8 "low_leads" ["meter"] (spLow K) := by
  refine fn_mk (st := s_low_leads) T.f_low_leads T.g_low_leads sc_low_leads (fun _ _ _ _ _ _ us hl => match us, hl with | [_], _ => rfl) ?len (fun cdv A outer s H vs Q E hr h => ?body)
  case len => exact fun vs H Q E ⟨me, M, e, _⟩ => by rw [e]; rfl
  case body =>
    obtain ⟨me, M, rfl, hM, ok, nf, hreach, q⟩ := h
    refine ⟨_, (pss_one (ps_ret (pe_callTy (kTup K) rfl T.z_tuple bt_tuple (pa_cons (pe_lc (own := [("worth", 1)]) rfl sc_low_leads.nd (kSeq K (pe_fn G_extreme_worths hr rfl (pa_cons (pv 0) (pa_cons (pe_un un_neg pe_int) pa_nil)))) (blkOk_by (own := [("worth", 1)]) (N := ["meter", "worth"]) (sc := defScope s_low_leads) (by decide +kernel)) (fun _ _ _ _ _ => (pg_name (i := 1) sc_low_leads.nd rfl (by first | exact Or.inl rfl | exact Or.inr rfl))) (fun _ _ _ _ _ => pts_nil) (fun _ _ _ _ _ => (pe_un un_neg (pv 1)))) pa_nil)))), ?_⟩
    show (_ : TS) { nx := fun _ H' => Q .non H', rt := Q } ([some (.ref me), none] : L2.St) H
    have ok2 := ok.n2
    walk_at "go"
    refine l_seq ?_
    walk_at "go"
    refine ⟨me, M, rfl, hM, ok, nf, hreach, fun a H1 ws e1 ha hwl hws => ?_⟩
    refine ovL (.of ha) (lp walk_list (fun Hx e => .of (e _ _ ha)) (fun k acc => acc = ((ws.take k).map fun x => -x).map V.int) rfl ?_ ?_)
    · rintro D i x acc H2 H2' nD hi hla hD e2 hR ⟨rfl, hx⟩
      rw [List.length_map] at hi
      obtain ⟨y, hy⟩ := getElem_some hi
      rw [List.getElem?_map, hy] at hx
      cases hx
      walk_at "go"
      refine ⟨rfl, ?_⟩
      walk_at "go"
      refine Lp.add nD hD e2 (Same.refl _) hla ?_ (by omega)
      rw [hR, List.take_add_one, hy]
      simp
    · intro D acc H2 nD e2 hD hla hR
      walk_at "go"
      rw [List.length_map, List.take_length] at hR
      refine ⟨D, acc, rfl, .inl ⟨.of hD, fun l nl => ?_⟩⟩
      refine q l _ (ws.map fun x => -x) ((e1.trans e2).trans (Same.new nl)) (.of (by rw [upd_same, hR])) (by simp [hwl]) fun v x hx => ?_
      rw [List.getElem?_map] at hx
      cases e : ws[v]? with
      | none => rw [e] at hx; cases hx
      | some y =>
        rw [e] at hx
        cases hx
        exact hws v y e
end
end
section
/-! Short, find_short, is_covered. -/
section
variable {P : Program} {w : World} {K : PySem.W.Frag} {mg : Str → Option Value} {base : Heap}
def ShortAt (K : PySem.W.Frag) (H : Hp) (a : Addr) (xs : List V) (by_ : Int) : Prop := ∃ dx fs t, H a = some (.ins (He.ga K "Short") dx fs) ∧ fs.lookup ("run" : Str) = some (.ref t) ∧ fs.lookup ("by" : Str) = some (.int by_) ∧ SqT K H t xs
theorem ShortAt.mono {H H' : Hp} {a : Addr} {xs : List V} {b : Int} (e : Same H H') (h : ShortAt K H a xs b) : ShortAt K H' a xs b := by
  obtain ⟨dx, fs, t, h1, h2, h3, h4⟩ := h
  exact ⟨dx, fs, t, e _ _ h1, h2, h3, e.tup h4⟩
def spShort (K : PySem.W.Frag) : Sp := fun vs H Q _ => ∃ (a dx t : Addr) (xs : List V) (b : Int), vs = [.ref a, .ref t, .int b] ∧ H a = some (.ins (He.ga K "Short") dx []) ∧ SqT K H t xs ∧
  ∀ H' fs, (∀ x o, x ≠ a → H x = some o → H' x = some o) → H' a = some (.ins (He.ga K "Short") dx fs) → fs.lookup ("run" : Str) = some (.ref t) → fs.lookup ("by" : Str) = some (.int b) → Q .non H'
theorem ne_run_by : ¬ ("run" : Str) = "by" := by decide +kernel
theorem sc_Short_init : FnScope ["self", "run", "by"] ["self", "run", "by"] (defScope s_Short_init) := ⟨rfl, rfl, rfl, by decide +kernel, rfl, by decide +kernel, by decide +kernel⟩
theorem ok_Short_init (T : Tx K mg) : Mt P w K mg base 1 "Short" "__init__" ["self", "run", "by"] (spShort K) := by
  refine mt_mk (st := s_Short_init) T.f_Short_init sc_Short_init (fun _ _ _ _ _ _ us hl => match us, hl with | [_, _, _], _ => rfl) ?len (fun cdv A outer s H vs Q E hr h => ?body)
  case len => exact fun vs H Q E ⟨a, dx, t, xs, b, e, _⟩ => by rw [e]; rfl
  case body =>
    obtain ⟨a, dx, t, xs, b, rfl, ha, ht, q⟩ := h
    refine ⟨_, (pss_cons (kSetF K (pv 0) (pe_callTy (kTup K) rfl T.z_tuple bt_tuple (pa_cons (pv 1) pa_nil)))
      (pss_one (kSetF K (pv 0) (pv 2)))), ?_⟩
    show (_ : TS) { nx := fun _ H' => Q .non H', rt := Q } ([some (.ref a), some (.ref t), some (.int b)] : L2.St) H
    walk_at "go"
    refine ⟨t, xs, rfl, .inr ⟨ht, ?_⟩⟩
    walk_at "go"
    refine setF ha T.c_Short T.n_Short_run (by simp) ?_
    walk_at "go"
    refine setF upd_same T.c_Short T.n_Short_by (by simp [putF]) ?_
    refine q _ _ (fun x o hx e => ?_) upd_same ?_ ?_
    · rw [upd_ne hx, upd_ne hx]
      exact e
    · rw [lookup_putF, if_neg ne_run_by, lookup_putF, if_pos rfl]
    · rw [lookup_putF, if_pos rfl]
theorem mk_short {t : Addr} {xs : List V} {b : Int} {H : Hp} {Q : VK} (ht : SqT K H t xs) (q : ∀ a H', Same H H' → H a = none → ShortAt K H' a xs b → Q (.ref a) H') : MkO (He.ga K "Short") (spShort K) [.ref t, .int b] H Q := by
  intro a dx na ndx hne
  have e1 : Same H (upd H dx (.own a)) := Same.new ndx
  have e2 : Same H (upd (upd H dx (.own a)) a (.ins (He.ga K "Short") dx [])) := Same.mut e1 na
  refine ⟨a, dx, t, xs, b, rfl, upd_same, e2.tup ht, fun H' fs k h1 h2 h3 => ⟨rfl, ?_⟩⟩
  have e3 : Same H H' := fun x o e => k x o (ne_of_none e na) (e2 _ _ e)
  exact q a H' e3 na ⟨dx, fs, t, h1, h2, h3, e3.tup ht⟩
/-! ### find_short -/
def lead (M : MD) (r : List Nat) (b : Nat) : Int := M.first + gs M.g r - costAt M.costs b
/-- the first short run -/
def MinShort (M : MD) (r : List Nat) (b : Nat) : Prop := Path M.ar r b ∧ lead M r b < 0 ∧ ∀ r' b', Path M.ar r' b' → lead M r' b' < 0 → OrdLe r r'
theorem MinShort.unique {M : MD} {r r' : List Nat} {b b' : Nat} (h : MinShort M r b) (k : MinShort M r' b') : r = r' ∧ b = b' := by
  have e := (h.2.2 r' b' k.1 k.2.1).antisymm (k.2.2 r b h.1 h.2.1)
  subst e
  exact ⟨rfl, h.1.1.det k.1.1⟩
def shB (o : Option Int) (c : Int) : Bool := match o with | none => false | some x => decide (x + c > 0)
theorem row_short {M : MD} {n L : Nat} {row : List (Option Int)} (hB : RowB n (Lead M.ar M.g (-1) M.first L) row) {v : Nat} (hv : v < n) : shB (rowF row v) (costAt M.costs v) = true ↔ ∃ r, Wk M.ar 0 0 r v ∧ r.length = L ∧ lead M r v < 0 := by
  have hb := hB.at hv
  unfold shB lead
  constructor
  · intro h
    cases e : rowF row v with
    | none => rw [e] at h; cases h
    | some x =>
      rw [e] at hb h
      obtain ⟨⟨r, w, l, ex⟩, _⟩ := hb
      have := of_decide_eq_true h
      exact ⟨r, w, l, by omega⟩
  · rintro ⟨r, w, l, hl⟩
    cases e : rowF row v with
    | none =>
      rw [e] at hb
      exact absurd ⟨r, w, l, rfl⟩ (hb _)
    | some x =>
      rw [e] at hb
      have := hb.2 _ ⟨r, w, l, rfl⟩
      exact decide_eq_true (by omega)
theorem min_short {M : MD} (nf : NoFall M) {L : Nat} (hno : ∀ r b, Wk M.ar 0 0 r b → r.length < L → ¬ lead M r b < 0) {r : List Nat} {b : Nat} (hw : Wk M.ar 0 0 r b) (hl : r.length = L) (hs : lead M r b < 0)
    (hmin : ∀ r' b', Wk M.ar 0 0 r' b' → r'.length = L → lead M r' b' < 0 → LexLe r r') : MinShort M r b := by
  refine ⟨?_, hs, fun r' b' h' s' => ?_⟩
  · obtain ⟨x, h1, h2, h3, h4⟩ := to_path nf r.length r b (Nat.le_refl _) hw
    rcases h4 with h4 | h4
    · exact ⟨hw, h4⟩
    · exact absurd (by unfold lead at *; omega) (hno x b h1.1 (by omega))
  · by_cases hlt : r'.length < L
    · exact absurd s' (hno r' b' h'.1 hlt)
    · by_cases e : r'.length = L
      · exact .inr ⟨by omega, hmin r' b' h'.1 e s'⟩
      · exact .inl (by omega)
theorem good_short {M : MD} {L : Nat} {r : List Nat} : Good M.ar 0 M.g (-1) (rowF (M.costs.map some)) 0 (-M.first) 1 L r ↔ ∃ b, b < M.costs.length ∧ Wk M.ar 0 0 r b ∧ r.length = L ∧ lead M r b < 0 := by
  have key : ∀ b c, rowF (M.costs.map some) b = some c ↔ b < M.costs.length ∧ c = costAt M.costs b := fun b c => by
    unfold rowF costAt
    rw [List.getElem?_map]
    cases e : M.costs[b]? with
    | none =>
      have := List.getElem?_eq_none_iff.mp e
      simp
      omega
    | some x =>
      have := (List.getElem?_eq_some_iff.mp e).1
      simp [this, eq_comm]
  constructor
  · rintro ⟨b, c, w, l, e, t⟩
    obtain ⟨hb, rfl⟩ := (key b c).mp e
    exact ⟨b, hb, w, l, by unfold lead; omega⟩
  · rintro ⟨b, hb, w, l, t⟩
    exact ⟨b, _, w, l, (key b _).mpr ⟨hb, rfl⟩, by unfold lead at t; omega⟩
theorem Wk.end_lt {M : MD} (ok : M.Ok) {r : List Nat} {b : Nat} (w : Wk M.ar 0 0 r b) : b < M.costs.length := w.places_lt ok.arr ok.n1 b (by have := w.last; exact List.mem_of_getLast? this)
theorem any_range {n : Nat} {f : Nat → Bool} : ((List.range n).map f).any id = true ↔ ∃ v, v < n ∧ f v = true := by
  simp [List.any_eq_true, List.mem_range]
def spFind (K : PySem.W.Frag) : Sp := fun vs H Q _ => ∃ (me : Addr) (M : MD), vs = [.ref me] ∧ MeterAt K H me M ∧ M.Ok ∧
  (∀ r, MinFall M.ar M.g r → ∀ a H', Same H H' → H a = none → DriftAt K H' a (r.map vN) (gs M.g r) → Q (.ref a) H') ∧
  (NoFall M → (∀ r b, MinShort M r b → ∀ a H', Same H H' → H a = none → ShortAt K H' a (r.map vN) (-lead M r b) → Q (.ref a) H') ∧ ((∀ r b, Path M.ar r b → 0 ≤ lead M r b) → ∀ H', Same H H' → Q .non H'))
theorem sc_find_short : FnScope ["meter", "fall", "costs", "length", "row", "rests", "run", "worth", "cost"] ["meter"] (defScope s_find_short) := ⟨rfl, rfl, rfl, by decide +kernel, rfl, by decide +kernel, by decide +kernel⟩
theorem ok_find_short (T : Tx K mg) (G_find_fall : Fn P w K mg base 6 "find_fall" ["meter"] (spFall K)) (G_lead_rows : Fn P w K mg base 2 "lead_rows" ["meter", "sense"] (spLeads K)) (G_rest_rows : Fn P w K mg base 2 "rest_rows" ["meter", "last_row", "lowest", "length", "sense"] (spRest K)) (G_least_walk : Fn P w K mg base 4 "least_walk" ["meter", "rests", "length", "start", "wanted", "sense"] (spWalk K)) (G_Meter_lead_behind : Mt P w K mg base 5 "Meter" "lead_behind" ["self", "run"] (spLead K)) (G_Short : Mt P w K mg base 1 "Short" "__init__" ["self", "run", "by"] (spShort K)) : Fn P w K mg base 7 "find_short" ["meter"] (spFind K) := by
  refine fn_mk (st := s_find_short) T.f_find_short T.g_find_short sc_find_short (fun _ _ _ _ _ _ us hl => match us, hl with | [_], _ => rfl) ?len (fun cdv A outer s H vs Q E hr h => ?body)
  case len => exact fun vs H Q E ⟨me, M, e, _⟩ => by rw [e]; rfl
  case body =>
    obtain ⟨me, M, rfl, hM, ok, qf, qn⟩ := h
    refine ⟨_, (pss_cons (ps_set (i := 1) sc_find_short.nd rfl (Or.inl rfl) (pe_fn G_find_fall hr rfl (pa_cons (pv 0) pa_nil)))
      (pss_cons (ps_if (pt_cmpR op_notN1 (pv 1) pe_non (nomark _)) (pss_one (ps_ret (pv 1))) pss_nil)
      (pss_cons (ps_set (i := 2) sc_find_short.nd rfl (Or.inl rfl) (pe_callTy (kLst K) rfl T.z_list bt_list (pa_cons (kFld K (kFld K (pv 0))) pa_nil)))
      (pss_cons (ps_for PassesOwn.never rfl (kEnum K rfl T.z_enumerate (pa_cons (pe_fn G_lead_rows hr rfl (pa_cons (pv 0) (pa_cons (pe_un un_neg pe_int) pa_nil))) pa_nil)) (kGTup K (n := 2) (pgs_cons (pg_name (i := 3) sc_find_short.nd rfl (Or.inl rfl)) (pgs_cons (pg_name (i := 4) sc_find_short.nd rfl (Or.inl rfl)) pgs_nil))) (pss_one (ps_if (pt_val (pe_callB (kAny K) rfl T.z_any bt_any (pa_cons (pe_lc (own := [("worth", 7), ("cost", 8)]) rfl sc_find_short.nd (kZip K rfl T.z_zip (pa_cons (pv 4) (pa_cons (pv 2) pa_nil))) (blkOk_by (own := [("worth", 7), ("cost", 8)]) (N := ["meter", "fall", "costs", "length", "row", "rests", "run", "worth", "cost"]) (sc := defScope s_find_short) (by decide +kernel)) (fun _ _ _ _ _ => (kGTup K (n := 2) (pgs_cons (pg_name (i := 7) sc_find_short.nd rfl (by first | exact Or.inl rfl | exact Or.inr rfl)) (pgs_cons (pg_name (i := 8) sc_find_short.nd rfl (by first | exact Or.inl rfl | exact Or.inr rfl)) pgs_nil)))) (fun _ _ _ _ _ => pts_nil) (fun _ _ _ _ _ => (pe_and (pe_cmpR op_notN1 (pv 7) pe_non (nomark _)) (pe_one (pe_cmpR op_gt (pe_op op_add (pv 7) (pv 8)) pe_int (nomark _)))))) pa_nil))) (pss_cons (ps_set (i := 5) sc_find_short.nd rfl (Or.inl rfl) (pe_fn G_rest_rows hr rfl (pa_cons (pv 0) (pa_cons (pv 2) (pa_cons pe_int (pa_cons (pv 3) (pa_cons (pe_un un_neg pe_int) pa_nil)))))))
      (pss_cons (ps_set (i := 6) sc_find_short.nd rfl (Or.inl rfl) (pe_fn G_least_walk hr rfl (pa_cons (pv 0) (pa_cons (pv 5) (pa_cons (pv 3) (pa_cons (pe_un un_neg (kFld K (pv 0))) (pa_cons pe_int (pa_cons (pe_un un_neg pe_int) pa_nil))))))))
      (pss_one (ps_ret (kMk K T.k_Short G_Short hr rfl T.g_Short (pa_cons (pv 6) (pa_cons (pe_un un_neg (kMt K (pv 0) T.c_Meter T.m_Meter_lead_behind G_Meter_lead_behind hr (pa_cons (pv 6) pa_nil))) pa_nil))))))) pss_nil)))
      (pss_one (ps_ret pe_non)))))), ?_⟩
    show (_ : TS) { nx := fun _ H' => Q .non H', rt := Q } ([some (.ref me), none, none, none, none, none, none, none, none] : L2.St) H
    have ok1 := ok.n1
    have ok2 := ok.n2
    walk_at "go"
    refine ⟨me, M, rfl, hM, ok, fun nf H1 e1 => ?_, fun r hr a H' e na hd => ?_⟩
    · walk_at "go"
      refine c_ndt rfl ?_
      walk_at "go"
      obtain ⟨qs, qc⟩ := qn nf
      obtain ⟨c, tc, ta, tch, xs, mo⟩ := hM
      obtain ⟨f1, f2, f3, f4, f5, f6, f7, f8, f9, fA, fB, f10, fC, _⟩ := mo.mono e1
      walk_at "go"
      refine ⟨tc, M.costs.map V.int, rfl, f6, fun cl ncl => ?_⟩
      have e2 : Same H1 (upd H1 cl (.lst (M.costs.map V.int))) := Same.new ncl
      have hcl2 : (upd H1 cl (.lst (M.costs.map V.int))) cl = some (.lst (M.costs.map V.int)) := upd_same
      generalize upd H1 cl (.lst (M.costs.map V.int)) = H2 at *
      have e02 := e1.trans e2
      walk_at "go"
      refine c_seq (f_enum ?_)
      walk_at "go"
      refine ⟨me, M, -1, rfl, ⟨c, tc, ta, tch, xs, mo.mono e02⟩, ok, by omega, fun rp R H3 e3 nrp hR hB => ?_⟩
      obtain ⟨_, ras, hras, hrl, hrow⟩ := id hR
      have e03 := e02.trans e3
      have hcl3 := e3 _ _ hcl2
      have hlen : (ras.map V.ref).length = M.costs.length := by rw [List.length_map]; omega
      walk_at "go"
      refine ovEL (.of hras) (fo walk_enum (fun i σ' H' => ∃ (o3 o4 o5 o6 o7 o8 : Option V), σ' = [some (.ref me), some .non, some (.ref cl), o3, o4, o5, o6, o7, o8] ∧ Same H3 H' ∧ ∀ r b, Wk M.ar 0 0 r b → r.length < i → ¬ lead M r b < 0) ⟨_, _, _, _, _, _, rfl, Same.refl _, fun r b _ z => absurd z (Nat.not_lt_zero _)⟩ (fun i σ' H' _ ⟨_, _, _, _, _, _, _, e, _⟩ => .of (e _ _ hras)) ?_ ?_)
      · rintro i x σ' H4 H4' hi ⟨o3, o4, o5, o6, o7, o8, rfl, e4, hno⟩ ⟨T1, x1, y1, rfl, hT, rfl, hx1, hy1⟩
        cases hx1
        replace hy1 : (ras.map V.ref)[i]? = some y1 := hy1
        obtain ⟨ra, hra⟩ := getElem_some (l := ras) (k := i) (by rw [List.length_map] at hi; exact hi)
        rw [List.getElem?_map, hra] at hy1
        cases hy1
        have e5 : Same H4 (upd H4 T1 (.tup [vN i, .ref ra])) := Same.new hT
        have e45 := e4.trans e5
        have hra5 := e45 _ _ (hrow i ra hra).2.2
        have hcl5 := e45 _ _ hcl3
        have hBi := hB i (by omega)
        walk_at "go"
        generalize upd H4 T1 (.tup [vN i, .ref ra]) = H5 at *
        refine l_zip ?_
        walk_at "go"
        have hRl : (R i).length = M.costs.length := hBi.1
        refine ovZL (.of hra5) (.of hcl5) (lp (walk_zip (n := M.costs.length) (by simp [hRl])) (fun Hx e => ⟨.of (e _ _ hra5), .of (e _ _ hcl5)⟩) (fun k acc => acc = ((List.range k).map fun v => shB (rowF (R i) v) (costAt M.costs v)).map V.bl) rfl ?_ ?_)
        · rintro D v x acc H6 H6' nD hv hla hD e6 hR6 ⟨T2, x2, y2, rfl, hT2, rfl, hx2, hy2⟩
          obtain ⟨o, ho, _⟩ := hBi.2 v hv
          obtain ⟨cv, hcv⟩ := getElem_some hv
          replace hx2 : ((R i).map vO)[v]? = some x2 := hx2
          replace hy2 : (M.costs.map V.int)[v]? = some y2 := hy2
          rw [List.getElem?_map, ho] at hx2
          rw [List.getElem?_map, hcv] at hy2
          cases hx2
          cases hy2
          have e7 : Same H6 (upd H6 T2 (.tup [vO o, .int cv])) := Same.new hT2
          have ec : costAt M.costs v = cv := by unfold costAt; rw [hcv]; rfl
          walk_at "go"
          refine ⟨rfl, ?_⟩
          walk_at "go"
          rw [vO_non]
          have stp : ∀ b : Bool, shB o cv = b → Ad (Lp H5 fun k acc => acc = ((List.range k).map fun v => shB (rowF (R i) v) (costAt M.costs v)).map V.bl) D (v + 1) (.bl b) (upd H6 T2 (.tup [vO o, .int cv])) := fun b hb => by
            refine Lp.add nD hD e6 e7 hla ?_ (by omega)
            rw [hR6, List.range_succ, List.map_append, List.map_append, List.map_singleton, List.map_singleton, rowF_of ho, ec, hb]
          cases o with
          | none =>
            refine c_ndt rfl ?_
            exact stp false rfl
          | some y =>
            refine c_ndf (by simp) ?_
            walk_at "go"
            refine c_I0 (m := y) (n := cv) ?_
            walk_at "go"
            exact stp _ rfl
        · intro D acc H6 nD e6 hD hla hR6
          walk_at "go"
          refine ⟨D, _, rfl, .of (by rw [hD, hR6]), ?_⟩
          walk_at "go"
          refine b2 (fun hb => ?_) fun hb => ?_
          · have hex := any_range.mp hb
            have e46 := e45.trans e6
            have e06 := e03.trans e46
            walk_at "go"
            refine ⟨me, cl, M, M.costs.map some, 0, i, -1, fun a => a = cl ∨ H2 a = none, rfl, ⟨c, tc, ta, tch, xs, mo.mono e06⟩, ok, by rw [e6 _ _ hcl5, List.map_map]; rfl, by simp, by omega, by omega, .inl rfl, fun a na => .inr (((e3.trans e46)).free na), fun rr RR H7 e7 nrr hRR hBB => ?_⟩
            walk_at "go"
            have e07 := e06.trans e7
            have hgood : ∃ r, Good M.ar 0 M.g (-1) (rowF (M.costs.map some)) 0 (-M.first) 1 i r := by
              obtain ⟨v, hv, hs⟩ := hex
              obtain ⟨r, w1, w2, w3⟩ := (row_short hBi hv).mp hs
              exact ⟨r, good_short.mpr ⟨v, hv, w1, w2, w3⟩⟩
            obtain ⟨f1, f2, f3, f4, f5, f6, f7, f8, f9, fA, fB, f10, fC, _⟩ := mo.mono e07
            walk_at "go"
            refine ⟨me, rr, M, RR, i, i, -M.first, 1, -1, rowF (M.costs.map some), _, rfl, ⟨c, tc, ta, tch, xs, mo.mono e07⟩, ok, hRR, Nat.le_refl _, by omega, by omega, hBB, hgood, fun r hr hrm ra2 H8 e8 nra2 hra2 => ?_⟩
            obtain ⟨b, hb2, w1, w2, w3⟩ := good_short.mp hr
            have hms : MinShort M r b := min_short nf hno w1 w2 w3 fun r' b' w1' w2' w3' => hrm r' (good_short.mpr ⟨b', w1'.end_lt ok, w1', w2', w3'⟩)
            have e08 := e07.trans e8
            have mls1 : ∃ dx fs, H8 me = some (.ins (He.ga K "Meter") dx fs) ∧ fs.lookup ("lead_behind" : Str) = none := by
              obtain ⟨dx, fs, h1, _, h2, _⟩ := (mo.mono e08).mls
              exact ⟨dx, fs, h1, h2⟩
            walk_at "go"
            refine ⟨me, ra2, M, r, b, rfl, ⟨c, tc, ta, tch, xs, mo.mono e08⟩, ok, .of hra2, w1, by omega, fun H9 e9 => ?_⟩
            walk_at "go"
            refine mk_short (e9.tup (.of hra2)) fun a H10 e10 na hsh => ?_
            exact qs r b hms a H10 ((e08.trans e9).trans e10) ((e08.trans e9).free na) hsh
          · walk_at "go"
            refine ⟨_, _, _, _, _, _, rfl, e45.trans e6, fun r b w1 hlt => ?_⟩
            by_cases hl : r.length < i
            · exact hno r b w1 hl
            · intro hs
              have hbl := w1.end_lt ok
              have := (any_range (f := fun v => shB (rowF (R i) v) (costAt M.costs v))).mpr ⟨b, hbl, (row_short hBi hbl).mpr ⟨r, w1, by omega, hs⟩⟩
              rw [hb] at this
              cases this
      · rintro σ' H4 ⟨o3, o4, o5, o6, o7, o8, rfl, e4, hno⟩
        dsimp only
        walk_at "go"
        refine qc (fun r b hp => ?_) _ (e03.trans e4)
        have := hno r b hp.1 (by have := Path.short ok.arr ok.n1 hp; omega)
        omega
    · walk_at "go"
      refine c_ndf (by simp) ?_
      walk_at "go"
      exact qf r hr a H' e na hd
/-- no ring falls, no run is short -/
def Covered (M : MD) : Prop := NoFall M ∧ ∀ r b, Path M.ar r b → 0 ≤ lead M r b
def spCov (K : PySem.W.Frag) : Sp := fun vs H Q _ => ∃ (me : Addr) (M : MD), vs = [.ref me] ∧ MeterAt K H me M ∧ M.Ok ∧ ((∃ r, MinFall M.ar M.g r) ∨ NoFall M ∧ ((∃ r b, MinShort M r b) ∨ ∀ r b, Path M.ar r b → 0 ≤ lead M r b)) ∧ (Covered M → ∀ H', Same H H' → Q (.bl true) H') ∧ (¬ Covered M → ∀ H', Same H H' → Q (.bl false) H')
theorem sc_is_covered : FnScope ["meter"] ["meter"] (defScope s_is_covered) := ⟨rfl, rfl, rfl, by decide +kernel, rfl, by decide +kernel, by decide +kernel⟩
theorem ok_is_covered (T : Tx K mg) (G_find_short : Fn P w K mg base 7 "find_short" ["meter"] (spFind K)) : Fn P w K mg base 8 "is_covered" ["meter"] (spCov K) := by
  refine fn_mk (st := s_is_covered) T.f_is_covered T.g_is_covered sc_is_covered (fun _ _ _ _ _ _ us hl => match us, hl with | [_], _ => rfl) ?len (fun cdv A outer s H vs Q E hr h => ?body)
  case len => exact fun vs H Q E ⟨me, M, e, _⟩ => by rw [e]; rfl
  case body =>
    obtain ⟨me, M, rfl, hM, ok, hd, qt, qf⟩ := h
    refine ⟨_, (pss_one (ps_ret (pe_cmpR op_isN1 (pe_fn G_find_short hr rfl (pa_cons (pv 0) pa_nil)) pe_non (nomark _)))), ?_⟩
    show (_ : TS) { nx := fun _ H' => Q .non H', rt := Q } ([some (.ref me)] : L2.St) H
    walk_at "go"
    refine ⟨me, M, rfl, hM, ok, fun r hr a H' e na hd => ?_, fun nf => ⟨fun r b hr a H' e na hd => ?_, fun hc H' e => ?_⟩⟩
    · walk_at "go"
      have eD : decide (V.ref a = V.non) = false := decide_eq_false (by simp)
      rw [eD]
      exact qf (fun hc => by have := hc.1 r hr.1; have := hr.2.1; omega) _ e
    · walk_at "go"
      have eD : decide (V.ref a = V.non) = false := decide_eq_false (by simp)
      rw [eD]
      exact qf (fun hc => by have := hc.2 r b hr.1; have := hr.2.1; omega) _ e
    · walk_at "go"
      have eD : decide (V.non = V.non) = true := decide_eq_true rfl
      rw [eD]
      exact qt ⟨nf, hc⟩ _ e
end
end
section
/-! Short.__eq__, Drifting, least_first. -/
section
variable {P : Program} {w : World} {K : PySem.W.Frag} {mg : Str → Option Value} {base : Heap}
theorem b1_ok {a b : Option (Option Value)} (h : b1 a b = true) : a = b := of_decide_eq_true h
theorem tyx_ins {C a dx : Addr} {fs : List (Str × V)} {H : Hp} (hb : insB K C = true) (c : Cls K C) (h : H a = some (.ins C dx fs)) : TyX K H (.ref a) (.ref C) := by
  obtain ⟨h1, hb⟩ := Bool.and_eq_true_iff.mp hb
  obtain ⟨h2, hb⟩ := Bool.and_eq_true_iff.mp hb
  obtain ⟨h3, h4⟩ := Bool.and_eq_true_iff.mp hb
  exact .base (.ins h c (b1_ok h1) (b1_ok h2) (of_decide_eq_true h3) (of_decide_eq_true h4))
theorem ex_parts (h : ex K = true) : insB K (He.ga K "Drift") = true ∧ insB K (He.ga K "Short") = true ∧ insB K (He.ga K "Drifting") = true ∧ oexB K (He.ga K "Drifting") = true ∧ xfB K (He.ga K "Drifting") = true ∧
    PySem.W.kitOne K (.ref (He.ga K "Short")) (.ref (He.ga K "Drift")) = some false ∧ PySem.W.kitOne K (.ref (He.ga K "Drift")) (.ref (He.ga K "Short")) = some false := by
  obtain ⟨h1, h⟩ := Bool.and_eq_true_iff.mp h
  obtain ⟨h2, h⟩ := Bool.and_eq_true_iff.mp h
  obtain ⟨h3, h⟩ := Bool.and_eq_true_iff.mp h
  obtain ⟨h4, h⟩ := Bool.and_eq_true_iff.mp h
  obtain ⟨h5, h⟩ := Bool.and_eq_true_iff.mp h
  obtain ⟨h6, h7⟩ := Bool.and_eq_true_iff.mp h
  exact ⟨h1, h2, h3, h4, h5, of_decide_eq_true h6, of_decide_eq_true h7⟩
theorem kit_self {C : Addr} : PySem.W.kitOne K (.ref C) (.ref C) = some true := by
  unfold PySem.W.kitOne
  rw [if_pos (by simp)]
/-- isinstance(a, C) -/
theorem c_isO {C D a dx : Addr} {fs : List (Str × V)} {H : Hp} {r : Bool} {Q : VK} (hb : insB K C = true) (c : Cls K C) (h : H a = some (.ins C dx fs)) (hk : PySem.W.kitOne K (.ref C) (.ref D) = some r) (q : Q (.bl r) H) : rIsi K [.ref a, .ref D] H Q :=
  ⟨.ref a, .ref D, .ref C, .ref D, r, rfl, .own D, tyx_ins hb c h, hk, q⟩
theorem eqv_nats : ∀ r : List Nat, PyData.eqvAll (r.map dN) (r.map dN) = true
  | [] => by simp [PyData.eqvAll]
  | k :: r => by
    show PyData.eqvAll (dN k :: r.map dN) (dN k :: r.map dN) = true
    rw [PyData.eqvAll, eqv_nats r, eqv_int]
    simp
theorem eqv_tN (r : List Nat) : PyData.eqv (tN r) (tN r) = true := by
  show PyData.eqv (.tuple (r.map dN)) (.tuple (r.map dN)) = true
  rw [PyData.eqv, eqv_nats]
theorem lay_nats : ∀ r : List Nat, PyData.canLayAll0 (r.map dN) = true
  | [] => by simp [PyData.canLayAll0]
  | k :: r => by
    show PyData.canLayAll0 (dN k :: r.map dN) = true
    rw [PyData.canLayAll0, lay_nats r]
    simp [PyData.canLay0]
theorem shaped_tN (r : List Nat) : SeqAt.shaped (tN r) = true := by
  have h := depth_tN r
  show ((tN r).canLay0 && decide ((tN r).depth ≤ 64)) = true
  rw [Bool.and_eq_true]
  refine ⟨?_, decide_eq_true (by omega)⟩
  show PyData.canLay0 (.tuple (r.map dN)) = true
  rw [PyData.canLay0]
  exact lay_nats r
theorem ShortAt.flds (T : Tx K mg) {H : Hp} {a : Addr} {xs : List V} {b : Int} (h : ShortAt K H a xs b) : ∃ t dx fs, H a = some (.ins (He.ga K "Short") dx fs) ∧ FldAt K H a "run" (.ref t) ∧ FldAt K H a "by" (.int b) ∧ SqT K H t xs := by
  obtain ⟨dx, fs, t, h1, h2, h3, h4⟩ := h
  exact ⟨t, dx, fs, h1, ⟨_, _, _, h1, T.c_Short, T.n_Short_run, h2⟩, ⟨_, _, _, h1, T.c_Short, T.n_Short_by, h3⟩, h4⟩
def spSeq (K : PySem.W.Frag) : Sp := fun vs H Q _ => ∃ (a b : Addr) (r : List Nat) (x y : Int), vs = [.ref a, .ref b] ∧ ShortAt K H a (r.map vN) x ∧ ShortAt K H b (r.map vN) y ∧ Q (.bl (decide (x = y))) H
theorem sc_Short_eq : FnScope ["self", "other"] ["self", "other"] (defScope s_Short_eq) := ⟨rfl, rfl, rfl, by decide +kernel, rfl, by decide +kernel, by decide +kernel⟩
theorem ok_Short_eq (T : Tx K mg) : Mt P w K mg base 1 "Short" "__eq__" ["self", "other"] (spSeq K) := by
  refine mt_mk (st := s_Short_eq) T.f_Short_eq sc_Short_eq (fun _ _ _ _ _ _ us hl => match us, hl with | [_, _], _ => rfl) ?len (fun cdv A outer s H vs Q E hr h => ?body)
  case len => exact fun vs H Q E ⟨a, b, r, x, y, e, _⟩ => by rw [e]; rfl
  case body =>
    obtain ⟨a, b, r, x, y, rfl, ha, hb, q⟩ := h
    refine ⟨_, (pss_one (ps_ret (pe_and (pe_callB (kIsi K) rfl T.z_isinstance bt_isinstance (pa_cons (pv 1) (pa_cons (pe_glob (v := .ref (He.ga K "Short")) rfl T.g_Short rfl) pa_nil))) (pe_and (pe_cmpR (kEqD K hr) (kFld K (pv 0)) (kFld K (pv 1)) (nomark _)) (pe_one (pe_cmpR op_eq (kFld K (pv 0)) (kFld K (pv 1)) (nomark _))))))), ?_⟩
    show (_ : TS) { nx := fun _ H' => Q .non H', rt := Q } ([some (.ref a), some (.ref b)] : L2.St) H
    obtain ⟨x1, x2, x3, x4, x5, x6, x7⟩ := ex_parts T.x
    obtain ⟨t1, dx1, fs1, i1, f1, f2, s1⟩ := ha.flds T
    obtain ⟨t2, dx2, fs2, i2, f3, f4, s2⟩ := hb.flds T
    walk_at "go"
    refine c_isO x2 T.c_Short i2 kit_self ?_
    walk_at "go"
    refine ⟨tN r, tN r, .tup s1 (DpAll.of_nats r), .tup s2 (DpAll.of_nats r), shaped_tN r, shaped_tN r, ?_⟩
    rw [eqv_tN]
    walk_at "go"
    exact q
/-! ### the own error -/
theorem oex_ok {C : Addr} (h : oexB K C = true) (x : XfC K C) : OexC K C ∧ PySem.W.findIn K (.ref C) "__init__" = some (some (.ref (He.ma K C "__init__"))) ∧ PySem.W.typeIn K (.ref (He.ma K C "__init__")) = some (.type "function") := by
  obtain ⟨h1, h⟩ := Bool.and_eq_true_iff.mp h
  obtain ⟨h2, h⟩ := Bool.and_eq_true_iff.mp h
  obtain ⟨h3, h⟩ := Bool.and_eq_true_iff.mp h
  obtain ⟨h4, h⟩ := Bool.and_eq_true_iff.mp h
  obtain ⟨h5, h6⟩ := Bool.and_eq_true_iff.mp h
  refine ⟨⟨?_, b1_ok h2, x.exC, of_decide_eq_true h3, h4⟩, b1_ok h5, of_decide_eq_true h6⟩
  unfold excB at h1
  split at h1
  · rename_i dd cd sl e
    split at h1
    · rename_i C' bm k0 k1 k2 k3 n k5 hm hs
      obtain ⟨g1, h1⟩ := Bool.and_eq_true_iff.mp h1
      obtain ⟨g2, h1⟩ := Bool.and_eq_true_iff.mp h1
      obtain ⟨g3, h1⟩ := Bool.and_eq_true_iff.mp h1
      obtain ⟨g4, g5⟩ := Bool.and_eq_true_iff.mp h1
      have e1 := of_decide_eq_true g1
      have e2 := of_decide_eq_true g2
      obtain ⟨nm, bs, mro, ns, qn, hd, sn, sb, ab, col, del⟩ := cd
      dsimp only at hm g3 g4
      subst hm e1 e2 g4
      have e3 : del = false := by simpa using g3
      subst e3
      refine ⟨nm, qn, ns, bs, bm, sn, sb, ab, col, dd, k0, k1, k2, k3, k5, ?_, g5⟩
      rw [e]
      have es : sl = #[k0, k1, k2, k3, some (.builtin "ValueError.__new__"), k5] := by
        apply Array.ext'
        exact hs
      rw [es]
    · cases h1
  · cases h1
/-- Drifting(ring, by): its fields -/
def spErr (K : PySem.W.Frag) : Sp := fun vs H Q _ => ∃ (a : Addr) (x y : V), vs = [.ref a, x, y] ∧ H a = some (exo a (He.ga K "Drifting") none) ∧
  ∀ dx, H dx = none → dx ≠ a → Q .non (upd (upd (upd H dx (exd dx [(("ring" : Str), x)])) a (exo a (He.ga K "Drifting") (some dx))) dx (exd dx [(("by" : Str), y), (("ring" : Str), x)]))
theorem ok_Drifting_init (T : Tx K mg) : Mt P w K mg base 1 "Drifting" "__init__" ["self", "ring", "by"] (spErr K) := by
  obtain ⟨x1, x2, x3, x4, x5, x6, x7⟩ := ex_parts T.x
  obtain ⟨O, _, _⟩ := oex_ok x4 (xfB_ok x5)
  have S : FnScope ["self", "ring", "by"] ["self", "ring", "by"] (defScope s_Drifting_init) := ⟨rfl, rfl, rfl, by decide +kernel, rfl, by decide +kernel, by decide +kernel⟩
  refine mt_mk (st := s_Drifting_init) T.f_Drifting_init S (fun _ _ _ _ _ _ us hl => match us, hl with | [_, _, _], _ => rfl) (fun vs H Q E ⟨a, x, y, e, _⟩ => by rw [e]; rfl) (fun cdv A outer s H vs Q E hr h => ?_)
  obtain ⟨a, x, y, rfl, ha, q⟩ := h
  refine ⟨_, (pss_cons (ps_ost (pv 0) (pv 1)) (pss_one (ps_ost (pv 0) (pv 2)))), ?_⟩
  refine c_seq ?_
  show tVar 1 _ H _
  refine c_var rfl ?_
  refine c_var rfl ?_
  refine ⟨a, _, rfl, O, T.n_Drifting_ring, .inl ⟨ha, fun dx ndx ne => ?_⟩⟩
  refine ⟨y, rfl, .ref a, rfl, a, _, rfl, O, T.n_Drifting_by, .inr ⟨dx, _, upd_same, by rw [upd_ne ne, upd_same], by simp, ?_⟩⟩
  exact q dx ndx ne
/-! ### least_first -/
def FnX (P : Program) (w : World) (K : PySem.W.Frag) (mg : Str → Option Value) (base : Heap) (k : Nat) (x : Str) (ps : List Str) (sp : Sp) : Prop :=
  ∃ fd, mg x = some (.ref (He.ga K x)) ∧ PySem.W.keepIn K (.ref (He.ga K x)) = true ∧ Binds K fd ps [] ∧ FnOk P w K mg base (L2.CX P w) k (He.ga K x) fd ps sp
theorem fnX_mk {x qual : Str} {st : Stmt} {N ps : List Str} {k : Nat} {sp : Sp} (h : ∃ fd, FunD K x qual (defArgs st) (defBody st) (defScope st) [] [] (He.ga K x) fd) (hm : mg x = some (.ref (He.ga K x))) (S : FnScope N ps (defScope st))
    (hb : ∀ (kV doc pm : Value) (an : Option Addr) (cdv ct : Value) (us : List Value), us.length = ps.length → bindArgs (PySem.W.fnOf x qual (defArgs st) (defBody st) (defScope st) .none kV doc pm an cdv ct) ⟨us, []⟩ = pure (ps.zip us))
    (len : ∀ vs H Q E, sp vs H Q E → vs.length = ps.length)
    (body : ∀ (cdv : Value) (A : Around) (outer : List Env) (s : Shared) (H : Hp) (vs : List V) (Q : VK) (E : XK), Room k (A.deeper (envOfC qual (defScope st) s.heap.objs.size (He.ga K x) cdv)) → sp vs H Q E →
      ∃ t, PSs (cxOf (L2.CX P w) P w K mg base N qual (defScope st) (He.ga K x) cdv A outer s H E) (defBody st) t ∧ t { nx := fun _ H' => Q .non H', rt := Q } (start N vs) H) : FnX P w K mg base (k + 1) x ps sp := by
  obtain ⟨fd, F⟩ := h
  exact ⟨fd, hm, F.kp, F.bindsN hb, F.ok S len fun cdv A outer s H vs Q E hr hs => body cdv A outer s H vs Q E hr hs⟩
theorem walk_zipT {K : PySem.W.Frag} {a b : Addr} {xs ys : List V} {n : Nat} (hn : n = min xs.length ys.length) : Walk (RZ.ItzT K a b) n (fun H => SqT K H a xs ∧ SqT K H b ys) (YPair (fun i => xs[i]?) (fun i => ys[i]?)) := by
  subst hn
  refine ⟨fun i _ hi q => ?_, fun _ q => ⟨xs, ys, q.1, q.2, by omega⟩, fun i H v H' _ q y => ?_⟩
  · have h1 : i < xs.length := by omega
    have h2 : i < ys.length := by omega
    exact ⟨xs, ys, xs[i], ys[i], q.1, q.2, by simp [h1], by simp [h2]⟩
  · obtain ⟨T, x, z, h1, h2, h3, h4, h5⟩ := y
    exact ⟨T, x, z, h1, h2, h3, h4 xs q.1, h5 ys q.2⟩
/-- the greatest loss of a simple path -/
def LeastOf (M : MD) (x : Int) : Prop := (∃ r b, Path M.ar r b ∧ x = costAt M.costs b - gs M.g r) ∧ ∀ r b, Path M.ar r b → costAt M.costs b - gs M.g r ≤ x
theorem LeastOf.unique {M : MD} {x y : Int} (h : LeastOf M x) (k : LeastOf M y) : x = y := by
  obtain ⟨⟨r, b, p, e⟩, h2⟩ := h
  obtain ⟨⟨r', b', p', e'⟩, k2⟩ := k
  have := h2 r' b' p'
  have := k2 r b p
  omega
theorem costAt_of {costs : List Int} {v : Nat} {x : Int} (h : costs[v]? = some x) : costAt costs v = x := by unfold costAt; rw [h]; rfl
theorem least_of {M : MD} (ok : M.Ok) {ws : List Int} (hl : ws.length = M.costs.length) (hw : ∀ (v : Nat) (x : Int), ws[v]? = some x → LowOf M v x) {m : Int}
    (hm : m ∈ (List.range M.costs.length).map fun v => ws[v]?.getD 0 - costAt M.costs v) (hmin : ∀ y, y ∈ ((List.range M.costs.length).map fun v => ws[v]?.getD 0 - costAt M.costs v) → m ≤ y) : LeastOf M (M.first - m) := by
  constructor
  · obtain ⟨v, hv, e⟩ := List.mem_map.mp hm
    rw [List.mem_range] at hv
    obtain ⟨x, hx⟩ := getElem_some (l := ws) (k := v) (by omega)
    obtain ⟨r, h1, h2, _⟩ := hw v x hx
    rw [hx] at e
    simp only [Option.getD_some] at e
    exact ⟨r, v, h1, by omega⟩
  · intro r b hp
    have hb : b < M.costs.length := hp.1.end_lt ok
    obtain ⟨x, hx⟩ := getElem_some (l := ws) (k := b) (by omega)
    obtain ⟨_, _, _, h3⟩ := hw b x hx
    have h4 := h3 r hp
    have h5 := hmin (x - costAt M.costs b) (List.mem_map.mpr ⟨b, List.mem_range.mpr hb, by rw [hx]; rfl⟩)
    omega
def spLeast (K : PySem.W.Frag) : Sp := fun vs H Q E => ∃ (me : Addr) (M : MD), vs = [.ref me] ∧ MeterAt K H me M ∧ M.Ok ∧ Reach M ∧
  (NoFall M → ∀ x H', LeastOf M x → Same H H' → Q (.int x) H') ∧
  (∀ r, MinFall M.ar M.g r → ∀ (d t : Addr) (fs : List (Str × V)) H', Same H H' → H' d = some (.xd fs) → fs.lookup ("ring" : Str) = some (.ref t) → fs.lookup ("by" : Str) = some (.int (gs M.g r)) → SqT K H' t (r.map vN) → E (.ref (He.ga K "Drifting")) (some d) H')
theorem sc_least_first : FnScope ["meter", "fall", "spare", "low", "cost"] ["meter"] (defScope s_least_first) := ⟨rfl, rfl, rfl, by decide +kernel, rfl, by decide +kernel, by decide +kernel⟩
theorem ok_least_first (T : Tx K mg) (G_find_fall : Fn P w K mg base 6 "find_fall" ["meter"] (spFall K)) (G_low_leads : Fn P w K mg base 8 "low_leads" ["meter"] (spLow K)) (G_Drifting : Mt P w K mg base 1 "Drifting" "__init__" ["self", "ring", "by"] (spErr K)) : FnX P w K mg base 9 "least_first" ["meter"] (spLeast K) := by
  obtain ⟨x1, x2, x3, x4, x5, x6, x7⟩ := ex_parts T.x
  obtain ⟨O, iC, tI⟩ := oex_ok x4 (xfB_ok x5)
  obtain ⟨fdD, bD, GD⟩ := G_Drifting
  refine fnX_mk (st := s_least_first) T.f_least_first T.g_least_first sc_least_first (fun _ _ _ _ _ _ us hl => match us, hl with | [_], _ => rfl) ?len (fun cdv A outer s H vs Q E hr h => ?body)
  case len => exact fun vs H Q E ⟨me, M, e, _⟩ => by rw [e]; rfl
  case body =>
    obtain ⟨me, M, rfl, hM, ok, hreach, qn, qe⟩ := h
    refine ⟨_, (pss_cons (ps_set (i := 1) sc_least_first.nd rfl (Or.inl rfl) (pe_fn G_find_fall hr rfl (pa_cons (pv 0) pa_nil)))
      (pss_cons (ps_if (pt_cmpR op_notN1 (pv 1) pe_non (nomark _)) (pss_one (ps_raise rfl (takes_of rfl rfl rfl rfl) (pmk_oex O iC tI GD (hr.mono (by decide)) bD .nil pass0 rfl T.g_Drifting (pa_cons (kFld K (pv 1)) (pa_cons (kFld K (pv 1)) pa_nil))))) pss_nil)
      (pss_cons (ps_set (i := 2) sc_least_first.nd rfl (Or.inl rfl) (pe_callB (kMin K) rfl T.z_min bt_min (pa_cons (pe_lc (own := [("low", 3), ("cost", 4)]) rfl sc_least_first.nd (kZip K rfl T.z_zip (pa_cons (pe_fn G_low_leads hr rfl (pa_cons (pv 0) pa_nil)) (pa_cons (kFld K (kFld K (pv 0))) pa_nil))) (blkOk_by (own := [("low", 3), ("cost", 4)]) (N := ["meter", "fall", "spare", "low", "cost"]) (sc := defScope s_least_first) (by decide +kernel)) (fun _ _ _ _ _ => (kGTup K (n := 2) (pgs_cons (pg_name (i := 3) sc_least_first.nd rfl (by first | exact Or.inl rfl | exact Or.inr rfl)) (pgs_cons (pg_name (i := 4) sc_least_first.nd rfl (by first | exact Or.inl rfl | exact Or.inr rfl)) pgs_nil)))) (fun _ _ _ _ _ => pts_nil) (fun _ _ _ _ _ => (pe_op op_sub (pv 3) (pv 4)))) pa_nil)))
      (pss_one (ps_ret (pe_op op_sub (kFld K (pv 0)) (pv 2))))))), ?_⟩
    show (_ : TS) { nx := fun _ H' => Q .non H', rt := Q } ([some (.ref me), none, none, none, none] : L2.St) H
    have ok1 := ok.n1
    have ok2 := ok.n2
    walk_at "go"
    refine ⟨me, M, rfl, hM, ok, fun nf H1 e1 => ?_, fun r hr a H1 e1 na hd => ?_⟩
    · walk_at "go"
      refine c_ndt rfl ?_
      walk_at "go"
      refine l_zip ?_
      walk_at "go"
      refine ⟨me, M, rfl, hM.mono e1, ok, nf, hreach, fun a H2 ws e2 ha hwl hws => ?_⟩
      have e02 := e1.trans e2
      obtain ⟨c, tc, ta, tch, xs, mo⟩ := hM
      obtain ⟨f1, f2, f3, f4, f5, f6, f7, f8, f9, fA, fB, f10, fC, _⟩ := mo.mono e02
      walk_at "go"
      refine ovZT ha fA (lp (walk_zipT (n := M.costs.length) (by simp [hwl])) (fun Hx e => ⟨e.tup ha, e.tup fA⟩) (fun k acc => acc = ((List.range k).map fun v => ws[v]?.getD 0 - costAt M.costs v).map V.int) rfl ?_ ?_)
      · rintro D v x acc H6 H6' nD hv hla hD e6 hR6 ⟨T2, x2, y2, rfl, hT2, rfl, hx2, hy2⟩
        obtain ⟨lo, hlo⟩ := getElem_some (l := ws) (k := v) (by omega)
        obtain ⟨cv, hcv⟩ := getElem_some hv
        replace hx2 : (ws.map V.int)[v]? = some x2 := hx2
        replace hy2 : (M.costs.map V.int)[v]? = some y2 := hy2
        rw [List.getElem?_map, hlo] at hx2
        rw [List.getElem?_map, hcv] at hy2
        cases hx2
        cases hy2
        have e7 : Same H6 (upd H6 T2 (.tup [.int lo, .int cv])) := Same.new hT2
        walk_at "go"
        refine ⟨rfl, ?_⟩
        walk_at "go"
        refine Lp.add nD hD e6 e7 hla ?_ (by omega)
        rw [hR6, List.range_succ, List.map_append, List.map_append, List.map_singleton, List.map_singleton, hlo, costAt_of hcv]
        rfl
      · intro D acc H6 nD e6 hD hla hR6
        walk_at "go"
        refine ⟨D, _, rfl, .of (by rw [hD, hR6]), by simp; omega, fun m hm hmin => ?_⟩
        walk_at "go"
        obtain ⟨f1, f2, f3, f4, f5, f6, f7, f8, f9, fA, fB, f10, fC, _⟩ := mo.mono (e02.trans e6)
        walk_at "go"
        exact qn nf _ _ (least_of ok hwl hws hm hmin) (e02.trans e6)
    · walk_at "go"
      refine c_ndf (by simp) ?_
      obtain ⟨dx, fs, t, g1, g2, g3, g4⟩ := hd
      have f1 : FldAt K H1 a "ring" (.ref t) := ⟨_, _, _, g1, T.c_Drift, T.n_Drift_ring, g2⟩
      have f2 : FldAt K H1 a "by" (.int (gs M.g r)) := ⟨_, _, _, g1, T.c_Drift, T.n_Drift_by, g3⟩
      show tCons _ _ _ _ _
      walk_at "go"
      refine ⟨by simp, fun b nb => ?_⟩
      refine ⟨b, .ref t, .int (gs M.g r), rfl, upd_same, fun d nd ne => ⟨rfl, d, _, by rw [upd_ne (Ne.symm ne), upd_same], upd_same, by rw [upd_ne ne] at nd; exact nd, ?_⟩⟩
      have nd1 : H1 d = none := by rw [upd_ne ne] at nd; exact nd
      have eS : Same H1 (upd (del (upd (upd (upd (upd H1 b (exo b (He.ga K "Drifting") none)) d (exd d [(("ring" : Str), .ref t)])) b (exo b (He.ga K "Drifting") (some d))) d (exd d [(("by" : Str), .int (gs M.g r)), (("ring" : Str), .ref t)])) b) d (.xd [(("by" : Str), .int (gs M.g r)), (("ring" : Str), .ref t)])) := fun x o e => by
        have xb : x ≠ b := ne_of_none e nb
        have xd : x ≠ d := ne_of_none e nd1
        rw [upd_ne xd, del_ne xb, upd_ne xd, upd_ne xb, upd_ne xd, upd_ne xb]
        exact e
      refine qe r hr d t _ _ (e1.trans eS) upd_same ?_ ?_ (eS.tup g4)
      · rw [lookup_put, if_neg ne_rb, lookup_put, if_pos rfl]
      · rw [lookup_put, if_pos rfl]
end
end
section
/-! reached_places. -/
section
variable {P : Program} {w : World} {K : PySem.W.Frag} {mg : Str → Option Value} {base : Heap}
/-- a walk over a list or a tuple that stood at the entry -/
theorem ovA {K : PySem.W.Frag} {H H1 : Hp} {a : Addr} {xs : List V} {R : It → Prop} (h : SqA K H a xs) (e : Same H H1) (r : ∀ J, Walk J xs.length (fun Hx => Same H Hx) (YAt xs) → R J) : OvSeq K (.ref a) H1 R := by
  rcases h with h | h
  · exact ovL (e.seq h) (r _ (walk_list.mono (fun Hx k => k.seq h) fun _ _ _ _ _ _ y => y))
  · exact ovT (e.tup h) (r _ (walk_tup.mono (fun Hx k => k.tup h) fun _ _ _ _ _ _ y => y))
theorem ovEA {K : PySem.W.Frag} {H H1 : Hp} {a : Addr} {xs : List V} {R : It → Prop} (h : SqA K H a xs) (e : Same H H1) (r : ∀ J, Walk J xs.length (fun Hx => Same H Hx) (YPair (fun i => some (.int (i : Nat))) (fun i => xs[i]?)) → R J) : OvEnum K [.ref a] H1 R := by
  rcases h with h | h
  · exact ovEL (e.seq h) (r _ (walk_enum.mono (fun Hx k => k.seq h) fun _ _ _ _ _ _ y => y))
  · exact ovET (e.tup h) (r _ (walk_et.mono (fun Hx k => k.tup h) fun _ _ _ _ _ _ y => y))
theorem count_set : ∀ {rs : List Bool} {h : Nat}, rs[h]? = some false → (rs.set h true).count false + 1 = rs.count false
  | [], h, e => by simp at e
  | b :: rs, 0, e => by
    have eb : b = false := by simpa using e
    subst eb
    simp
  | b :: rs, h + 1, e => by
    have := count_set (rs := rs) (h := h) (by simpa using e)
    cases b <;> simp [List.count_cons] <;> omega
theorem set_true {rs : List Bool} {h k : Nat} (e : rs[h]? = some false) : (rs.set h true)[k]? = some true ↔ k = h ∨ rs[k]? = some true := by
  have hl : h < rs.length := (List.getElem?_eq_some_iff.mp e).1
  rw [List.getElem?_set]
  by_cases hk : h = k
  · subst hk
    simp [hl]
  · rw [if_neg hk]
    constructor
    · exact .inr
    · rintro (q | q)
      · exact absurd q.symm hk
      · exact q
theorem reach_all {ar : List (Nat × Nat)} {rs : List Bool} (h0 : rs[0]? = some true) (hc : ∀ k t h : Nat, ar[k]? = some (t, h) → rs[t]? = some true → rs[h]? = some true) : ∀ {r : List Nat} {a b : Nat}, rs[a]? = some true → Wk ar 0 a r b → rs[b]? = some true
  | [], a, b, ha, w => by
    have e : a = b := w
    subst e
    exact ha
  | k :: r, a, b, ha, ⟨h, e, _, w⟩ => reach_all h0 hc (hc k a h e ha) w
theorem all_true : ∀ {n : Nat} {rs : List Bool}, rs.length = n → (∀ v, v < n → rs[v]? = some true) → rs = List.replicate n true
  | 0, rs, hl, h => by
    rw [List.length_eq_zero_iff.mp hl]
    rfl
  | n + 1, [], hl, h => by simp at hl
  | n + 1, b :: rs, hl, h => by
    have e := h 0 (by omega)
    have eb : b = true := by simpa using e
    subst eb
    rw [List.replicate_succ, all_true (rs := rs) (n := n) (by simpa using hl) fun v hv => by simpa using h (v + 1) (by omega)]
def spReached (K : PySem.W.Frag) : Sp := fun vs H Q _ => ∃ (n : Nat) (aa : Addr) (xs : List V) (ar : List (Nat × Nat)), vs = [vN n, .ref aa] ∧ SqA K H aa xs ∧ DpAll K H xs (ar.map arD) ∧ 1 ≤ n ∧ n ≤ 1000 ∧ (∀ p ∈ ar, p.1 < n ∧ p.2 < n) ∧ (∀ v, v < n → ∃ r, Wk ar 0 0 r v) ∧
  ∀ a H', Same H H' → H' a = some (.lst ((List.replicate n true).map V.bl)) → Q (.ref a) H'
theorem sc_reached_places : FnScope ["many", "arrows", "place", "reached", "found", "tail", "head"] ["many", "arrows"] (defScope s_reached_places) := ⟨rfl, rfl, rfl, by decide +kernel, rfl, by decide +kernel, by decide +kernel⟩
theorem ok_reached_places (T : Tx K mg) : Fn P w K mg base 1 "reached_places" ["many", "arrows"] (spReached K) := by
  refine fn_mk (st := s_reached_places) T.f_reached_places T.g_reached_places sc_reached_places (fun _ _ _ _ _ _ us hl => match us, hl with | [_, _], _ => rfl) ?len (fun cdv A outer s H vs Q E hr h => ?body)
  case len => exact fun vs H Q E ⟨n, aa, xs, ar, e, _⟩ => by rw [e]; rfl
  case body =>
    obtain ⟨n, aa, xs, ar, rfl, haa, hdx, hn1, hn2, har, hre, q⟩ := h
    refine ⟨_, (pss_cons (ps_setLc (i := 3) (own := [("place", 2)]) rfl sc_reached_places.nd rfl rfl (sw_true rfl rfl rfl (by decide +kernel)) (pi_range1 rfl T.z_range (pa_cons (pv 0) pa_nil)) (blkOk_by (own := [("place", 2)]) (N := ["many", "arrows", "place", "reached", "found", "tail", "head"]) (sc := defScope s_reached_places) (by decide +kernel)) (fun _ _ _ _ _ => (pg_name (i := 2) sc_reached_places.nd rfl (by first | exact Or.inl rfl | exact Or.inr rfl))) (fun _ _ _ _ _ => pts_nil) (fun _ _ _ _ _ => (pe_cmpR op_eq (pv 2) pe_int (nomark _))))
      (pss_cons (ps_set (i := 4) sc_reached_places.nd rfl (Or.inl rfl) (pe_lst (pa_cons pe_int pa_nil)))
      (pss_cons (ps_while PassesOwn.never (kTru K (pv 4)) (pss_cons (ps_set (i := 2) sc_reached_places.nd rfl (Or.inl rfl) (kPop K (pv 4)))
      (pss_one (ps_for PassesOwn.never rfl (kSeq K (pv 1)) (kGTup K (n := 2) (pgs_cons (pg_name (i := 5) sc_reached_places.nd rfl (Or.inl rfl)) (pgs_cons (pg_name (i := 6) sc_reached_places.nd rfl (Or.inl rfl)) pgs_nil))) (pss_one (ps_if (PW.pt (pw_and (pt_cmpR op_eq (pv 5) (pv 2) (nomark _)) (pw_and1 (pt_not (pt_val (pe_ix (kIx K) (pv 3) (pv 6) (fun _ _ => rfl))))))) (pss_cons (ps_asg pe_bl (pg_sub (pv 3) (pv 6) set_list))
      (pss_one (ps_expr (kApp K (pv 4) (pv 6))))) pss_nil))))))
      (pss_one (ps_ret (pv 3)))))), ?_⟩
    show (_ : TS) { nx := fun _ H' => Q .non H', rt := Q } ([some (vN n), some (.ref aa), none, none, none, none, none] : L2.St) H
    have hxl : xs.length = ar.length := by rw [hdx.len, List.length_map]
    walk_at "go"
    refine l_r1 ?_
    walk_at "go"
    refine ovR1 (by omega) ?_
    have en : ((n : Nat) : Int).toNat = n := by omega
    rw [en]
    refine lp walk_range (fun _ _ => trivial) (fun k acc => acc = ((List.range k).map fun v => decide (v = 0)).map V.bl) rfl ?_ ?_
    · rintro D v x acc H3 H3' nD hv hla hD e3 hR ⟨rfl, rfl⟩
      simp only [Int.zero_add]
      walk_at "go"
      refine ⟨rfl, ?_⟩
      walk_at "go"
      refine Lp.add nD hD e3 (Same.refl _) hla ?_ (by omega)
      rw [hR, List.range_succ, List.map_append, List.map_append, List.map_singleton, List.map_singleton]
      have : (decide ((v : Int) = 0)) = decide (v = 0) := decide_eq_decide.mpr (by omega)
      rw [this]
    · intro rc acc H1 nrc e1 hrc hla hR
      walk_at "go"
      refine ⟨by show 1 ≤ sizeLine; decide, fun fa nfa => ?_⟩
      have e2 : Same H1 (upd H1 fa (.lst [.int 0])) := Same.new nfa
      have nrf : rc ≠ fa := fun z => by rw [z, nfa] at hrc; cases hrc
      have nfa0 := e1.free nfa
      walk_at "go"
      refine c_seq ?_
      refine ⟨fun m σ' H' => ∃ (rs : List Bool) (fs : List Nat) (o4 o5 o6 : Option V), σ' = [some (vN n), some (.ref aa), o4, some (.ref rc), some (.ref fa), o5, o6] ∧ Same H H' ∧ H' rc = some (.lst (rs.map V.bl)) ∧ H' fa = some (.lst (fs.map vN)) ∧ rs.length = n ∧ rs[0]? = some true ∧ (∀ p ∈ fs, p < n) ∧ (∀ k t h : Nat, ar[k]? = some (t, h) → rs[t]? = some true → t ∈ fs ∨ rs[h]? = some true) ∧ fs.length ≤ n ∧ fs.length + rs.count false ≤ n ∧ m = 2 * rs.count false + fs.length, ?_, ?_⟩
      · refine ⟨_, (List.range n).map fun v => decide (v = 0), [0], _, _, _, rfl, e1.trans e2, by rw [upd_ne nrf, hrc, hR], upd_same, by simp, ?_, ?_, ?_, ?_, ?_, rfl⟩
        · rw [List.getElem?_map, List.getElem?_range (by omega)]
          rfl
        · intro p hp
          rw [List.mem_singleton.mp hp]
          omega
        · intro k t h hk ht
          left
          rw [List.getElem?_map] at ht
          by_cases htn : t < n
          · rw [List.getElem?_range htn] at ht
            simp at ht
            simp [ht]
          · rw [List.getElem?_eq_none (by simp; omega)] at ht
            cases ht
        · simp
          omega
        · have hx : ∀ k, ((List.range (k + 1)).map fun v => decide (v = 0)).count false = k := by
            intro k
            induction k with
            | zero => rfl
            | succ k ih => rw [List.range_succ, List.map_append, List.count_append, ih]; simp
          obtain ⟨k, rfl⟩ : ∃ k, n = k + 1 := ⟨n - 1, by omega⟩
          rw [hx]
          simp
          omega
      · rintro m σ' H2 ⟨rs, fs, o4, o5, o6, rfl, eS, hrs, hfs, hrl, h0, hfn, hcl, hlf, hlc, rfl⟩
        walk_at "go"
        refine trL (.of hfs) ?_
        refine b2 (fun hb => ?_) fun hb => ?_
        · have hne : fs ≠ [] := fun z => by rw [z] at hb; cases hb
          have hp0 : 0 < fs.length := List.length_pos_iff.mpr hne
          refine ⟨fun σ' H' => ∃ m', m' < 2 * rs.count false + fs.length ∧ ∃ (rs : List Bool) (fs : List Nat) (o4 o5 o6 : Option V), σ' = [some (vN n), some (.ref aa), o4, some (.ref rc), some (.ref fa), o5, o6] ∧ Same H H' ∧ H' rc = some (.lst (rs.map V.bl)) ∧ H' fa = some (.lst (fs.map vN)) ∧ rs.length = n ∧ rs[0]? = some true ∧ (∀ p ∈ fs, p < n) ∧ (∀ k t h : Nat, ar[k]? = some (t, h) → rs[t]? = some true → t ∈ fs ∨ rs[h]? = some true) ∧ fs.length ≤ n ∧ fs.length + rs.count false ≤ n ∧ m' = 2 * rs.count false + fs.length, fun _ _ h => h, ?_⟩
          obtain ⟨p, hp⟩ := getElem_some (l := fs) (k := fs.length - 1) (by omega)
          have efs : fs = fs.dropLast ++ [p] := by
            have h1 := List.dropLast_concat_getLast hne
            have h2 : fs.getLast hne = p := by
              rw [List.getLast_eq_getElem]
              rw [List.getElem?_eq_getElem (by omega)] at hp
              exact Option.some.inj hp
            rw [h2] at h1
            exact h1.symm
          walk_at "go"
          refine ⟨fa, fs.map vN, vN p, rfl, rfl, hfs, by rw [List.length_map, List.getElem?_map, hp]; rfl, ?_⟩
          have eS2 : Same H (upd H2 fa (.lst (fs.map vN).dropLast)) := Same.mut eS nfa0
          have hfs2 : (upd H2 fa (.lst (fs.map vN).dropLast)) fa = some (.lst (fs.dropLast.map vN)) := by rw [upd_same, List.map_dropLast]
          have hrs2 : (upd H2 fa (.lst (fs.map vN).dropLast)) rc = some (.lst (rs.map V.bl)) := by rw [upd_ne nrf]; exact hrs
          generalize upd H2 fa (.lst (fs.map vN).dropLast) = H3 at *
          walk_at "go"
          refine f_seq ?_
          walk_at "go"
          refine ovA haa eS2 fun J wJ => ?_
          refine fo wJ (fun j σ' H' => ∃ (rs2 : List Bool) (fs2 : List Nat) (o5 o6 : Option V), σ' = [some (vN n), some (.ref aa), some (vN p), some (.ref rc), some (.ref fa), o5, o6] ∧ Same H H' ∧ H' rc = some (.lst (rs2.map V.bl)) ∧ H' fa = some (.lst (fs2.map vN)) ∧ rs2.length = n ∧ rs2[0]? = some true ∧ (∀ p ∈ fs2, p < n) ∧ (∀ k t h : Nat, ar[k]? = some (t, h) → rs2[t]? = some true → t ∈ fs2 ∨ rs2[h]? = some true ∨ (t = p ∧ j ≤ k)) ∧ fs2.length + rs2.count false ≤ n ∧ 2 * rs2.count false + fs2.length < 2 * rs.count false + fs.length) ?_ (fun j σ' H' _ ⟨_, _, _, _, _, e, _⟩ => e) ?_ ?_
          · refine ⟨rs, fs.dropLast, _, _, rfl, eS2, hrs2, hfs2, hrl, h0, fun x hx => hfn x (by rw [efs]; exact List.mem_append_left _ hx), fun k t h hk ht => ?_, ?_, ?_⟩
            · rcases hcl k t h hk ht with z | z
              · rw [efs] at z
                rcases List.mem_append.mp z with z | z
                · exact .inl z
                · exact .inr (.inr ⟨List.mem_singleton.mp z, Nat.zero_le _⟩)
              · exact .inr (.inl z)
            · rw [List.length_dropLast]
              omega
            · rw [List.length_dropLast]
              omega
          · rintro j x σ' H4 H4' hj ⟨rs2, fs2, o5, o6, rfl, e4, hr2, hf2, hl2, h02, hn2', hc2, hb2, hm2⟩ ⟨rfl, hx⟩
            have hja : j < ar.length := by omega
            obtain ⟨pr, hpr⟩ := getElem_some hja
            obtain ⟨a1, g1, g2, g3, g4⟩ := ar_at (hdx.mono e4) hpr
            rw [g1] at hx
            cases hx
            have hpr2 := har pr (List.mem_of_getElem? hpr)
            obtain ⟨b, hbb⟩ := getElem_some (l := rs2) (k := pr.2) (by omega)
            have g6 : SqA K H4' rc (rs2.map V.bl) := .lst hr2
            have g7 : atI (rs2.map V.bl) (pr.2 : Int) = some (.bl b) := atI_map hbb
            walk_at "go"
            have keep : (pr.1 = p → rs2[pr.2]? = some true) → ∃ (rs2 : List Bool) (fs2 : List Nat) (o5 o6 : Option V), ([some (vN n), some (.ref aa), some (vN p), some (.ref rc), some (.ref fa), some (vN pr.1), some (vN pr.2)] : L2.St) = [some (vN n), some (.ref aa), some (vN p), some (.ref rc), some (.ref fa), o5, o6] ∧ Same H H4' ∧ H4' rc = some (.lst (rs2.map V.bl)) ∧ H4' fa = some (.lst (fs2.map vN)) ∧ rs2.length = n ∧ rs2[0]? = some true ∧ (∀ p ∈ fs2, p < n) ∧ (∀ k t h : Nat, ar[k]? = some (t, h) → rs2[t]? = some true → t ∈ fs2 ∨ rs2[h]? = some true ∨ (t = p ∧ j + 1 ≤ k)) ∧ fs2.length + rs2.count false ≤ n ∧ 2 * rs2.count false + fs2.length < 2 * rs.count false + fs.length := fun hk0 => by
              refine ⟨rs2, fs2, _, _, rfl, e4, hr2, hf2, hl2, h02, hn2', fun k t h hk ht => ?_, hb2, hm2⟩
              rcases hc2 k t h hk ht with z | z | ⟨z1, z2⟩
              · exact .inl z
              · exact .inr (.inl z)
              · by_cases hjk : j = k
                · subst hjk
                  rw [hpr] at hk
                  cases hk
                  exact .inr (.inl (hk0 z1))
                · exact .inr (.inr ⟨z1, by omega⟩)
            refine d2 (fun h1 => ?_) fun h1 => ?_
            · have h1' : pr.1 = p := by omega
              walk_at "go"
              cases b with
              | true =>
                walk_at "go"
                exact keep fun _ => hbb
              | false =>
                walk_at "go"
                refine c_setL hr2 (by rw [List.length_map]; omega) ?_
                have hr5 : (upd H4' rc (.lst ((rs2.map V.bl).set pr.2 (.bl true)))) rc = some (.lst ((rs2.set pr.2 true).map V.bl)) := by rw [upd_same, List.map_set]
                have hf5 : (upd H4' rc (.lst ((rs2.map V.bl).set pr.2 (.bl true)))) fa = some (.lst (fs2.map vN)) := by rw [upd_ne (Ne.symm nrf)]; exact hf2
                have e5 : Same H (upd H4' rc (.lst ((rs2.map V.bl).set pr.2 (.bl true)))) := Same.mut e4 nrc
                generalize upd H4' rc (.lst ((rs2.map V.bl).set pr.2 (.bl true))) = H5 at *
                have hcs := count_set hbb
                walk_at "go"
                refine c_app hf5 (by rw [List.length_map]; omega) ?_
                refine ⟨rs2.set pr.2 true, fs2 ++ [pr.2], _, _, rfl, Same.mut e5 nfa0, by rw [upd_ne nrf]; exact hr5, by rw [upd_same]; simp, by simp [hl2], (set_true hbb).mpr (.inr h02), ?_, fun k t h hk ht => ?_, ?_, ?_⟩
                · intro x hx
                  rcases List.mem_append.mp hx with z | z
                  · exact hn2' x z
                  · rw [List.mem_singleton.mp z]
                    exact hpr2.2
                · rcases (set_true hbb).mp ht with z | z
                  · exact .inl (by simp [z])
                  · rcases hc2 k t h hk z with z | z | ⟨z1, z2⟩
                    · exact .inl (by simp [z])
                    · exact .inr (.inl ((set_true hbb).mpr (.inr z)))
                    · by_cases hjk : j = k
                      · subst hjk
                        rw [hpr] at hk
                        cases hk
                        exact .inr (.inl ((set_true hbb).mpr (.inl rfl)))
                      · exact .inr (.inr ⟨z1, by omega⟩)
                · rw [List.length_append, List.length_singleton]
                  omega
                · rw [List.length_append, List.length_singleton]
                  omega
            · walk_at "go"
              exact keep fun z => absurd (by omega) h1
          · rintro σ' H4 ⟨rs2, fs2, o5, o6, rfl, e4, hr2, hf2, hl2, h02, hn2', hc2, hb2, hm2⟩
            refine ⟨_, hm2, rs2, fs2, _, _, _, rfl, e4, hr2, hf2, hl2, h02, hn2', fun k t h hk ht => ?_, by omega, hb2, rfl⟩
            rcases hc2 k t h hk ht with z | z | ⟨z1, z2⟩
            · exact .inl z
            · exact .inr z
            · have := (List.getElem?_eq_some_iff.mp hk).1
              omega
        · have hfe : fs = [] := by
            cases fs with
            | nil => rfl
            | cons y ys => cases hb
          subst hfe
          dsimp only
          walk_at "go"
          have hall := all_true hrl fun v hv => by
            obtain ⟨r, hw⟩ := hre v hv
            exact reach_all h0 (fun k t h hk ht => (hcl k t h hk ht).resolve_left (by simp)) h0 hw
          subst hall
          exact q rc _ eS hrs
end
end
section
/-! Chart, Meter, with_first. -/
section
variable {P : Program} {w : World} {K : PySem.W.Frag} {mg : Str → Option Value} {base : Heap}
theorem ne_ca : ¬ ("costs" : Str) = "arrows" := by decide +kernel
theorem ne_oc : ¬ ("outs" : Str) = "costs" := by decide +kernel
theorem ne_oa : ¬ ("outs" : Str) = "arrows" := by decide +kernel
/-- all but instances kept -/
def Sml (H H' : Hp) : Prop := ∀ a o, H a = some o → (∀ C dx fs, o ≠ .ins C dx fs) → H' a = some o
theorem Same.sml {H H' : Hp} (e : Same H H') : Sml H H' := fun a o h _ => e a o h
theorem Sml.trans {H H' H'' : Hp} (e : Sml H H') (k : Sml H' H'') : Sml H H'' := fun a o h n => k a o (e a o h n) n
theorem Sml.ins {H : Hp} {a C dx : Addr} {fs : List (Str × V)} {o : HO} (h : H a = some (.ins C dx fs)) : Sml H (upd H a o) := fun b u e n => by
  rw [upd_ne (fun z => by rw [z, h] at e; exact n _ _ _ (Option.some.inj e).symm)]
  exact e
theorem Sml.tup {H H' : Hp} {t : Addr} {xs : List V} (e : Sml H H') (h : SqT K H t xs) : SqT K H' t xs := by
  rcases h with (h | ⟨o, h⟩) | h
  · exact .inl (.inl (e _ _ h (by simp)))
  · exact .inl (.inr ⟨o, e _ _ h (by simp)⟩)
  · exact .inr h
theorem Sml.seq {H H' : Hp} {t : Addr} {xs : List V} (e : Sml H H') (h : SqL K H t xs) : SqL K H' t xs := by
  rcases h with (h | ⟨o, h⟩) | h
  · exact .inl (.inl (e _ _ h (by simp)))
  · exact .inl (.inr ⟨o, e _ _ h (by simp)⟩)
  · exact .inr h
theorem Sml.sqA {H H' : Hp} {t : Addr} {xs : List V} (e : Sml H H') (h : SqA K H t xs) : SqA K H' t xs := h.elim (fun h => .inl (e.seq h)) fun h => .inr (e.tup h)
mutual
theorem Dp.sml {H H' : Hp} (e : Sml H H') : ∀ {d : PyData} {v : V}, Dp K H v d → Dp K H' v d
  | .none, _, h => by cases h; exact .non
  | .bool b, _, h => by cases h; exact .bl b
  | .int i, _, h => by cases h; exact .int i
  | .str x, _, h => by cases h; exact .str x
  | .list ds, _, h => by
    cases h with
    | lst hs ha => exact .lst (e.seq hs) (DpAll.sml e ha)
  | .tuple ds, _, h => by
    cases h with
    | tup hs ha => exact .tup (e.tup hs) (DpAll.sml e ha)
  | .dict _, _, h => by cases h
theorem DpAll.sml {H H' : Hp} (e : Sml H H') : ∀ {ds : List PyData} {vs : List V}, DpAll K H vs ds → DpAll K H' vs ds
  | [], _, h => by cases h; exact .nil
  | d :: ds, _, h => by
    cases h with
    | cons h1 h2 => exact .cons (Dp.sml e h1) (DpAll.sml e h2)
end
/-- tuples of the items of xs, one by one -/
def TupsAt (K : PySem.W.Frag) (H : Hp) (acc : List V) (ds : List PyData) : Prop := DpAll K H acc ds
def CostsOk (costs : List Int) : Prop := ∀ c ∈ costs, 0 ≤ c ∧ c ≤ 1000000000
def spChartI (K : PySem.W.Frag) : Sp := fun vs H Q _ => ∃ (a dx ca aa : Addr) (costs : List Int) (xs : List V) (ar : List (Nat × Nat)), vs = [.ref a, .ref ca, .ref aa] ∧ H a = some (.ins (He.ga K "Chart") dx []) ∧ SqA K H ca (costs.map V.int) ∧ SqA K H aa xs ∧ DpAll K H xs (ar.map arD) ∧
  1 ≤ costs.length ∧ costs.length ≤ 16 ∧ CostsOk costs ∧ ar.length ≤ 32 ∧ (∀ p ∈ ar, p.1 < costs.length ∧ p.2 < costs.length) ∧ (∀ v, v < costs.length → ∃ r, Wk ar 0 0 r v) ∧
  ∀ H', (∀ x o, x ≠ a → H x = some o → H' x = some o) → ChartAt K H' a costs ar → Q .non H'
theorem arrow_parts {H : Hp} {ar : List (Nat × Nat)} {xs : List V} (hdx : DpAll K H xs (ar.map arD)) {i : Nat} {y : V} (hy : xs[i]? = some y) : ∃ (pr : Nat × Nat) (a : Addr), ar[i]? = some pr ∧ y = .ref a ∧ SqA K H a [vN pr.1, vN pr.2] ∧ SqT K H a [vN pr.1, vN pr.2] := by
  have hl : xs.length = ar.length := by rw [hdx.len, List.length_map]
  have hi := (List.getElem?_eq_some_iff.mp hy).1
  obtain ⟨pr, hpr⟩ := getElem_some (l := ar) (k := i) (by omega)
  obtain ⟨a, g1, g2, g3, g4⟩ := ar_at hdx hpr
  rw [g1] at hy
  cases hy
  exact ⟨pr, a, hpr, rfl, g3, g4⟩
theorem sc_Chart_init : FnScope ["self", "costs", "arrows", "index", "cost", "last", "arrow", "place", "reached"] ["self", "costs", "arrows"] (defScope s_Chart_init) := ⟨rfl, rfl, rfl, by decide +kernel, rfl, by decide +kernel, by decide +kernel⟩
theorem ok_Chart_init (T : Tx K mg) (G_is_whole : Fn P w K mg base 1 "is_whole" ["thing", "low", "high"] spWhole) (G_is_row : Fn P w K mg base 1 "is_row" ["thing", "least", "most"] (spRow K)) (G_reached_places : Fn P w K mg base 1 "reached_places" ["many", "arrows"] (spReached K)) : Mt P w K mg base 2 "Chart" "__init__" ["self", "costs", "arrows"] (spChartI K) := by
  refine mt_mk (st := s_Chart_init) T.f_Chart_init sc_Chart_init (fun _ _ _ _ _ _ us hl => match us, hl with | [_, _, _], _ => rfl) ?len (fun cdv A outer s H vs Q E hr h => ?body)
  case len => exact fun vs H Q E ⟨a, dx, ca, aa, costs, xs, ar, e, _⟩ => by rw [e]; rfl
  case body =>
    obtain ⟨a, dx, ca, aa, costs, xs, ar, rfl, ha, hca, haa, hdx, hn1, hn2, hco, hm, har, hre, q⟩ := h
    refine ⟨_, (pss_cons (ps_if (pt_not (pt_val (pe_fn G_is_row hr rfl (pa_cons (pv 1) (pa_cons pe_int (pa_cons pe_int pa_nil)))))) (pss_one ps_never) pss_nil)
      (pss_cons (ps_for PassesOwn.never rfl (kEnum K rfl T.z_enumerate (pa_cons (pv 1) pa_nil)) (kGTup K (n := 2) (pgs_cons (pg_name (i := 3) sc_Chart_init.nd rfl (Or.inl rfl)) (pgs_cons (pg_name (i := 4) sc_Chart_init.nd rfl (Or.inl rfl)) pgs_nil))) (pss_one (ps_if (pt_not (pt_val (pe_fn G_is_whole hr rfl (pa_cons (pv 4) (pa_cons pe_int (pa_cons (pe_op op_pow pe_int pe_int) pa_nil)))))) (pss_one ps_never) pss_nil)))
      (pss_cons (ps_if (pt_not (pt_val (pe_fn G_is_row hr rfl (pa_cons (pv 2) (pa_cons pe_int (pa_cons pe_int pa_nil)))))) (pss_one ps_never) pss_nil)
      (pss_cons (ps_set (i := 5) sc_Chart_init.nd rfl (Or.inl rfl) (pe_op op_sub (pe_callB (kLen K) rfl T.z_len bt_len (pa_cons (pv 1) pa_nil)) pe_int))
      (pss_cons (ps_for PassesOwn.never rfl (kEnum K rfl T.z_enumerate (pa_cons (pv 2) pa_nil)) (kGTup K (n := 2) (pgs_cons (pg_name (i := 3) sc_Chart_init.nd rfl (Or.inl rfl)) (pgs_cons (pg_name (i := 6) sc_Chart_init.nd rfl (Or.inl rfl)) pgs_nil))) (pss_one (ps_if (PW.pt (pw_or (pt_not (pt_val (pe_fn G_is_row hr rfl (pa_cons (pv 6) (pa_cons pe_int (pa_cons pe_int pa_nil)))))) (pw_or (pt_not (pt_val (pe_fn G_is_whole hr rfl (pa_cons (pe_ix (kIx K) (pv 6) pe_int (fun _ _ => rfl)) (pa_cons pe_int (pa_cons (pv 5) pa_nil)))))) (pw_or1 (pt_not (pt_val (pe_fn G_is_whole hr rfl (pa_cons (pe_ix (kIx K) (pv 6) pe_int (fun _ _ => rfl)) (pa_cons pe_int (pa_cons (pv 5) pa_nil)))))))))) (pss_one ps_never) pss_nil)))
      (pss_cons (ps_for PassesOwn.never rfl (kEnum K rfl T.z_enumerate (pa_cons (pe_fn G_reached_places hr rfl (pa_cons (pe_callB (kLen K) rfl T.z_len bt_len (pa_cons (pv 1) pa_nil)) (pa_cons (pv 2) pa_nil))) pa_nil)) (kGTup K (n := 2) (pgs_cons (pg_name (i := 7) sc_Chart_init.nd rfl (Or.inl rfl)) (pgs_cons (pg_name (i := 8) sc_Chart_init.nd rfl (Or.inl rfl)) pgs_nil))) (pss_one (ps_if (pt_not (pt_val (pv 8))) (pss_one ps_never) pss_nil)))
      (pss_cons (kSetF K (pv 0) (pe_callTy (kTup K) rfl T.z_tuple bt_tuple (pa_cons (pv 1) pa_nil)))
      (pss_one (kSetF K (pv 0) (pe_callTy (kTup K) rfl T.z_tuple bt_tuple (pa_cons (pe_lc (own := [("arrow", 6)]) rfl sc_Chart_init.nd (kSeq K (pv 2)) (blkOk_by (own := [("arrow", 6)]) (N := ["self", "costs", "arrows", "index", "cost", "last", "arrow", "place", "reached"]) (sc := defScope s_Chart_init) (by decide +kernel)) (fun _ _ _ _ _ => (pg_name (i := 6) sc_Chart_init.nd rfl (by first | exact Or.inl rfl | exact Or.inr rfl))) (fun _ _ _ _ _ => pts_nil) (fun _ _ _ _ _ => (pe_callTy (kTup K) rfl T.z_tuple bt_tuple (pa_cons (pv 6) pa_nil)))) pa_nil))))))))))), ?_⟩
    show (_ : TS) { nx := fun _ H' => Q .non H', rt := Q } ([some (.ref a), some (.ref ca), some (.ref aa), none, none, none, none, none, none] : L2.St) H
    have hxl : xs.length = ar.length := by rw [hdx.len, List.length_map]
    walk_at "go"
    refine ⟨ca, costs.map V.int, 1, 16, rfl, hca, fun H1 e1 => ?_⟩
    walk_at "go"
    rw [List.length_map]
    refine c_ndt (by omega) ?_
    walk_at "go"
    dsimp only
    refine c_seq (f_enum ?_)
    walk_at "go"
    refine ovEA hca e1 fun J wJ => ?_
    refine fo wJ (fun i σ' H' => ∃ (o3 o4 o5 o6 o7 o8 : Option V), σ' = [some (.ref a), some (.ref ca), some (.ref aa), o3, o4, o5, o6, o7, o8] ∧ Same H H') ⟨_, _, _, _, _, _, rfl, e1⟩ (fun i σ' H' _ ⟨_, _, _, _, _, _, _, e⟩ => e) ?_ ?_
    · rintro i x σ' H2 H2' hi ⟨o3, o4, o5, o6, o7, o8, rfl, e2⟩ ⟨T1, x1, y1, rfl, hT, rfl, hx1, hy1⟩
      cases hx1
      replace hy1 : (costs.map V.int)[i]? = some y1 := hy1
      obtain ⟨cv, hcv⟩ := getElem_some (l := costs) (k := i) (by rw [List.length_map] at hi; exact hi)
      rw [List.getElem?_map, hcv] at hy1
      cases hy1
      have hc2 := hco cv (List.mem_of_getElem? hcv)
      have e3 : Same H2 (upd H2 T1 (.tup [vN i, .int cv])) := Same.new hT
      walk_at "go"
      refine c_I (m := 10) (n := 9) ⟨by omega, by omega, by decide⟩ ?_
      walk_at "go"
      refine ⟨_, _, _, rfl, ?_⟩
      walk_at "go"
      refine c_ndt (by show 0 ≤ cv ∧ cv ≤ 10 ^ 9; omega) ?_
      walk_at "go"
      exact ⟨_, _, _, _, _, _, rfl, e2.trans e3⟩
    · rintro σ' H2 ⟨o3, o4, o5, o6, o7, o8, rfl, e2⟩
      dsimp only
      walk_at "go"
      refine ⟨aa, xs, 0, 32, rfl, haa.mono e2, fun H3 e3 => ?_⟩
      have e03 := e2.trans e3
      walk_at "go"
      refine c_ndt (by omega) ?_
      walk_at "go"
      refine c_len (hca.mono e03) ?_
      walk_at "go"
      rw [List.length_map]
      refine c_seq (f_enum ?_)
      walk_at "go"
      refine ovEA haa e03 fun J wJ => ?_
      refine fo wJ (fun i σ' H' => ∃ (o3 o4 o6 o7 o8 : Option V), σ' = [some (.ref a), some (.ref ca), some (.ref aa), o3, o4, some (.int ((costs.length : Nat) - 1)), o6, o7, o8] ∧ Same H H') ⟨_, _, _, _, _, rfl, e03⟩ (fun i σ' H' _ ⟨_, _, _, _, _, _, e⟩ => e) ?_ ?_
      · rintro i x σ' H4 H4' hi ⟨o3, o4, o6, o7, o8, rfl, e4⟩ ⟨T1, x1, y1, rfl, hT, rfl, hx1, hy1⟩
        cases hx1
        replace hy1 : xs[i]? = some y1 := hy1
        have e5 : Same H4 (upd H4 T1 (.tup [vN i, y1])) := Same.new hT
        obtain ⟨pr, a1, hpr, rfl, g3, g4⟩ := arrow_parts (hdx.mono (e4.trans e5)) hy1
        have hpr2 := har pr (List.mem_of_getElem? hpr)
        walk_at "go"
        generalize upd H4 T1 (.tup [vN i, .ref a1]) = H5 at *
        refine ⟨a1, _, 2, 2, rfl, g3, fun H6 e6 => ?_⟩
        have g5 := g3.mono e6
        have g7 : atI ([vN pr.1, vN pr.2] : List V) 0 = some (vN pr.1) := atI_nat (j := 0) rfl
        have g8 : atI ([vN pr.1, vN pr.2] : List V) 1 = some (vN pr.2) := atI_nat (j := 1) rfl
        walk_at "go"
        refine c_ndt (by simp) ?_
        walk_at "go"
        refine ⟨_, _, _, rfl, ?_⟩
        walk_at "go"
        refine c_ndt (by omega) ?_
        walk_at "go"
        refine ⟨_, _, _, rfl, ?_⟩
        walk_at "go"
        refine c_ndt (by omega) ?_
        walk_at "go"
        exact ⟨_, _, _, _, _, rfl, (e4.trans e5).trans e6⟩
      · rintro σ' H4 ⟨o3, o4, o6, o7, o8, rfl, e4⟩
        dsimp only
        refine c_seq (f_enum ?_)
        walk_at "go"
        refine c_len (hca.mono e4) ?_
        rw [List.length_map]
        walk_at "go"
        refine ⟨costs.length, aa, xs, ar, rfl, haa.mono e4, hdx.mono e4, hn1, by omega, har, hre, fun ra H5 e5 hra => ?_⟩
        walk_at "go"
        have e05 := e4.trans e5
        refine ovEA (H := H5) (.lst hra) (Same.refl _) fun J wJ => ?_
        refine fo wJ (fun i σ' H' => ∃ (o3 o4 o6 o7 o8 : Option V), σ' = [some (.ref a), some (.ref ca), some (.ref aa), o3, o4, some (.int ((costs.length : Nat) - 1)), o6, o7, o8] ∧ Same H5 H') ⟨_, _, _, _, _, rfl, Same.refl _⟩ (fun i σ' H' _ ⟨_, _, _, _, _, _, e⟩ => e) ?_ ?_
        · rintro i x σ' H6 H6' hi ⟨o3, o4, o6, o7, o8, rfl, e6⟩ ⟨T1, x1, y1, rfl, hT, rfl, hx1, hy1⟩
          cases hx1
          replace hy1 : ((List.replicate costs.length true).map V.bl)[i]? = some y1 := hy1
          rw [List.getElem?_map, List.getElem?_replicate, if_pos (by simpa using hi)] at hy1
          cases hy1
          walk_at "go"
          exact ⟨_, _, _, _, _, rfl, e6.trans (Same.new hT)⟩
        · rintro σ' H6 ⟨o3, o4, o6, o7, o8, rfl, e6⟩
          dsimp only
          have e06 := e05.trans e6
          walk_at "go"
          -- self.costs = tuple(costs)
          have endC : ∀ (tc : Addr) (H7 : Hp), Same H6 H7 → SqT K H7 tc (costs.map V.int) → ∀ (x3 x4 x5 x6 x7 x8 : Option V), SetF K (.ref a) "costs" (.ref tc) H7 fun H8 => sFld K (tVar 0) (tCB (rTup K) (tCons (tLc (iSeq K (tVar 2)) (gName 6) tYes (tCB (rTup K) (tCons (tVar 6) tNil)) [6]) tNil)) "arrows" { nx := fun _ H' => Q .non H', rt := Q } [some (.ref a), some (.ref ca), some (.ref aa), x3, x4, x5, x6, x7, x8] H8 := by
            intro tc H7 e7 htc x3 x4 x5 x6 x7 x8
            have e07 := e06.trans e7
            refine setF (e07 _ _ ha) T.c_Chart T.n_Chart_costs (by simp) ?_
            have ha8 : (upd H7 a (.ins (He.ga K "Chart") dx (putF "costs" (.ref tc) []))) a = some (.ins (He.ga K "Chart") dx (putF "costs" (.ref tc) [])) := upd_same
            have k8 : ∀ x o, x ≠ a → H x = some o → (upd H7 a (.ins (He.ga K "Chart") dx (putF "costs" (.ref tc) []))) x = some o := fun x o hx hxo => by rw [upd_ne hx]; exact e07 _ _ hxo
            have m7 : Sml H7 (upd H7 a (.ins (He.ga K "Chart") dx (putF "costs" (.ref tc) []))) := Sml.ins (e07 _ _ ha)
            have t8 := m7.tup htc
            have a8 := m7.sqA (haa.mono e07)
            have d8 := DpAll.sml m7 (hdx.mono e07)
            generalize upd H7 a (.ins (He.ga K "Chart") dx (putF "costs" (.ref tc) [])) = H8 at *
            walk_at "go"
            refine l_seq ?_
            walk_at "go"
            refine ovA a8 (Same.refl _) fun J wJ => ?_
            refine lp wJ (fun Hx e => e) (fun k acc => acc = xs.take k) rfl ?_ ?_
            · rintro D i x acc H9 H9' nD hi hla hD e9 hR ⟨rfl, hx⟩
              obtain ⟨pr, a1, hpr, rfl, g3, g4⟩ := arrow_parts (d8.mono e9) hx
              walk_at "go"
              refine ⟨rfl, ?_⟩
              walk_at "go"
              refine ⟨a1, _, rfl, .inr ⟨g4, ?_⟩⟩
              refine Lp.add nD hD e9 (Same.refl _) hla ?_ (by omega)
              rw [hR, List.take_add_one, hx]
              rfl
            · intro D acc H9 nD e9 hD hla hR
              rw [List.take_length] at hR
              subst hR
              walk_at "go"
              refine ⟨D, acc, rfl, .inl ⟨.of hD, fun l nl => ?_⟩⟩
              have e10 : Same H9 (upd H9 l (.tup acc)) := Same.new nl
              have l10 : SqT K (upd H9 l (.tup acc)) l acc := .of upd_same
              generalize upd H9 l (.tup acc) = H10 at *
              have e810 := e9.trans e10
              walk_at "go"
              refine setF (e810 _ _ ha8) T.c_Chart T.n_Chart_arrows (by simp [putF]) ?_
              have m10 : Sml H10 (upd H10 a (.ins (He.ga K "Chart") dx (putF "arrows" (.ref l) (putF "costs" (.ref tc) [])))) := Sml.ins (e810 _ _ ha8)
              refine q _ (fun x o hx hxo => by rw [upd_ne hx]; exact e810 _ _ (k8 x o hx hxo)) ⟨dx, _, tc, l, acc, upd_same, ?_, ?_, ?_, m10.tup (e810.tup t8), m10.tup l10, DpAll.sml m10 (d8.mono e810)⟩
              · rw [lookup_putF, if_neg ne_ca, lookup_putF, if_pos rfl]
              · rw [lookup_putF, if_pos rfl]
              · rw [lookup_putF, if_neg ne_oa, lookup_putF, if_neg ne_oc]
                rfl
          refine ⟨ca, costs.map V.int, rfl, ?_⟩
          rcases hca with hca | hca
          · refine .inl ⟨e06.seq hca, fun l nl => ?_⟩
            walk_at "go"
            exact endC l _ (Same.new nl) (.of upd_same) _ _ _ _ _ _
          · refine .inr ⟨e06.tup hca, ?_⟩
            walk_at "go"
            exact endC ca _ (Same.refl _) (e06.tup hca) _ _ _ _ _ _
theorem mk_chart {ca aa : Addr} {costs : List Int} {xs : List V} {ar : List (Nat × Nat)} {H : Hp} {Q : VK} (hca : SqA K H ca (costs.map V.int)) (haa : SqA K H aa xs) (hdx : DpAll K H xs (ar.map arD)) (hn1 : 1 ≤ costs.length) (hn2 : costs.length ≤ 16) (hco : CostsOk costs) (hm : ar.length ≤ 32)
    (har : ∀ p ∈ ar, p.1 < costs.length ∧ p.2 < costs.length) (hre : ∀ v, v < costs.length → ∃ r, Wk ar 0 0 r v) (q : ∀ a H', Same H H' → H a = none → ChartAt K H' a costs ar → Q (.ref a) H') : MkO (He.ga K "Chart") (spChartI K) [.ref ca, .ref aa] H Q := by
  intro a dx na ndx hne
  have e1 : Same H (upd H dx (.own a)) := Same.new ndx
  have e2 : Same H (upd (upd H dx (.own a)) a (.ins (He.ga K "Chart") dx [])) := Same.mut e1 na
  refine ⟨a, dx, ca, aa, costs, xs, ar, rfl, upd_same, hca.mono e2, haa.mono e2, hdx.mono e2, hn1, hn2, hco, hm, har, hre, fun H' k hc => ⟨rfl, ?_⟩⟩
  exact q a H' (fun x o e => k x o (ne_of_none e na) (e2 _ _ e)) na hc
/-! ### Meter -/
theorem ne_cf : ¬ ("chart" : Str) = "first" := by decide +kernel
theorem ne_cc : ¬ ("chart" : Str) = "charges" := by decide +kernel
theorem ne_fc : ¬ ("first" : Str) = "charges" := by decide +kernel
theorem ne_m1 : ¬ ("charged" : Str) = "chart" ∧ ¬ ("charged" : Str) = "first" ∧ ¬ ("charged" : Str) = "charges" := by decide +kernel
theorem ne_m2 : ¬ ("lead_behind" : Str) = "chart" ∧ ¬ ("lead_behind" : Str) = "first" ∧ ¬ ("lead_behind" : Str) = "charges" := by decide +kernel
theorem ne_m3 : ¬ ("with_first" : Str) = "chart" ∧ ¬ ("with_first" : Str) = "first" ∧ ¬ ("with_first" : Str) = "charges" := by decide +kernel
def mfs (c tch : Addr) (first : Int) : List (Str × V) := putF "charges" (.ref tch) (putF "first" (.int first) (putF "chart" (.ref c) []))
theorem mfs_at (c tch : Addr) (first : Int) (x : Str) : (mfs c tch first).lookup x = if x = "charges" then some (.ref tch) else if x = "first" then some (.int first) else if x = "chart" then some (.ref c) else none := by
  unfold mfs
  rw [lookup_putF, lookup_putF, lookup_putF]
  rfl
theorem meter_at (T : Tx K mg) {H : Hp} {me dx c tch : Addr} {M : MD} (hme : H me = some (.ins (He.ga K "Meter") dx (mfs c tch M.first))) (hc : ChartAt K H c M.costs M.ar) (ht : SqT K H tch (M.ch.map V.int)) : MeterAt K H me M := by
  obtain ⟨dxc, fs, tc, ta, xs, h1, h2, h3, h4, h5, h6, h7⟩ := id hc
  refine ⟨c, tc, ta, tch, xs, {
    chart := ⟨_, _, _, hme, T.c_Meter, T.n_Meter_chart, by rw [mfs_at, if_neg ne_cc, if_neg ne_cf, if_pos rfl]⟩
    first := ⟨_, _, _, hme, T.c_Meter, T.n_Meter_first, by rw [mfs_at, if_neg ne_fc, if_pos rfl]⟩
    charges := ⟨_, _, _, hme, T.c_Meter, T.n_Meter_charges, by rw [mfs_at, if_pos rfl]⟩
    costs := ⟨_, _, _, h1, T.c_Chart, T.n_Chart_costs, h2⟩
    arrows := ⟨_, _, _, h1, T.c_Chart, T.n_Chart_arrows, h3⟩
    tcosts := .inr h5
    tar := .inr h6
    tchs := .inr ht
    star := h6
    scosts := h5
    schs := ht
    dar := h7
    cls := ⟨dxc, fs, h1, h4⟩
    mls := ⟨dx, _, hme, by rw [mfs_at, if_neg ne_m1.2.2, if_neg ne_m1.2.1, if_neg ne_m1.1], by rw [mfs_at, if_neg ne_m2.2.2, if_neg ne_m2.2.1, if_neg ne_m2.1], by rw [mfs_at, if_neg ne_m3.2.2, if_neg ne_m3.2.1, if_neg ne_m3.1]⟩
    chat := hc }⟩
def ChOk (ch : List Int) : Prop := ∀ c ∈ ch, 0 ≤ c ∧ c ≤ 1000000000000
theorem ChartAt.sml {H H' : Hp} {c : Addr} {costs : List Int} {ar : List (Nat × Nat)} (e : Sml H H') (k : ∀ o, H c = some o → H' c = some o) (h : ChartAt K H c costs ar) : ChartAt K H' c costs ar := by
  obtain ⟨dx, fs, tc, ta, xs, h1, h2, h3, h4, h5, h6, h7⟩ := h
  exact ⟨dx, fs, tc, ta, xs, k _ h1, h2, h3, h4, e.tup h5, e.tup h6, DpAll.sml e h7⟩
def spMeterI (K : PySem.W.Frag) : Sp := fun vs H Q _ => ∃ (a dx c ca : Addr) (M : MD), vs = [.ref a, .ref c, .int M.first, .ref ca] ∧ H a = some (.ins (He.ga K "Meter") dx []) ∧ ChartAt K H c M.costs M.ar ∧ c ≠ a ∧ SqA K H ca (M.ch.map V.int) ∧
  M.Ok ∧ (0 ≤ M.first ∧ M.first ≤ 1000000000000) ∧ ChOk M.ch ∧
  ∀ H', (∀ x o, x ≠ a → H x = some o → H' x = some o) → MeterAt K H' a M → Q .non H'
theorem sc_Meter_init : FnScope ["self", "chart", "first", "charges", "arrow", "charge"] ["self", "chart", "first", "charges"] (defScope s_Meter_init) := ⟨rfl, rfl, rfl, by decide +kernel, rfl, by decide +kernel, by decide +kernel⟩
theorem ok_Meter_init (T : Tx K mg) (G_is_whole : Fn P w K mg base 1 "is_whole" ["thing", "low", "high"] spWhole) (G_is_row : Fn P w K mg base 1 "is_row" ["thing", "least", "most"] (spRow K)) : Mt P w K mg base 2 "Meter" "__init__" ["self", "chart", "first", "charges"] (spMeterI K) := by
  obtain ⟨tM, hMost⟩ := T.most
  refine mt_mk (st := s_Meter_init) T.f_Meter_init sc_Meter_init (fun _ _ _ _ _ _ us hl => match us, hl with | [_, _, _, _], _ => rfl) ?len (fun cdv A outer s H vs Q E hr h => ?body)
  case len => exact fun vs H Q E ⟨a, dx, c, ca, M, e, _⟩ => by rw [e]; rfl
  case body =>
    obtain ⟨a, dx, c, ca, M, rfl, ha, hc, nca, hca, ok, hf, hch, q⟩ := h
    refine ⟨_, (pss_cons (ps_if (pt_not (pt_val (pe_fn G_is_whole hr rfl (pa_cons (pv 2) (pa_cons pe_int (pa_cons (pe_glob (v := .int 1000000000000) rfl hMost ⟨_, rfl⟩) pa_nil)))))) (pss_one ps_never) pss_nil)
      (pss_cons (ps_if (pt_not (pt_val (pe_fn G_is_row hr rfl (pa_cons (pv 3) (pa_cons (pe_callB (kLen K) rfl T.z_len bt_len (pa_cons (kFld K (pv 1)) pa_nil)) (pa_cons (pe_callB (kLen K) rfl T.z_len bt_len (pa_cons (kFld K (pv 1)) pa_nil)) pa_nil)))))) (pss_one ps_never) pss_nil)
      (pss_cons (ps_for PassesOwn.never rfl (kEnum K rfl T.z_enumerate (pa_cons (pv 3) pa_nil)) (kGTup K (n := 2) (pgs_cons (pg_name (i := 4) sc_Meter_init.nd rfl (Or.inl rfl)) (pgs_cons (pg_name (i := 5) sc_Meter_init.nd rfl (Or.inl rfl)) pgs_nil))) (pss_one (ps_if (pt_not (pt_val (pe_fn G_is_whole hr rfl (pa_cons (pv 5) (pa_cons pe_int (pa_cons (pe_glob (v := .int 1000000000000) rfl hMost ⟨_, rfl⟩) pa_nil)))))) (pss_one ps_never) pss_nil)))
      (pss_cons (kSetF K (pv 0) (pv 1))
      (pss_cons (kSetF K (pv 0) (pv 2))
      (pss_one (kSetF K (pv 0) (pe_callTy (kTup K) rfl T.z_tuple bt_tuple (pa_cons (pv 3) pa_nil))))))))), ?_⟩
    show (_ : TS) { nx := fun _ H' => Q .non H', rt := Q } ([some (.ref a), some (.ref c), some (.int M.first), some (.ref ca), none, none] : L2.St) H
    have hm := ok.m1
    have arr : ∀ {H' : Hp}, ChartAt K H' c M.costs M.ar → ∃ ta xs, FldAt K H' c "arrows" (.ref ta) ∧ SqA K H' ta xs ∧ xs.length = M.ar.length := fun h => by
      obtain ⟨dx, fs, tc, ta, xs, h1, h2, h3, h4, h5, h6, h7⟩ := h
      exact ⟨ta, xs, ⟨_, _, _, h1, T.c_Chart, T.n_Chart_arrows, h3⟩, .inr h6, by rw [h7.len, List.length_map]⟩
    obtain ⟨ta, xs, f1, f2, hxl⟩ := arr hc
    walk_at "go"
    refine ⟨_, _, _, rfl, ?_⟩
    walk_at "go"
    refine c_ndt hf ?_
    walk_at "go"
    refine c_len f2 ?_
    walk_at "go"
    refine c_len f2 ?_
    walk_at "go"
    refine ⟨ca, M.ch.map V.int, _, _, rfl, hca, fun H1 e1 => ?_⟩
    walk_at "go"
    rw [List.length_map]
    refine c_ndt (by have := ok.ch; omega) ?_
    walk_at "go"
    dsimp only
    refine c_seq (f_enum ?_)
    walk_at "go"
    refine ovEA hca e1 fun J wJ => ?_
    refine fo wJ (fun i σ' H' => ∃ (o4 o5 : Option V), σ' = [some (.ref a), some (.ref c), some (.int M.first), some (.ref ca), o4, o5] ∧ Same H H') ⟨_, _, rfl, e1⟩ (fun i σ' H' _ ⟨_, _, _, e⟩ => e) ?_ ?_
    · rintro i x σ' H2 H2' hi ⟨o4, o5, rfl, e2⟩ ⟨T1, x1, y1, rfl, hT, rfl, hx1, hy1⟩
      cases hx1
      replace hy1 : (M.ch.map V.int)[i]? = some y1 := hy1
      obtain ⟨cv, hcv⟩ := getElem_some (l := M.ch) (k := i) (by rw [List.length_map] at hi; exact hi)
      rw [List.getElem?_map, hcv] at hy1
      cases hy1
      have hc2 := hch cv (List.mem_of_getElem? hcv)
      have e3 : Same H2 (upd H2 T1 (.tup [vN i, .int cv])) := Same.new hT
      walk_at "go"
      refine ⟨_, _, _, rfl, ?_⟩
      walk_at "go"
      refine c_ndt hc2 ?_
      walk_at "go"
      exact ⟨_, _, rfl, e2.trans e3⟩
    · rintro σ' H2 ⟨o4, o5, rfl, e2⟩
      dsimp only
      walk_at "go"
      refine setF (e2 _ _ ha) T.c_Meter T.n_Meter_chart (by simp) ?_
      walk_at "go"
      refine setF upd_same T.c_Meter T.n_Meter_first (by simp [putF]) ?_
      have m3 : Sml H2 (upd (upd H2 a (.ins (He.ga K "Meter") dx (putF "chart" (.ref c) []))) a (.ins (He.ga K "Meter") dx (putF "first" (.int M.first) (putF "chart" (.ref c) [])))) := (Sml.ins (e2 _ _ ha)).trans (Sml.ins upd_same)
      have k3 : ∀ x o, x ≠ a → H2 x = some o → (upd (upd H2 a (.ins (He.ga K "Meter") dx (putF "chart" (.ref c) []))) a (.ins (He.ga K "Meter") dx (putF "first" (.int M.first) (putF "chart" (.ref c) [])))) x = some o := fun x o hx hxo => by rw [upd_ne hx, upd_ne hx]; exact hxo
      have a3 : (upd (upd H2 a (.ins (He.ga K "Meter") dx (putF "chart" (.ref c) []))) a (.ins (He.ga K "Meter") dx (putF "first" (.int M.first) (putF "chart" (.ref c) [])))) a = some (.ins (He.ga K "Meter") dx (putF "first" (.int M.first) (putF "chart" (.ref c) []))) := upd_same
      generalize upd (upd H2 a (.ins (He.ga K "Meter") dx (putF "chart" (.ref c) []))) a (.ins (He.ga K "Meter") dx (putF "first" (.int M.first) (putF "chart" (.ref c) []))) = H3 at *
      have endM : ∀ (t : Addr) (H4 : Hp), Same H3 H4 → SqT K H4 t (M.ch.map V.int) → SetF K (.ref a) "charges" (.ref t) H4 fun H5 => Q .non H5 := fun t H4 e4 ht => by
        refine setF (e4 _ _ a3) T.c_Meter T.n_Meter_charges (by simp [putF, ne_cf]) ?_
        have m4 : Sml H4 (upd H4 a (.ins (He.ga K "Meter") dx (mfs c t M.first))) := Sml.ins (e4 _ _ a3)
        refine q _ (fun x o hx hxo => by rw [upd_ne hx]; exact e4 _ _ (k3 x o hx (e2 _ _ hxo))) (meter_at T upd_same ?_ (m4.tup ht))
        exact ChartAt.sml (m3.trans ((Same.sml e4).trans m4)) (fun o ho => (upd_ne nca).trans (e4 _ _ (k3 c o nca ho))) (hc.mono e2)
      walk_at "go"
      refine ⟨ca, M.ch.map V.int, rfl, ?_⟩
      rcases hca with hca | hca
      · refine .inl ⟨m3.seq (e2.seq hca), fun l nl => ?_⟩
        walk_at "go"
        exact endM l _ (Same.new nl) (.of upd_same)
      · refine .inr ⟨m3.tup (e2.tup hca), ?_⟩
        walk_at "go"
        exact endM ca _ (Same.refl _) (m3.tup (e2.tup hca))
theorem ChartAt.ne {H : Hp} {c a : Addr} {costs : List Int} {ar : List (Nat × Nat)} (h : ChartAt K H c costs ar) (na : H a = none) : c ≠ a := by
  obtain ⟨dx, fs, tc, ta, xs, h1, _⟩ := h
  exact ne_of_none h1 na
theorem mk_meter {c ca : Addr} {M : MD} {H : Hp} {Q : VK} (hc : ChartAt K H c M.costs M.ar) (hca : SqA K H ca (M.ch.map V.int)) (ok : M.Ok) (hf : 0 ≤ M.first ∧ M.first ≤ 1000000000000) (hch : ChOk M.ch)
    (q : ∀ a H', Same H H' → H a = none → MeterAt K H' a M → Q (.ref a) H') : MkO (He.ga K "Meter") (spMeterI K) [.ref c, .int M.first, .ref ca] H Q := by
  intro a dx na ndx hne
  have e1 : Same H (upd H dx (.own a)) := Same.new ndx
  have e2 : Same H (upd (upd H dx (.own a)) a (.ins (He.ga K "Meter") dx [])) := Same.mut e1 na
  refine ⟨a, dx, c, ca, M, rfl, upd_same, hc.mono e2, hc.ne na, hca.mono e2, ok, hf, hch, fun H' k hm => ⟨rfl, ?_⟩⟩
  exact q a H' (fun x o e => k x o (ne_of_none e na) (e2 _ _ e)) na hm
def MD.withF (M : MD) (f : Int) : MD := { M with first := f }
def spWith (K : PySem.W.Frag) : Sp := fun vs H Q _ => ∃ (me : Addr) (M : MD) (f : Int), vs = [.ref me, .int f] ∧ MeterAt K H me M ∧ M.Ok ∧ (0 ≤ f ∧ f ≤ 1000000000000) ∧ ChOk M.ch ∧
  ∀ a H', Same H H' → MeterAt K H' a (M.withF f) → Q (.ref a) H'
theorem sc_Meter_with_first : FnScope ["self", "first"] ["self", "first"] (defScope s_Meter_with_first) := ⟨rfl, rfl, rfl, by decide +kernel, rfl, by decide +kernel, by decide +kernel⟩
theorem ok_Meter_with_first (T : Tx K mg) (G_Meter : Mt P w K mg base 2 "Meter" "__init__" ["self", "chart", "first", "charges"] (spMeterI K)) : Mt P w K mg base 4 "Meter" "with_first" ["self", "first"] (spWith K) := by
  refine mt_mk (st := s_Meter_with_first) T.f_Meter_with_first sc_Meter_with_first (fun _ _ _ _ _ _ us hl => match us, hl with | [_, _], _ => rfl) ?len (fun cdv A outer s H vs Q E hr h => ?body)
  case len => exact fun vs H Q E ⟨me, M, f, e, _⟩ => by rw [e]; rfl
  case body =>
    obtain ⟨me, M, f, rfl, ⟨c, tc, ta, tch, xs, mo⟩, ok, hf, hch, q⟩ := h
    refine ⟨_, (pss_one (ps_ret (kMk K T.k_Meter G_Meter hr rfl T.g_Meter (pa_cons (kFld K (pv 0)) (pa_cons (pv 1) (pa_cons (kFld K (pv 0)) pa_nil)))))), ?_⟩
    show (_ : TS) { nx := fun _ H' => Q .non H', rt := Q } ([some (.ref me), some (.int f)] : L2.St) H
    obtain ⟨f1, f2, f3, f4, f5, f6, f7, f8, f9, fA, fB, f10, fC, _⟩ := id mo
    walk_at "go"
    exact mk_meter (M := M.withF f) mo.chat (.inr fB) ⟨ok.n1, ok.n2, ok.m1, ok.ch, ok.arr⟩ hf hch fun a H' e _ hm => q a H' e hm
end
end
end Pa
end
section
set_option Elab.async false
set_option linter.all false
set_option maxRecDepth 100000
set_option maxHeartbeats 4000000
namespace Pa
open PySem PySem.Spec PyProof.Rows L2
local macro_rules | `(tactic| walk_at "st") => `(tactic| first
  | ((with_reducible refine' c_var ?h0 ?_); (case h0 => rfl))
  | with_reducible refine c_c ?_
  | with_reducible refine c_op ?_
  | with_reducible refine c_un ?_
  | with_reducible refine c_I0 ?_
  | with_reducible refine c_U ?_
  | with_reducible refine c_eqI ?_
  | with_reducible refine c_neI ?_
  | with_reducible refine c_isN ?_
  | with_reducible refine c_notN ?_
  | ((with_reducible refine' c_ix2 ?h0 ?h1 ?_); (case h0 => assumption); (case h1 => assumption))
  | with_reducible refine c_fld ?_
  | ((with_reducible refine' c_fldv ?h0 ?_); (case h0 => assumption))
  | with_reducible refine c_bl ?_
  | with_reducible refine c_test ?_
  | with_reducible refine c_tB ?_
  | with_reducible refine c_and ?_
  | with_reducible refine c_or ?_
  | with_reducible refine c_not ?_
  | with_reducible refine c_notV ?_
  | with_reducible refine c_andV ?_
  | with_reducible refine c_orV ?_
  | with_reducible refine c_chain ?_
  | with_reducible refine c_if ?_
  | with_reducible refine c_nil ?_
  | with_reducible refine c_cons ?_
  | with_reducible refine c_fn ?_
  | with_reducible refine c_cb ?_
  | with_reducible refine c_tup ?_
  | with_reducible refine c_lst ?_
  | with_reducible refine c_asgL ?_
  | with_reducible refine c_asg ?_
  | with_reducible refine c_dropL ?_
  | with_reducible refine c_drop ?_
  | with_reducible refine c_asgG ?_
  | with_reducible refine c_asgGs ?_
  | with_reducible refine c_ret ?_
  | with_reducible refine c_ifL ?_
  | with_reducible refine c_ifS ?_
  | with_reducible refine c_nextL ?_
  | with_reducible refine c_yes ?_
  | with_reducible refine c_setF ?_
  | with_reducible refine c_setFs ?_
  | with_reducible refine c_mk ?_
  | with_reducible refine c_tru ?_
  | with_reducible refine c_mt ?_
  | ((with_reducible refine' c_mtO ?h0 ?_); (case h0 => assumption))
  | ((with_reducible refine' c_aug ?h0 ?_); (case h0 => rfl))
  | ((with_reducible refine' c_augL ?h0 ?_); (case h0 => rfl))
  | with_reducible refine c_ip ?_
  | with_reducible refine c_bm ?_
  | with_reducible refine c_bm0 ?_
  | ((with_reducible refine' c_ty ?h0 ?_); (case h0 => assumption))
  | with_reducible refine g_sub ?_
  | with_reducible refine g_name ?_
  | with_reducible refine g_nil ?_
  | with_reducible refine g_cons ?_
  | ((with_reducible refine' g_tup ?h0 ?h1 ?_); (case h0 => first | assumption | exact SqT.of upd_same); (case h1 => rfl))
  | with_reducible refine c_tt ?_
  | with_reducible refine c_ff ?_
  | with_reducible refine c_nt ?_
  | with_reducible refine c_nf ?_
  | with_reducible refine c_brk ?_
  | with_reducible refine c_int ?_
  | with_reducible refine c_max2 ?_
  | with_reducible refine c_min2 ?_
  | with_reducible refine c_abs ?_
  | ((with_reducible refine' c_I ?h0 ?_); (case h0 => first | exact .inr ⟨by decide, by decide⟩ | exact ⟨by decide, by decide⟩ | exact ⟨by decide, by decide, by decide⟩ | exact (by decide))))
local macro_rules | `(tactic| walk_at "go") => `(tactic| repeat (walk_at "st"))
section
/-! The hand: mix, draw, take, cost. -/
section
variable {P : Program} {w : World} {K : PySem.W.Frag} {mg : Str → Option Value} {base : Heap}
/-- all but h -/
def era (h : Addr) (H : Hp) : Hp := fun x => if x = h then none else H x
theorem era_ne {h x : Addr} {H : Hp} (n : x ≠ h) : era h H x = H x := if_neg n
theorem era_same {h : Addr} {H : Hp} : era h H h = none := if_pos rfl
theorem era_sub {h : Addr} {H : Hp} : Same (era h H) H := fun x o e => by
  by_cases z : x = h
  · rw [z, era_same] at e
    cases e
  · rw [era_ne z] at e
    exact e
/-- all but what stands at h is kept -/
abbrev Ek (h : Addr) (H H' : Hp) : Prop := Same (era h H) H'
theorem Ek.mk {h : Addr} {H H' : Hp} (k : ∀ x o, x ≠ h → H x = some o → H' x = some o) : Ek h H H' := fun x o e => by
  by_cases z : x = h
  · rw [z, era_same] at e
    cases e
  · rw [era_ne z] at e
    exact k x o z e
theorem Ek.at {h : Addr} {H H' : Hp} (k : Ek h H H') {x : Addr} {o : HO} (n : x ≠ h) (e : H x = some o) : H' x = some o := k x o (by rw [era_ne n]; exact e)
theorem Ek.refl {h : Addr} {H : Hp} : Ek h H H := era_sub
theorem Ek.of {h : Addr} {H H' : Hp} (e : Same H H') : Ek h H H' := fun x o q => e x o (era_sub x o q)
theorem Ek.trans {h : Addr} {H H' H'' : Hp} (e : Ek h H H') (k : Ek h H' H'') : Ek h H H'' := Ek.mk fun x o n q => k.at n (e.at n q)
theorem Ek.and {h : Addr} {H H' H'' : Hp} (e : Ek h H H') (k : Same H' H'') : Ek h H H'' := fun x o q => k x o (e x o q)
theorem Ek.mut {h D : Addr} {H H' : Hp} {o : HO} (e : Ek h H H') (n : H D = none) : Ek h H (upd H' D o) := Same.mut e (by
  by_cases z : D = h
  · rw [z]; exact era_same
  · rw [era_ne z]; exact n)
theorem Ek.free {h x : Addr} {H H' : Hp} (e : Ek h H H') (n : x ≠ h) (k : H' x = none) : H x = none := by
  cases hx : H x with
  | none => rfl
  | some o =>
    rw [e.at n hx] at k
    cases k
theorem Ek.here {h : Addr} {H : Hp} {o : HO} : Ek h H (upd H h o) := Ek.mk fun x u n e => by rw [upd_ne n]; exact e
theorem Ek.here' {h : Addr} {H H' : Hp} {o : HO} (e : Ek h H H') : Ek h H (upd H' h o) := e.trans Ek.here
/-- the tuples are kept -/
def Tk (K : PySem.W.Frag) (H H' : Hp) : Prop := ∀ a xs, SqT K H a xs → SqT K H' a xs
theorem Same.tk {H H' : Hp} (e : Same H H') : Tk K H H' := fun _ _ h => e.tup h
theorem Tk.trans {H H' H'' : Hp} (e : Tk K H H') (k : Tk K H' H'') : Tk K H H'' := fun a xs h => k a xs (e a xs h)
theorem Tk.lst {H : Hp} {l : Addr} {xs : List V} {o : HO} (e : H l = some (.lst xs)) : Tk K H (upd H l o) := fun a ys h => by
  have ne : ∀ {u : HO}, H a = some u → (∀ xs, u ≠ .lst xs) → a ≠ l := fun {u} q k z => by
    rw [z, e] at q
    exact k _ (Option.some.inj q).symm
  rcases h with (h | ⟨ob, h⟩) | h
  · exact .inl (.inl (by rw [upd_ne (ne h (by simp))]; exact h))
  · exact .inl (.inr ⟨ob, by rw [upd_ne (ne h (by simp))]; exact h⟩)
  · exact .inr h
theorem Tk.era {h : Addr} {H : Hp} {xs : List V} (e : H h = some (.lst xs)) : Tk K H (era h H) := fun a ys q => by
  have ne : ∀ {u : HO}, H a = some u → (∀ xs, u ≠ .lst xs) → a ≠ h := fun {u} q k z => by
    rw [z, e] at q
    exact k _ (Option.some.inj q).symm
  rcases q with (q | ⟨ob, q⟩) | q
  · exact .inl (.inl (by rw [era_ne (ne q (by simp))]; exact q))
  · exact .inl (.inr ⟨ob, by rw [era_ne (ne q (by simp))]; exact q⟩)
  · exact .inr q
theorem Tk.ek {h : Addr} {H H' : Hp} {xs : List V} (e : H h = some (.lst xs)) (k : Ek h H H') : Tk K H H' := (Tk.era e).trans (Same.tk k)
theorem Tk.ar {H H' : Hp} (e : Tk K H H') : ∀ {ar : List (Nat × Nat)} {xs : List V}, DpAll K H xs (ar.map arD) → DpAll K H' xs (ar.map arD)
  | [], _, h => by cases h; exact .nil
  | p :: ar, _, h => by
    cases h with
    | cons h1 h2 =>
      obtain ⟨a, ys, rfl, h3, h4⟩ := h1.tupE
      have h5 : ys = [vN p.1, vN p.2] := DpAll.nats (is := [p.1, p.2]) h4
      subst h5
      exact .cons (.tup (e _ _ h3) (DpAll.of_nats [p.1, p.2])) (Tk.ar e h2)
theorem Tk.tNs {H H' : Hp} (e : Tk K H H') : ∀ {rs : List (List Nat)} {xs : List V}, DpAll K H xs (rs.map tN) → DpAll K H' xs (rs.map tN)
  | [], _, h => by cases h; exact .nil
  | p :: ar, _, h => by
    cases h with
    | cons h1 h2 =>
      obtain ⟨a, ys, rfl, h3, h4⟩ := h1.tupE
      have h5 : ys = p.map vN := DpAll.nats h4
      subst h5
      exact .cons (.tup (e _ _ h3) (DpAll.of_nats p)) (Tk.tNs e h2)
/-- the hand: its cells' list is at cl -/
def HandAt (H : Hp) (h cl : Addr) : Prop := cl ≠ h ∧ ∃ (cells : List Int) (i : Nat) (b c : Int), H h = some (.lst [.ref cl, vN i, .int b, .int c]) ∧ H cl = some (.lst (cells.map V.int))
theorem HandAt.upd {H : Hp} {h cl D : Addr} {o : HO} (k : HandAt H h cl) (n1 : D ≠ h) (n2 : D ≠ cl) : HandAt (upd H D o) h cl := by
  obtain ⟨h0, cells, i, b, c, h1, h2⟩ := k
  exact ⟨h0, cells, i, b, c, by rw [upd_ne (Ne.symm n1)]; exact h1, by rw [upd_ne (Ne.symm n2)]; exact h2⟩
theorem HandAt.same {H H' : Hp} {h cl : Addr} (k : HandAt H h cl) (e : Same H H') : HandAt H' h cl := by
  obtain ⟨h0, cells, i, b, c, h1, h2⟩ := k
  exact ⟨h0, cells, i, b, c, e _ _ h1, e _ _ h2⟩
theorem HandAt.is {H : Hp} {h cl : Addr} (k : HandAt H h cl) : ∃ xs, H h = some (.lst xs) := by
  obtain ⟨h0, cells, i, b, c, h1, _⟩ := k
  exact ⟨_, h1⟩
theorem HandAt.ne {H : Hp} {h cl D : Addr} (k : HandAt H h cl) (n : H D = none) : D ≠ h ∧ D ≠ cl := by
  obtain ⟨h0, cells, i, b, c, h1, h2⟩ := k
  exact ⟨fun z => by (rw [z, h1] at n; cases n), fun z => by (rw [z, h2] at n; cases n)⟩
theorem HandAt.tk {H H' : Hp} {h cl : Addr} (k : HandAt H h cl) (e : Ek h H H') : Tk K H H' := by
  obtain ⟨xs, hx⟩ := k.is
  exact Tk.ek hx e
def spMix : Sp := fun vs H Q _ => ∃ a b : Int, vs = [.int a, .int b] ∧ ∀ r : Int, Q (.int r) H
theorem sc_L_mix : FnScope ["_law_number", "_law_turn", "_law_once", "_law_twice"] ["_law_number", "_law_turn"] (defScope s_L_mix) := ⟨rfl, rfl, rfl, by decide +kernel, rfl, by decide +kernel, by decide +kernel⟩
theorem ok_L_mix (T : Tx K mg) : Fn P w K mg base 1 "_law_mix" ["_law_number", "_law_turn"] (spMix) := by
  refine fn_mk (st := s_L_mix) T.f_L_mix T.g__law_mix sc_L_mix (fun _ _ _ _ _ _ us hl => match us, hl with | [_, _], _ => rfl) ?len (fun cdv A outer s H vs Q E hr h => ?body)
  case len => exact fun vs H Q E ⟨a, b, e, _⟩ => by rw [e]; rfl
  case body =>
    obtain ⟨a, b, rfl, q⟩ := h
    refine ⟨_, (pss_cons (ps_set (i := 2) sc_L_mix.nd rfl (Or.inl rfl) (pe_op op_mod (pe_callTy kInt rfl T.z_int bt_int (pa_cons (pe_op op_add (pe_op op_add (pe_op op_mul (pv 0) pe_int) (pe_op op_mul (pv 1) pe_int)) pe_int) pa_nil)) pe_int))
      (pss_cons (ps_set (i := 3) sc_L_mix.nd rfl (Or.inl rfl) (pe_op op_mod (pe_callTy kInt rfl T.z_int bt_int (pa_cons (pe_op op_add (pe_op op_add (pe_op op_mul (pv 2) (pv 2)) (pe_op op_mul (pe_op op_fdiv (pv 2) pe_int) pe_int)) (pe_op op_mul (pv 1) pe_int)) pa_nil)) pe_int))
      (pss_one (ps_ret (pe_op op_fdiv (pe_op op_mod (pe_callTy kInt rfl T.z_int bt_int (pa_cons (pe_op op_add (pe_op op_fdiv (pe_op op_mul (pv 3) (pv 3)) pe_int) (pv 2)) pa_nil)) pe_int) pe_int))))), ?_⟩
    show (_ : TS) { nx := fun _ H' => Q .non H', rt := Q } ([some (.int a), some (.int b), none, none] : L2.St) H
    walk_at "go"
    have o1 := Int.emod_nonneg (a * 48271 + b * 16807 + 29) (b := 2147483647) (by decide)
    have o2 := Int.emod_lt_of_pos (a * 48271 + b * 16807 + 29) (b := 2147483647) (by decide)
    generalize (a * 48271 + b * 16807 + 29) % 2147483647 = once at *
    refine c_I (.inr ⟨by omega, by omega⟩) ?_
    walk_at "go"
    have t1 := Int.emod_nonneg (once * once + once / 131 * 40692 + b * 69621) (b := 2147483399) (by decide)
    have t2 := Int.emod_lt_of_pos (once * once + once / 131 * 40692 + b * 69621) (b := 2147483399) (by decide)
    generalize (once * once + once / 131 * 40692 + b * 69621) % 2147483399 = twice at *
    refine c_I (.inr ⟨by omega, by omega⟩) ?_
    walk_at "go"
    exact q _
theorem ldiv {m : Int} (h : 0 < m) (k : m < 10000000000000) : m.natAbs.log2 < 9000 := (wide_div (i := 0) (b := 44) h (by omega) (by decide) (by decide)).2
def spDraw : Sp := fun vs H Q _ => ∃ (h cl : Addr) (m : Int), vs = [.ref h, .int m] ∧ HandAt H h cl ∧ 0 < m ∧ m < 10000000000000 ∧ ∀ r H', Ek h H H' → HandAt H' h cl → 0 ≤ r → r < m → Q (.int r) H'
theorem sc_L_draw : FnScope ["_law_hand_here", "_law_many", "_law_cell", "_law_rest"] ["_law_hand_here", "_law_many"] (defScope s_L_draw) := ⟨rfl, rfl, rfl, by decide +kernel, rfl, by decide +kernel, by decide +kernel⟩
theorem ok_L_draw (T : Tx K mg) (G_L_mix : Fn P w K mg base 1 "_law_mix" ["_law_number", "_law_turn"] spMix) : Fn P w K mg base 2 "_law_draw" ["_law_hand_here", "_law_many"] (spDraw) := by
  refine fn_mk (st := s_L_draw) T.f_L_draw T.g__law_draw sc_L_draw (fun _ _ _ _ _ _ us hl => match us, hl with | [_, _], _ => rfl) ?len (fun cdv A outer s H vs Q E hr h => ?body)
  case len => exact fun vs H Q E ⟨h, cl, m, e, _⟩ => by rw [e]; rfl
  case body =>
    obtain ⟨h, cl, m, rfl, hh, m0, m1, q⟩ := h
    refine ⟨_, (pss_cons (ps_if (PW.pt (pw_and (pt_cmpR op_eq (pe_ix (kIx K) (pv 0) pe_int (fun _ _ => rfl)) pe_int (nomark _)) (pw_and1 (pt_cmpR op_lt (pe_ix (kIx K) (pv 0) pe_int (fun _ _ => rfl)) (pe_callB (kLen K) rfl T.z_len bt_len (pa_cons (pe_ix (kIx K) (pv 0) pe_int (fun _ _ => rfl)) pa_nil)) (nomark _))))) (pss_cons (ps_set (i := 2) sc_L_draw.nd rfl (Or.inl rfl) (pe_ix (kIx K) (pe_ix (kIx K) (pv 0) pe_int (fun _ _ => rfl)) (pe_ix (kIx K) (pv 0) pe_int (fun _ _ => rfl)) (fun _ _ => rfl)))
      (pss_cons (ps_asg (pe_op op_add (pe_ix (kIx K) (pv 0) pe_int (fun _ _ => rfl)) pe_int) (pg_sub (pv 0) pe_int set_list))
      (pss_cons (ps_if (pt_cmpR op_lt (pv 2) (pe_op op_pow pe_int pe_int) (nomark _)) (pss_one (ps_ret (pe_op op_mod (pe_callTy kInt rfl T.z_int bt_int (pa_cons (pe_fn G_L_mix hr rfl (pa_cons (pe_op op_mod (pe_callTy kInt rfl T.z_int bt_int (pa_cons (pv 2) pa_nil)) pe_int) (pa_cons (pe_ix (kIx K) (pv 0) pe_int (fun _ _ => rfl)) pa_nil))) pa_nil)) (pv 1)))) pss_nil)
      (pss_one (ps_asg (pv 2) (pg_sub (pv 0) pe_int set_list)))))) pss_nil)
      (pss_cons (ps_if (pt_cmpR op_gt (pe_ix (kIx K) (pv 0) pe_int (fun _ _ => rfl)) pe_int (nomark _)) (pss_cons (ps_set (i := 3) sc_L_draw.nd rfl (Or.inl rfl) (pe_ix (kIx K) (pv 0) pe_int (fun _ _ => rfl)))
      (pss_cons (ps_asg (pe_op op_fdivW (pv 3) (pv 1)) (pg_sub (pv 0) pe_int set_list))
      (pss_one (ps_ret (pe_op op_mod (pe_callTy kInt rfl T.z_int bt_int (pa_cons (pv 3) pa_nil)) (pv 1)))))) pss_nil)
      (pss_cons (ps_asg (pe_op op_mod (pe_callTy kInt rfl T.z_int bt_int (pa_cons (pe_op op_add (pe_ix (kIx K) (pv 0) pe_int (fun _ _ => rfl)) pe_int) pa_nil)) pe_int) (pg_sub (pv 0) pe_int set_list))
      (pss_one (ps_ret (pe_op op_mod (pe_callTy kInt rfl T.z_int bt_int (pa_cons (pe_fn G_L_mix hr rfl (pa_cons (pe_ix (kIx K) (pv 0) pe_int (fun _ _ => rfl)) (pa_cons (pe_ix (kIx K) (pv 0) pe_int (fun _ _ => rfl)) pa_nil))) pa_nil)) (pv 1))))))), ?_⟩
    show (_ : TS) { nx := fun _ H' => Q .non H', rt := Q } ([some (.ref h), some (.int m), none, none] : L2.St) H
    obtain ⟨nch, cells, i, b, c, h1, h2⟩ := id hh
    have g1 : SqA K H h [.ref cl, vN i, .int b, .int c] := .lst h1
    have a0 : atI ([.ref cl, vN i, .int b, .int c] : List V) 0 = some (.ref cl) := atI_nat (j := 0) rfl
    have a1 : atI ([.ref cl, vN i, .int b, .int c] : List V) 1 = some (vN i) := atI_nat (j := 1) rfl
    have a2 : atI ([.ref cl, vN i, .int b, .int c] : List V) 2 = some (.int b) := atI_nat (j := 2) rfl
    have g2 : SqA K H cl (cells.map V.int) := .lst h2
    walk_at "go"
    refine d2 (fun hb => ?_) fun hb => ?_
    · walk_at "go"
      refine c_len g2 ?_
      walk_at "go"
      rw [List.length_map]
      refine d2 (fun hi => ?_) fun hi => ?_
      · obtain ⟨cell, hcell⟩ := getElem_some (l := cells) (k := i) (by omega)
        have a4 : atI (cells.map V.int) (i : Int) = some (.int cell) := atI_map hcell
        walk_at "go"
        refine c_setL (j := 1) h1 (by simp) ?_
        have eI : (V.int ((i : Int) + 1)) = vN (i + 1) := by show V.int _ = V.int _; congr 1
        have e1 := Ek.here' (o := .lst ([.ref cl, vN i, .int b, .int c].set 1 (.int ((i : Int) + 1)))) (Ek.refl (h := h) (H := H))
        have k1 : (upd H h (.lst ([.ref cl, vN i, .int b, .int c].set 1 (.int ((i : Int) + 1))))) h = some (.lst [.ref cl, vN (i + 1), .int b, .int c]) := by rw [upd_same, eI]; rfl
        have k2 : (upd H h (.lst ([.ref cl, vN i, .int b, .int c].set 1 (.int ((i : Int) + 1))))) cl = some (.lst (cells.map V.int)) := by rw [upd_ne nch]; exact h2
        generalize upd H h (.lst ([.ref cl, vN i, .int b, .int c].set 1 (.int ((i : Int) + 1)))) = H1 at *
        have g3 : SqA K H1 h [.ref cl, vN (i + 1), .int b, .int c] := .lst k1
        have a5 : atI ([.ref cl, vN (i + 1), .int b, .int c] : List V) 1 = some (vN (i + 1)) := atI_nat (j := 1) rfl
        walk_at "go"
        refine d2 (fun hc => ?_) fun hc => ?_
        · walk_at "go"
          refine ⟨_, _, rfl, fun r => ?_⟩
          walk_at "go"
          refine c_I m0 ?_
          exact q _ _ e1 ⟨nch, cells, i + 1, b, c, k1, k2⟩ (Int.emod_nonneg _ (by omega)) (Int.emod_lt_of_pos _ m0)
        · walk_at "go"
          refine c_setL (j := 2) k1 (by simp) ?_
          replace e1 := Ek.here' (o := .lst ([.ref cl, vN (i + 1), .int b, .int c].set 2 (.int cell))) e1
          replace k2 : (upd H1 h (.lst ([.ref cl, vN (i + 1), .int b, .int c].set 2 (.int cell)))) cl = some (.lst (cells.map V.int)) := by rw [upd_ne nch]; exact k2
          replace k1 : (upd H1 h (.lst ([.ref cl, vN (i + 1), .int b, .int c].set 2 (.int cell)))) h = some (.lst [.ref cl, vN (i + 1), .int cell, .int c]) := upd_same
          clear g3
          generalize upd H1 h (.lst ([.ref cl, vN (i + 1), .int b, .int c].set 2 (.int cell))) = H1 at *
          have g1 : SqA K H1 h [.ref cl, vN (i + 1), .int (cell), .int c] := .lst k1
          have a0 : atI ([.ref cl, vN (i + 1), .int (cell), .int c] : List V) 0 = some (.ref cl) := atI_nat (j := 0) rfl
          have a1 : atI ([.ref cl, vN (i + 1), .int (cell), .int c] : List V) 1 = some (vN (i + 1)) := atI_nat (j := 1) rfl
          have a2 : atI ([.ref cl, vN (i + 1), .int (cell), .int c] : List V) 2 = some (.int (cell)) := atI_nat (j := 2) rfl
          have a3 : atI ([.ref cl, vN (i + 1), .int (cell), .int c] : List V) 3 = some (.int c) := atI_nat (j := 3) rfl
          walk_at "go"
          refine d2 (fun hp => ?_) fun hp => ?_
          · walk_at "go"
            refine c_I ⟨m0, ldiv m0 m1⟩ ?_
            walk_at "go"
            refine c_setL (j := 2) k1 (by simp) ?_
            have e2 := Ek.here' (o := .lst ([.ref cl, vN (i + 1), .int (cell), .int c].set 2 (.int ((cell) / m)))) e1
            have hh2 : HandAt (upd H1 h (.lst ([.ref cl, vN (i + 1), .int (cell), .int c].set 2 (.int ((cell) / m))))) h cl := ⟨nch, cells, i + 1, (cell) / m, c, upd_same, by rw [upd_ne nch]; exact k2⟩
            walk_at "go"
            refine c_I m0 ?_
            exact q _ _ e2 hh2 (Int.emod_nonneg _ (by omega)) (Int.emod_lt_of_pos _ m0)
          · walk_at "go"
            refine c_setL (j := 3) k1 (by simp) ?_
            have e2 := Ek.here' (o := .lst ([.ref cl, vN (i + 1), .int (cell), .int c].set 3 (.int ((c + 1) % 2147483629)))) e1
            have k12 : (upd H1 h (.lst ([.ref cl, vN (i + 1), .int (cell), .int c].set 3 (.int ((c + 1) % 2147483629))))) h = some (.lst [.ref cl, vN (i + 1), .int (cell), .int ((c + 1) % 2147483629)]) := upd_same
            have hh2 : HandAt (upd H1 h (.lst ([.ref cl, vN (i + 1), .int (cell), .int c].set 3 (.int ((c + 1) % 2147483629))))) h cl := ⟨nch, cells, i + 1, cell, _, upd_same, by rw [upd_ne nch]; exact k2⟩
            generalize upd H1 h (.lst ([.ref cl, vN (i + 1), .int (cell), .int c].set 3 (.int ((c + 1) % 2147483629)))) = H2 at *
            have g12 : SqA K H2 h [.ref cl, vN (i + 1), .int (cell), .int ((c + 1) % 2147483629)] := .lst k12
            have b1 : atI ([.ref cl, vN (i + 1), .int (cell), .int ((c + 1) % 2147483629)] : List V) 1 = some (vN (i + 1)) := atI_nat (j := 1) rfl
            have b3 : atI ([.ref cl, vN (i + 1), .int (cell), .int ((c + 1) % 2147483629)] : List V) 3 = some (.int ((c + 1) % 2147483629)) := atI_nat (j := 3) rfl
            walk_at "go"
            refine ⟨_, _, rfl, fun r => ?_⟩
            walk_at "go"
            refine c_I m0 ?_
            exact q _ _ e2 hh2 (Int.emod_nonneg _ (by omega)) (Int.emod_lt_of_pos _ m0)

      · walk_at "go"
        have e1 := Ek.refl (h := h) (H := H)
        have k1 := h1
        have k2 := h2
        clear g1
        generalize eH : H = H1 at e1 k1 k2 ⊢
        replace e1 : Ek h H H1 := by rw [eH]; exact Ek.refl
        have g1 : SqA K H1 h [.ref cl, vN (i), .int (b), .int c] := .lst k1
        have a0 : atI ([.ref cl, vN (i), .int (b), .int c] : List V) 0 = some (.ref cl) := atI_nat (j := 0) rfl
        have a1 : atI ([.ref cl, vN (i), .int (b), .int c] : List V) 1 = some (vN (i)) := atI_nat (j := 1) rfl
        have a2 : atI ([.ref cl, vN (i), .int (b), .int c] : List V) 2 = some (.int (b)) := atI_nat (j := 2) rfl
        have a3 : atI ([.ref cl, vN (i), .int (b), .int c] : List V) 3 = some (.int c) := atI_nat (j := 3) rfl
        walk_at "go"
        refine d2 (fun hp => ?_) fun hp => ?_
        · walk_at "go"
          refine c_I ⟨m0, ldiv m0 m1⟩ ?_
          walk_at "go"
          refine c_setL (j := 2) k1 (by simp) ?_
          have e2 := Ek.here' (o := .lst ([.ref cl, vN (i), .int (b), .int c].set 2 (.int ((b) / m)))) e1
          have hh2 : HandAt (upd H1 h (.lst ([.ref cl, vN (i), .int (b), .int c].set 2 (.int ((b) / m))))) h cl := ⟨nch, cells, i, (b) / m, c, upd_same, by rw [upd_ne nch]; exact k2⟩
          walk_at "go"
          refine c_I m0 ?_
          exact q _ _ e2 hh2 (Int.emod_nonneg _ (by omega)) (Int.emod_lt_of_pos _ m0)
        · walk_at "go"
          refine c_setL (j := 3) k1 (by simp) ?_
          have e2 := Ek.here' (o := .lst ([.ref cl, vN (i), .int (b), .int c].set 3 (.int ((c + 1) % 2147483629)))) e1
          have k12 : (upd H1 h (.lst ([.ref cl, vN (i), .int (b), .int c].set 3 (.int ((c + 1) % 2147483629))))) h = some (.lst [.ref cl, vN (i), .int (b), .int ((c + 1) % 2147483629)]) := upd_same
          have hh2 : HandAt (upd H1 h (.lst ([.ref cl, vN (i), .int (b), .int c].set 3 (.int ((c + 1) % 2147483629))))) h cl := ⟨nch, cells, i, b, _, upd_same, by rw [upd_ne nch]; exact k2⟩
          generalize upd H1 h (.lst ([.ref cl, vN (i), .int (b), .int c].set 3 (.int ((c + 1) % 2147483629)))) = H2 at *
          have g12 : SqA K H2 h [.ref cl, vN (i), .int (b), .int ((c + 1) % 2147483629)] := .lst k12
          have b1 : atI ([.ref cl, vN (i), .int (b), .int ((c + 1) % 2147483629)] : List V) 1 = some (vN (i)) := atI_nat (j := 1) rfl
          have b3 : atI ([.ref cl, vN (i), .int (b), .int ((c + 1) % 2147483629)] : List V) 3 = some (.int ((c + 1) % 2147483629)) := atI_nat (j := 3) rfl
          walk_at "go"
          refine ⟨_, _, rfl, fun r => ?_⟩
          walk_at "go"
          refine c_I m0 ?_
          exact q _ _ e2 hh2 (Int.emod_nonneg _ (by omega)) (Int.emod_lt_of_pos _ m0)

    · walk_at "go"
      have e1 := Ek.refl (h := h) (H := H)
      have k1 := h1
      have k2 := h2
      clear g1
      generalize eH : H = H1 at e1 k1 k2 ⊢
      replace e1 : Ek h H H1 := by rw [eH]; exact Ek.refl
      have g1 : SqA K H1 h [.ref cl, vN (i), .int (b), .int c] := .lst k1
      have a0 : atI ([.ref cl, vN (i), .int (b), .int c] : List V) 0 = some (.ref cl) := atI_nat (j := 0) rfl
      have a1 : atI ([.ref cl, vN (i), .int (b), .int c] : List V) 1 = some (vN (i)) := atI_nat (j := 1) rfl
      have a2 : atI ([.ref cl, vN (i), .int (b), .int c] : List V) 2 = some (.int (b)) := atI_nat (j := 2) rfl
      have a3 : atI ([.ref cl, vN (i), .int (b), .int c] : List V) 3 = some (.int c) := atI_nat (j := 3) rfl
      walk_at "go"
      refine d2 (fun hp => ?_) fun hp => ?_
      · walk_at "go"
        refine c_I ⟨m0, ldiv m0 m1⟩ ?_
        walk_at "go"
        refine c_setL (j := 2) k1 (by simp) ?_
        have e2 := Ek.here' (o := .lst ([.ref cl, vN (i), .int (b), .int c].set 2 (.int ((b) / m)))) e1
        have hh2 : HandAt (upd H1 h (.lst ([.ref cl, vN (i), .int (b), .int c].set 2 (.int ((b) / m))))) h cl := ⟨nch, cells, i, (b) / m, c, upd_same, by rw [upd_ne nch]; exact k2⟩
        walk_at "go"
        refine c_I m0 ?_
        exact q _ _ e2 hh2 (Int.emod_nonneg _ (by omega)) (Int.emod_lt_of_pos _ m0)
      · walk_at "go"
        refine c_setL (j := 3) k1 (by simp) ?_
        have e2 := Ek.here' (o := .lst ([.ref cl, vN (i), .int (b), .int c].set 3 (.int ((c + 1) % 2147483629)))) e1
        have k12 : (upd H1 h (.lst ([.ref cl, vN (i), .int (b), .int c].set 3 (.int ((c + 1) % 2147483629))))) h = some (.lst [.ref cl, vN (i), .int (b), .int ((c + 1) % 2147483629)]) := upd_same
        have hh2 : HandAt (upd H1 h (.lst ([.ref cl, vN (i), .int (b), .int c].set 3 (.int ((c + 1) % 2147483629))))) h cl := ⟨nch, cells, i, b, _, upd_same, by rw [upd_ne nch]; exact k2⟩
        generalize upd H1 h (.lst ([.ref cl, vN (i), .int (b), .int c].set 3 (.int ((c + 1) % 2147483629)))) = H2 at *
        have g12 : SqA K H2 h [.ref cl, vN (i), .int (b), .int ((c + 1) % 2147483629)] := .lst k12
        have b1 : atI ([.ref cl, vN (i), .int (b), .int ((c + 1) % 2147483629)] : List V) 1 = some (vN (i)) := atI_nat (j := 1) rfl
        have b3 : atI ([.ref cl, vN (i), .int (b), .int ((c + 1) % 2147483629)] : List V) 3 = some (.int ((c + 1) % 2147483629)) := atI_nat (j := 3) rfl
        walk_at "go"
        refine ⟨_, _, rfl, fun r => ?_⟩
        walk_at "go"
        refine c_I m0 ?_
        exact q _ _ e2 hh2 (Int.emod_nonneg _ (by omega)) (Int.emod_lt_of_pos _ m0)

end
end
section
/-! take, cost, order. -/
section
variable {P : Program} {w : World} {K : PySem.W.Frag} {mg : Str → Option Value} {base : Heap}
/-- a comprehension whose turns draw -/
def Lh (h cl : Addr) (H1 : Hp) (R : Nat → List V → Prop) (i : Nat) (acc : List V) (H : Hp) : Prop := Ek h H1 H ∧ HandAt H h cl ∧ R i acc
theorem lph {J : It} {n : Nat} {G : Hp → Prop} {Y : Nat → Hp → V → Hp → Prop} {g : TG} {tt : TT} {te : TE} {vs : List Nat} {σ : L2.St} {Q : VK} {H1 : Hp} {h cl : Addr} (w : Walk J n G Y) (hh : HandAt H1 h cl) (hG : ∀ H, Ek h H1 H → G H) (R : Nat → List V → Prop) (h0 : R 0 [])
    (hs : ∀ D i x acc H H', H1 D = none → i < n → acc.length ≤ i → H D = some (.lst acc) → Ek h H1 H → HandAt H h cl → R i acc → Y i H x H' → g x (wipe σ vs) H' fun σ2 H2 => wipe σ2 vs = wipe σ vs ∧ tt σ2 H2 fun b H3 =>
      if b = true then te σ2 H3 fun y H4 => Ad (Lh h cl H1 R) D (i + 1) y H4 else Lc (Lh h cl H1 R) D (i + 1) H3)
    (hd : ∀ D acc H, H1 D = none → Ek h H1 H → HandAt H h cl → H D = some (.lst acc) → acc.length ≤ n → R n acc → Q (.ref D) H) : LcW J g tt te vs σ Q H1 :=
  lg w (fun _ => Lh h cl H1 R) (fun D nD => ⟨Ek.of (Same.new nD), hh.same (Same.new nD), h0⟩) (fun D i acc H nD hi hD p => hG H p.1) (fun D i x acc H H' nD hi hl hD p hy => hs D i x acc H H' nD hi hl hD p.1 p.2.1 p.2.2 hy) fun D acc H nD hD hl p => hd D acc H nD p.1 p.2.1 hD hl p.2.2
theorem Lh.add {R : Nat → List V → Prop} {D : Addr} {i : Nat} {y : V} {H H1 H4 : Hp} {acc : List V} {h cl : Addr} (hh1 : HandAt H1 h cl) (nD : H1 D = none) (hD : H D = some (.lst acc)) (e1 : Ek h H1 H) (e : Ek h H H4) (hh : HandAt H4 h cl) (hl : acc.length ≤ i) (r : R (i + 1) (acc ++ [y])) (hi : i ≤ 1000000) : Ad (Lh h cl H1 R) D (i + 1) y H4 :=
  Lc.add (e.at (hh1.ne nD).1 hD) hl hi ⟨(e1.trans e).mut nD, hh.upd (hh1.ne nD).1 (hh1.ne nD).2, r⟩
def TkA (K : PySem.W.Frag) (H H' : Hp) (a : Addr) (xs : List V) : Prop := SqT K H' a xs ∨ (H a = none ∧ H' a = some (.lst xs))
def spTake (K : PySem.W.Frag) : Sp := fun vs H Q _ => ∃ (h cl t : Addr) (xs : List V), vs = [.ref h, .ref t] ∧ HandAt H h cl ∧ SqT K H t xs ∧ ∀ a H', Ek h H H' → HandAt H' h cl → TkA K H H' a xs → Q (.ref a) H'
theorem sc_L_take : FnScope ["_law_hand_here", "_law_row"] ["_law_hand_here", "_law_row"] (defScope s_L_take) := ⟨rfl, rfl, rfl, by decide +kernel, rfl, by decide +kernel, by decide +kernel⟩
theorem ok_L_take (T : Tx K mg) (G_L_draw : Fn P w K mg base 2 "_law_draw" ["_law_hand_here", "_law_many"] spDraw) : Fn P w K mg base 3 "_law_take" ["_law_hand_here", "_law_row"] (spTake K) := by
  refine fn_mk (st := s_L_take) T.f_L_take T.g__law_take sc_L_take (fun _ _ _ _ _ _ us hl => match us, hl with | [_, _], _ => rfl) ?len (fun cdv A outer s H vs Q E hr h => ?body)
  case len => exact fun vs H Q E ⟨h, cl, t, xs, e, _⟩ => by rw [e]; rfl
  case body =>
    obtain ⟨h, cl, t, xs, rfl, hh, ht, q⟩ := h
    refine ⟨_, (pss_one (ps_ret (pe_ifExp (pt_cmpR op_eq (pe_fn G_L_draw hr rfl (pa_cons (pv 0) (pa_cons pe_int pa_nil))) pe_int (nomark _)) (pe_callTy (kLst K) rfl T.z_list bt_list (pa_cons (pv 1) pa_nil)) (pe_callTy (kTup K) rfl T.z_tuple bt_tuple (pa_cons (pv 1) pa_nil))))), ?_⟩
    show (_ : TS) { nx := fun _ H' => Q .non H', rt := Q } ([some (.ref h), some (.ref t)] : L2.St) H
    walk_at "go"
    refine ⟨h, cl, 2, rfl, hh, by omega, by omega, fun r H1 e1 hh1 r0 r1 => ?_⟩
    walk_at "go"
    have ht1 := hh.tk e1 _ _ ht
    refine d2 (fun hr => ?_) fun hr => ?_
    · walk_at "go"
      refine ⟨t, xs, rfl, .inr ht1, fun l nl => ?_⟩
      exact q l _ (e1.and (Same.new nl)) (hh1.same (Same.new nl)) (.inr ⟨e1.free (hh1.ne nl).1 nl, upd_same⟩)
    · walk_at "go"
      refine ⟨t, xs, rfl, .inr ⟨ht1, ?_⟩⟩
      exact q t _ e1 hh1 (.inl ht1)
theorem atI_pick {l : List Int} {r : Int} (h0 : 0 ≤ r) (h1 : r < (l.length : Nat)) : ∃ c, c ∈ l ∧ atI (l.map V.int) r = some (.int c) := by
  obtain ⟨k, rfl⟩ : ∃ k : Nat, r = (k : Int) := ⟨r.toNat, by omega⟩
  obtain ⟨c, hc⟩ := getElem_some (l := l) (k := k) (by omega)
  exact ⟨c, List.mem_of_getElem? hc, atI_map hc⟩
def spCost : Sp := fun vs H Q _ => ∃ (h cl : Addr) (b : Bool), vs = [.ref h, .bl b] ∧ HandAt H h cl ∧ ∀ (c : Int) H', Ek h H H' → HandAt H' h cl → 0 ≤ c → c ≤ 1000000000 → Q (.int c) H'
theorem sc_L_cost : FnScope ["_law_hand_here", "_law_small"] ["_law_hand_here", "_law_small"] (defScope s_L_cost) := ⟨rfl, rfl, rfl, by decide +kernel, rfl, by decide +kernel, by decide +kernel⟩
theorem ok_L_cost (T : Tx K mg) (G_L_draw : Fn P w K mg base 2 "_law_draw" ["_law_hand_here", "_law_many"] spDraw) : Fn P w K mg base 3 "_law_cost" ["_law_hand_here", "_law_small"] (spCost) := by
  refine fn_mk (st := s_L_cost) T.f_L_cost T.g__law_cost sc_L_cost (fun _ _ _ _ _ _ us hl => match us, hl with | [_, _], _ => rfl) ?len (fun cdv A outer s H vs Q E hr h => ?body)
  case len => exact fun vs H Q E ⟨h, cl, b, e, _⟩ => by rw [e]; rfl
  case body =>
    obtain ⟨h, cl, b, rfl, hh, q⟩ := h
    refine ⟨_, (pss_cons (ps_if (PW.pt (pw_or (pt_val (pv 1)) (pw_or1 (pt_cmpR op_eq (pe_fn G_L_draw hr rfl (pa_cons (pv 0) (pa_cons pe_int pa_nil))) pe_int (nomark _))))) (pss_one (ps_ret (pe_ix (kIx K) (pe_lst (pa_cons pe_int (pa_cons pe_int (pa_cons pe_int (pa_cons pe_int (pa_cons pe_int (pa_cons pe_int pa_nil))))))) (pe_fn G_L_draw hr rfl (pa_cons (pv 0) (pa_cons pe_int pa_nil))) (fun _ _ => rfl)))) pss_nil)
      (pss_one (ps_ret (pe_ifExp (pt_cmpR op_gt (pe_fn G_L_draw hr rfl (pa_cons (pv 0) (pa_cons pe_int pa_nil))) pe_int (nomark _)) (pe_fn G_L_draw hr rfl (pa_cons (pv 0) (pa_cons (pe_op op_add (pe_op op_pow pe_int pe_int) pe_int) pa_nil))) (pe_op op_sub (pe_op op_pow pe_int pe_int) (pe_fn G_L_draw hr rfl (pa_cons (pv 0) (pa_cons pe_int pa_nil)))))))), ?_⟩
    show (_ : TS) { nx := fun _ H' => Q .non H', rt := Q } ([some (.ref h), some (.bl b)] : L2.St) H
    walk_at "go"
    cases b with
    | true =>
      walk_at "go"
      refine ⟨by show 6 ≤ sizeLine; decide, fun p np => ?_⟩
      have eP : Same H (upd H p (.lst ([0, 1, 2, 3, 4, 6].map V.int))) := Same.new np
      walk_at "go"
      refine ⟨h, cl, 6, rfl, hh.same eP, by omega, by omega, fun r2 H2 e2 hh2 r20 r21 => ?_⟩
      have g1 : SqA K H2 p ([0, 1, 2, 3, 4, 6].map V.int) := .lst (e2.at (hh.ne np).1 upd_same)
      obtain ⟨c, hc, hat⟩ := atI_pick (l := [0, 1, 2, 3, 4, 6]) r20 (by simpa using r21)
      walk_at "go"
      exact q c _ ((Ek.refl (h := h) (H := H)).trans ((Ek.of eP).trans e2)) hh2 (by simp at hc; omega) (by simp at hc; omega)
    | false =>
      walk_at "go"
      refine ⟨h, cl, 3, rfl, hh, by omega, by omega, fun r H1 e1 hh1 r0 r1 => ?_⟩
      walk_at "go"
      refine d2 (fun hr => ?_) fun hr => ?_
      · walk_at "go"
        refine ⟨by show 6 ≤ sizeLine; decide, fun p np => ?_⟩
        have eP : Same H1 (upd H1 p (.lst ([0, 1, 2, 3, 4, 6].map V.int))) := Same.new np
        walk_at "go"
        refine ⟨h, cl, 6, rfl, hh1.same eP, by omega, by omega, fun r2 H2 e2 hh2 r20 r21 => ?_⟩
        have g1 : SqA K H2 p ([0, 1, 2, 3, 4, 6].map V.int) := .lst (e2.at (hh1.ne np).1 upd_same)
        obtain ⟨c, hc, hat⟩ := atI_pick (l := [0, 1, 2, 3, 4, 6]) r20 (by simpa using r21)
        walk_at "go"
        exact q c _ (e1.trans ((Ek.of eP).trans e2)) hh2 (by simp at hc; omega) (by simp at hc; omega)
      · walk_at "go"
        refine ⟨h, cl, 4, rfl, hh1, by omega, by omega, fun r2 H2 e2 hh2 r20 r21 => ?_⟩
        walk_at "go"
        have e02 := e1.trans e2
        refine d2 (fun hr2 => ?_) fun hr2 => ?_
        · walk_at "go"
          refine ⟨h, cl, _, rfl, hh2, by decide, by decide, fun r3 H3 e3 hh3 r30 r31 => ?_⟩
          exact q r3 _ (e02.trans e3) hh3 r30 (by have : r3 < 1000000000 + 1 := r31; omega)
        · walk_at "go"
          refine ⟨h, cl, 2, rfl, hh2, by omega, by omega, fun r3 H3 e3 hh3 r30 r31 => ?_⟩
          walk_at "go"
          exact q _ _ (e02.trans e3) hh3 (by show 0 ≤ 1000000000 - r3; omega) (by show 1000000000 - r3 ≤ 1000000000; omega)
def spOrder : Sp := fun vs H Q _ => ∃ (h cl : Addr) (n : Nat), vs = [.ref h, vN n] ∧ HandAt H h cl ∧ n ≤ 1000 ∧ ∀ (a : Addr) (os : List Nat) H', H a = none → Ek h H H' → HandAt H' h cl → H' a = some (.lst (os.map vN)) → os.Perm (List.range n) → Q (.ref a) H'
theorem rgV_nat (n : Nat) : rgV 0 (n : Int) = (List.range n).map vN := by
  unfold rgV
  have e : ((n : Int) - 0).toNat = n := by omega
  rw [e]
  exact List.map_congr_left fun k _ => by show V.int (0 + (k : Int)) = V.int k; rw [Int.zero_add]
theorem erase_perm {α : Type} : ∀ {l : List α} {k : Nat} {y : α}, l[k]? = some y → (y :: l.eraseIdx k).Perm l
  | [], k, y, h => by simp at h
  | x :: l, 0, y, h => by
    have e : x = y := by simpa using h
    subst e
    exact List.Perm.refl _
  | x :: l, k + 1, y, h => by
    have ih := erase_perm (l := l) (k := k) (y := y) (by simpa using h)
    exact (List.Perm.swap x y _).trans (List.Perm.cons x ih)
theorem map_erase {α β : Type} {f : α → β} : ∀ {l : List α} {k : Nat}, (l.map f).eraseIdx k = (l.eraseIdx k).map f
  | [], k => by simp
  | x :: l, 0 => by simp
  | x :: l, k + 1 => by simp [map_erase (l := l) (k := k)]
theorem seqIx {k n : Nat} (h : k < n) : seqIndex? (k : Int) n = some k := by
  unfold seqIndex?
  simp
  omega
theorem sc_L_order : FnScope ["_law_hand_here", "_law_many", "_law_left", "_law_told_here", "_law_k"] ["_law_hand_here", "_law_many"] (defScope s_L_order) := ⟨rfl, rfl, rfl, by decide +kernel, rfl, by decide +kernel, by decide +kernel⟩
theorem ok_L_order (T : Tx K mg) (G_L_draw : Fn P w K mg base 2 "_law_draw" ["_law_hand_here", "_law_many"] spDraw) : Fn P w K mg base 3 "_law_order" ["_law_hand_here", "_law_many"] (spOrder) := by
  refine fn_mk (st := s_L_order) T.f_L_order T.g__law_order sc_L_order (fun _ _ _ _ _ _ us hl => match us, hl with | [_, _], _ => rfl) ?len (fun cdv A outer s H vs Q E hr h => ?body)
  case len => exact fun vs H Q E ⟨h, cl, n, e, _⟩ => by rw [e]; rfl
  case body =>
    obtain ⟨h, cl, n, rfl, hh, hn, q⟩ := h
    refine ⟨_, (pss_cons (ps_set (i := 2) sc_L_order.nd rfl (Or.inl rfl) (pe_listRg rfl rfl T.z_list (prg_1 rfl T.z_range (pv 1))))
      (pss_cons (ps_set (i := 3) sc_L_order.nd rfl (Or.inl rfl) (pe_lst pa_nil))
      (pss_cons (ps_for PassesOwn.never rfl (pi_range1 rfl T.z_range (pa_cons (pv 1) pa_nil)) (pg_name (i := 4) sc_L_order.nd rfl (Or.inl rfl)) (pss_one (ps_expr (kApp K (pv 3) (kPopAt K (pv 2) (pe_fn G_L_draw hr rfl (pa_cons (pv 0) (pa_cons (pe_callB (kLen K) rfl T.z_len bt_len (pa_cons (pv 2) pa_nil)) pa_nil))))))))
      (pss_one (ps_ret (pv 3)))))), ?_⟩
    show (_ : TS) { nx := fun _ H' => Q .non H', rt := Q } ([some (.ref h), some (vN n), none, none, none] : L2.St) H
    walk_at "go"
    refine ⟨vN n, rfl, (n : Int), rfl, RgOk.of_le (by omega) (by omega) (by omega) (by omega), fun L nL => ?_⟩
    rw [rgV_nat]
    have e1 : Same H (upd H L (.lst ((List.range n).map vN))) := Same.new nL
    have hh1 := hh.same e1
    have hL1 : (upd H L (.lst ((List.range n).map vN))) L = some (.lst ((List.range n).map vN)) := upd_same
    generalize upd H L (.lst ((List.range n).map vN)) = H1 at *
    walk_at "go"
    refine ⟨Nat.zero_le _, fun B nB => ?_⟩
    have e2 : Same H1 (upd H1 B (.lst [])) := Same.new nB
    have hh2 := hh1.same e2
    have hL2 := e2 _ _ hL1
    have hB2 : (upd H1 B (.lst [])) B = some (.lst []) := upd_same
    have nLB : L ≠ B := fun z => by rw [z, nB] at hL1; cases hL1
    have nLh := hh.ne nL
    have nBh := hh.ne (e1.free nB)
    have nB0 := e1.free nB
    have e02 : Ek h H (upd H1 B (.lst [])) := Ek.of (e1.trans e2)
    generalize upd H1 B (.lst []) = H2 at *
    walk_at "go"
    refine c_seq (f_r1 ?_)
    walk_at "go"
    refine ovR1 (by omega) ?_
    have en : ((n : Nat) : Int).toNat = n := by omega
    rw [en]
    refine fo walk_range (fun i σ' H' => ∃ (ls os : List Nat) (o4 : Option V), σ' = [some (.ref h), some (vN n), some (.ref L), some (.ref B), o4] ∧ Ek h H H' ∧ HandAt H' h cl ∧ H' L = some (.lst (ls.map vN)) ∧ H' B = some (.lst (os.map vN)) ∧ os.length = i ∧ ls.length + i = n ∧ (ls ++ os).Perm (List.range n)) ?_ (fun _ _ _ _ _ => trivial) ?_ ?_
    · exact ⟨List.range n, [], _, rfl, e02, hh2, hL2, hB2, rfl, by simp, by simp⟩
    · rintro i x σ' H3 H3' hi ⟨ls, os, o4, rfl, e3, hh3, hL3, hB3, hol, hll, hp⟩ ⟨rfl, rfl⟩
      simp only [Int.zero_add]
      walk_at "go"
      refine c_len (.lst hL3) ?_
      walk_at "go"
      rw [List.length_map]
      refine ⟨h, cl, _, rfl, hh3, by omega, by omega, fun r H4 e4 hh4 r0 r1 => ?_⟩
      obtain ⟨k, rfl⟩ : ∃ k : Nat, r = (k : Int) := ⟨r.toNat, by omega⟩
      have hL4 := e4.at nLh.1 hL3
      have hB4 := e4.at nBh.1 hB3
      obtain ⟨y, hy⟩ := getElem_some (l := ls) (k := k) (by omega)
      walk_at "go"
      refine ⟨L, ls.map vN, k, k, vN y, rfl, rfl, hL4, by omega, by omega, seqIx (by rw [List.length_map]; omega), by rw [List.getElem?_map, hy]; rfl, ?_⟩
      have e5 : Ek h H (upd H4 L (.lst ((ls.map vN).eraseIdx k))) := (e3.trans e4).mut nL
      have hh5 := hh4.upd (o := .lst ((ls.map vN).eraseIdx k)) nLh.1 nLh.2
      have hL5 : (upd H4 L (.lst ((ls.map vN).eraseIdx k))) L = some (.lst ((ls.eraseIdx k).map vN)) := by rw [upd_same, map_erase]
      have hB5 : (upd H4 L (.lst ((ls.map vN).eraseIdx k))) B = some (.lst (os.map vN)) := by rw [upd_ne (Ne.symm nLB)]; exact hB4
      generalize upd H4 L (.lst ((ls.map vN).eraseIdx k)) = H5 at *
      walk_at "go"
      refine c_app hB5 (by rw [List.length_map]; omega) ?_
      refine ⟨ls.eraseIdx k, os ++ [y], _, rfl, e5.mut nB0, hh5.upd nBh.1 nBh.2, by rw [upd_ne nLB]; exact hL5, by rw [upd_same]; simp, by simp [hol], by rw [List.length_eraseIdx, if_pos (by omega)]; omega, ?_⟩
      refine List.Perm.trans ?_ hp
      rw [← List.append_assoc]
      refine List.perm_append_singleton _ _ |>.trans ?_
      rw [← List.cons_append]
      exact List.Perm.append_right _ (erase_perm hy)
    · rintro σ' H3 ⟨ls, os, o4, rfl, e3, hh3, hL3, hB3, hol, hll, hp⟩
      dsimp only
      walk_at "go"
      have hls : ls = [] := List.length_eq_zero_iff.mp (by omega)
      subst hls
      exact q B os _ nB0 e3 hh3 hB3 (by simpa using hp)
end
end
section
/-! chart. -/
section
variable {P : Program} {w : World} {K : PySem.W.Frag} {mg : Str → Option Value} {base : Heap}
theorem d2set {p : Prop} [Decidable p] {v wv : V} {i : Nat} {D : Ends} {σ : L2.St} {H : Hp} (hw : σ[i]? = some (some wv)) (h : ∀ u, (p ∧ u = v) ∨ (¬ p ∧ u = wv) → D.nx (σ.set i (some u)) H) : if decide p = true then tAsg (tC v) (gName i) D σ H else tNext D σ H := by
  refine d2 (fun hp => h v (.inl ⟨hp, rfl⟩)) fun hp => ?_
  have k := h wv (.inr ⟨hp, rfl⟩)
  have e : σ.set i (some wv) = σ := by
    apply List.ext_getElem?
    intro j
    rw [List.getElem?_set]
    by_cases hj : i = j
    · subst hj
      have hl := (List.getElem?_eq_some_iff.mp hw).1
      rw [if_pos rfl, if_pos hl, hw]
    · rw [if_neg hj]
  rw [e] at k
  exact k
structure GoodC (costs : List Int) (ar : List (Nat × Nat)) : Prop where
  n1 : 1 ≤ costs.length
  n2 : costs.length ≤ 9
  m1 : ar.length ≤ 13
  co : CostsOk costs
  arr : ∀ p ∈ ar, p.1 < costs.length ∧ p.2 < costs.length
  re : ∀ v, v < costs.length → ∃ r, Wk ar 0 0 r v
/-- costs and arrows as the law holds them -/
def CD (K : PySem.W.Frag) (H : Hp) (x : Addr) (costs : List Int) (ar : List (Nat × Nat)) : Prop := ∃ tc ta xs, H x = some (.lst [.ref tc, .ref ta]) ∧ SqT K H tc (costs.map V.int) ∧ SqT K H ta xs ∧ DpAll K H xs (ar.map arD)
/-- names and pairs, in the making -/
def PI (K : PySem.W.Frag) (H : Hp) (h cl N Pa : Addr) (nm : List Nat) (ps : List (Nat × Nat)) (H' : Hp) : Prop := Ek h H H' ∧ HandAt H' h cl ∧ H' N = some (.lst (nm.map vN)) ∧ ∃ xs, H' Pa = some (.lst xs) ∧ DpAll K H' xs (ps.map arD)
section
variable {H H' H'' : Hp} {h cl N Pa : Addr} {nm : List Nat} {ps : List (Nat × Nat)}
theorem PI.ek (k : PI K H h cl N Pa nm ps H') (n1 : N ≠ h) (n2 : Pa ≠ h) (e : Ek h H' H'') (hh : HandAt H'' h cl) : PI K H h cl N Pa nm ps H'' := by
  obtain ⟨e1, hh1, hN, xs, hP, hd⟩ := k
  exact ⟨e1.trans e, hh, e.at n1 hN, xs, e.at n2 hP, Tk.ar (hh1.tk e) hd⟩
theorem PI.same (k : PI K H h cl N Pa nm ps H') (e : Same H' H'') : PI K H h cl N Pa nm ps H'' := by
  obtain ⟨e1, hh1, hN, xs, hP, hd⟩ := k
  exact ⟨e1.and e, hh1.same e, e _ _ hN, xs, e _ _ hP, Tk.ar (Same.tk e) hd⟩
theorem PI.add {a : Addr} {u v : Nat} {xs : List V} (k : PI K H h cl N Pa nm ps H') (hh : HandAt H h cl) (nP : H Pa = none) (n3 : N ≠ Pa) (hP : H' Pa = some (.lst xs)) (ha : SqT K H' a [vN u, vN v]) : PI K H h cl N Pa nm (ps ++ [(u, v)]) (upd H' Pa (.lst (xs ++ [.ref a]))) := by
  obtain ⟨e1, hh1, hN, xs', hP', hd⟩ := k
  rw [hP] at hP'
  cases hP'
  have t := Tk.lst (K := K) (o := .lst (xs ++ [.ref a])) hP
  refine ⟨e1.mut nP, hh1.upd (hh.ne nP).1 (hh.ne nP).2, by rw [upd_ne n3]; exact hN, _, upd_same, ?_⟩
  rw [List.map_append]
  exact (Tk.ar t hd).append (.cons (.tup (t _ _ ha) (DpAll.of_nats [u, v])) .nil)
end
theorem reach_tree {ar : List (Nat × Nat)} {nm : List Nat} {n : Nat} (h0 : nm[0]? = some 0) (ht : ∀ j b, 1 ≤ j → nm[j]? = some b → ∃ (t a : Nat), t < j ∧ nm[t]? = some a ∧ (a, b) ∈ ar) : ∀ (m k b : Nat), k ≤ m → nm[k]? = some b → ∃ r, Wk ar 0 0 r b
  | m, 0, b, _, hb => by
    rw [h0] at hb
    cases hb
    exact ⟨[], rfl⟩
  | 0, k + 1, b, hk, hb => by omega
  | m + 1, k + 1, b, hk, hb => by
    obtain ⟨t, a, h1, h2, h3⟩ := ht (k + 1) b (by omega) hb
    obtain ⟨r, hr⟩ := reach_tree (n := n) h0 ht m t a (by omega) h2
    obtain ⟨i, hi⟩ := List.getElem?_of_mem h3
    exact ⟨r ++ [i], Wk.snoc.mpr ⟨a, hr, hi, Nat.zero_le _⟩⟩
def spCh (K : PySem.W.Frag) : Sp := fun vs H Q _ => ∃ (h cl : Addr), vs = [.ref h] ∧ HandAt H h cl ∧ ∀ (a : Addr) (costs : List Int) (ar : List (Nat × Nat)) H', H a = none → Ek h H H' → HandAt H' h cl → CD K H' a costs ar → GoodC costs ar → Q (.ref a) H'
theorem sc_L_chart : FnScope ["_law_hand_here", "_law_many", "_law_k", "_law_names", "_law_small", "_law_pairs", "_law_way", "_law_one_here", "_law_two", "_law_arrows"] ["_law_hand_here"] (defScope s_L_chart) := ⟨rfl, rfl, rfl, by decide +kernel, rfl, by decide +kernel, by decide +kernel⟩
theorem ok_L_chart (T : Tx K mg) (G_L_draw : Fn P w K mg base 2 "_law_draw" ["_law_hand_here", "_law_many"] spDraw) (G_L_order : Fn P w K mg base 3 "_law_order" ["_law_hand_here", "_law_many"] spOrder) (G_L_cost : Fn P w K mg base 3 "_law_cost" ["_law_hand_here", "_law_small"] spCost) : Fn P w K mg base 4 "_law_chart" ["_law_hand_here"] (spCh K) := by
  refine fn_mk (st := s_L_chart) T.f_L_chart T.g__law_chart sc_L_chart (fun _ _ _ _ _ _ us hl => match us, hl with | [_], _ => rfl) ?len (fun cdv A outer s H vs Q E hr h => ?body)
  case len => exact fun vs H Q E ⟨h, cl, e, _⟩ => by rw [e]; rfl
  case body =>
    obtain ⟨h, cl, rfl, hh, q⟩ := h
    refine ⟨_, (pss_cons (ps_set (i := 1) sc_L_chart.nd rfl (Or.inl rfl) (pe_ix (kIx K) (pe_lst (pa_cons pe_int (pa_cons pe_int (pa_cons pe_int (pa_cons pe_int (pa_cons pe_int (pa_cons pe_int (pa_cons pe_int (pa_cons pe_int pa_nil))))))))) (pe_fn G_L_draw hr rfl (pa_cons (pv 0) (pa_cons pe_int pa_nil))) (fun _ _ => rfl)))
      (pss_cons (ps_if (pt_cmpR op_eq (pe_fn G_L_draw hr rfl (pa_cons (pv 0) (pa_cons pe_int pa_nil))) pe_int (nomark _)) (pss_one (ps_set (i := 1) sc_L_chart.nd rfl (Or.inl rfl) pe_int)) pss_nil)
      (pss_cons (ps_set (i := 3) sc_L_chart.nd rfl (Or.inl rfl) (pe_op op_cat (pe_lst (pa_cons pe_int pa_nil)) (pe_lc (own := [("_law_k", 2)]) rfl sc_L_chart.nd (kSeq K (pe_fn G_L_order hr rfl (pa_cons (pv 0) (pa_cons (pe_op op_sub (pv 1) pe_int) pa_nil)))) (blkOk_by (own := [("_law_k", 2)]) (N := ["_law_hand_here", "_law_many", "_law_k", "_law_names", "_law_small", "_law_pairs", "_law_way", "_law_one_here", "_law_two", "_law_arrows"]) (sc := defScope s_L_chart) (by decide +kernel)) (fun _ _ _ _ _ => (pg_name (i := 2) sc_L_chart.nd rfl (by first | exact Or.inl rfl | exact Or.inr rfl))) (fun _ _ _ _ _ => pts_nil) (fun _ _ _ _ _ => (pe_op op_add pe_int (pv 2))))))
      (pss_cons (ps_set (i := 4) sc_L_chart.nd rfl (Or.inr rfl) (pe_cmpR op_eq (pe_fn G_L_draw hr rfl (pa_cons (pv 0) (pa_cons pe_int pa_nil))) pe_int (nomark _)))
      (pss_cons (ps_set (i := 5) sc_L_chart.nd rfl (Or.inr rfl) (pe_lst pa_nil))
      (pss_cons (ps_for PassesOwn.never rfl (pi_range2 rfl T.z_range (pa_cons pe_int (pa_cons (pv 1) pa_nil))) (pg_name (i := 2) sc_L_chart.nd rfl (Or.inl rfl)) (pss_one (ps_expr (kApp K (pv 5) (pe_tup (pa_cons (pe_ix (kIx K) (pv 3) (pe_ifExp (pt_cmpR op_gt (pe_fn G_L_draw hr rfl (pa_cons (pv 0) (pa_cons pe_int pa_nil))) pe_int (nomark _)) (pe_op op_sub (pv 2) pe_int) (pe_fn G_L_draw hr rfl (pa_cons (pv 0) (pa_cons (pv 2) pa_nil)))) (fun _ _ => rfl)) (pa_cons (pe_ix (kIx K) (pv 3) (pv 2) (fun _ _ => rfl)) pa_nil)))))))
      (pss_cons (ps_set (i := 6) sc_L_chart.nd rfl (Or.inl rfl) (pe_fn G_L_draw hr rfl (pa_cons (pv 0) (pa_cons pe_int pa_nil))))
      (pss_cons (ps_for PassesOwn.never rfl (pi_range1 rfl T.z_range (pa_cons (pe_ix (kIx K) (pe_lst (pa_cons pe_int (pa_cons pe_int (pa_cons pe_int (pa_cons pe_int (pa_cons pe_int (pa_cons pe_int (pa_cons pe_int (pa_cons pe_int pa_nil))))))))) (pe_fn G_L_draw hr rfl (pa_cons (pv 0) (pa_cons pe_int pa_nil))) (fun _ _ => rfl)) pa_nil)) (pg_name (i := 2) sc_L_chart.nd rfl (Or.inl rfl)) (pss_cons (ps_set (i := 7) sc_L_chart.nd rfl (Or.inl rfl) (pe_fn G_L_draw hr rfl (pa_cons (pv 0) (pa_cons (pv 1) pa_nil))))
      (pss_cons (ps_set (i := 8) sc_L_chart.nd rfl (Or.inl rfl) (pe_fn G_L_draw hr rfl (pa_cons (pv 0) (pa_cons (pv 1) pa_nil))))
      (pss_one (ps_if (PW.pt (pw_or (PW.pt (pw_and (pt_cmpR op_eq (pv 6) pe_int (nomark _)) (pw_and1 (pt_cmpR op_lt (pv 7) (pv 8) (nomark _))))) (pw_or1 (pt_cmpR op_gt (pv 6) pe_int (nomark _))))) (pss_one (ps_expr (kApp K (pv 5) (pe_tup (pa_cons (pe_ix (kIx K) (pv 3) (pv 7) (fun _ _ => rfl)) (pa_cons (pe_ix (kIx K) (pv 3) (pv 8) (fun _ _ => rfl)) pa_nil)))))) (pss_one (ps_if (pt_cmpR op_ne (pv 7) (pv 8) (nomark _)) (pss_one (ps_expr (kApp K (pv 5) (pe_tup (pa_cons (pe_ix (kIx K) (pv 3) (pv 8) (fun _ _ => rfl)) (pa_cons (pe_ix (kIx K) (pv 3) (pv 7) (fun _ _ => rfl)) pa_nil)))))) (pss_one (ps_if (kTru K (pv 5)) (pss_one (ps_expr (kApp K (pv 5) (pe_ix (kIx K) (pv 5) pe_int (fun _ _ => rfl))))) pss_nil)))))))))
      (pss_cons (ps_setLc (i := 9) (own := [("_law_k", 2)]) rfl sc_L_chart.nd rfl rfl (sw_true rfl rfl rfl (by decide +kernel)) (kSeq K (pe_fn G_L_order hr rfl (pa_cons (pv 0) (pa_cons (pe_callB (kLen K) rfl T.z_len bt_len (pa_cons (pv 5) pa_nil)) pa_nil)))) (blkOk_by (own := [("_law_k", 2)]) (N := ["_law_hand_here", "_law_many", "_law_k", "_law_names", "_law_small", "_law_pairs", "_law_way", "_law_one_here", "_law_two", "_law_arrows"]) (sc := defScope s_L_chart) (by decide +kernel)) (fun _ _ _ _ _ => (pg_name (i := 2) sc_L_chart.nd rfl (by first | exact Or.inl rfl | exact Or.inr rfl))) (fun _ _ _ _ _ => pts_nil) (fun _ _ _ _ _ => (pe_ix (kIx K) (pv 5) (pv 2) (fun _ _ => rfl))))
      (pss_one (ps_ret (pe_lst (pa_cons (pe_callTy (kTup K) rfl T.z_tuple bt_tuple (pa_cons (pe_lc (own := [("_law_k", 2)]) rfl sc_L_chart.nd (pi_range1 rfl T.z_range (pa_cons (pv 1) pa_nil)) (blkOk_by (own := [("_law_k", 2)]) (N := ["_law_hand_here", "_law_many", "_law_k", "_law_names", "_law_small", "_law_pairs", "_law_way", "_law_one_here", "_law_two", "_law_arrows"]) (sc := defScope s_L_chart) (by decide +kernel)) (fun _ _ _ _ _ => (pg_name (i := 2) sc_L_chart.nd rfl (by first | exact Or.inl rfl | exact Or.inr rfl))) (fun _ _ _ _ _ => pts_nil) (fun _ _ _ _ _ => (pe_fn G_L_cost hr rfl (pa_cons (pv 0) (pa_cons (pv 4) pa_nil))))) pa_nil)) (pa_cons (pe_callTy (kTup K) rfl T.z_tuple bt_tuple (pa_cons (pv 9) pa_nil)) pa_nil)))))))))))))), ?_⟩
    show (_ : TS) { nx := fun _ H' => Q .non H', rt := Q } ([some (.ref h), none, none, none, none, none, none, none, none, none] : L2.St) H
    walk_at "go"
    refine ⟨by show 8 ≤ sizeLine; decide, fun p np => ?_⟩
    have eP : Same H (upd H p (.lst ([2, 3, 4, 3, 4, 5, 6, 9].map V.int))) := Same.new np
    walk_at "go"
    refine ⟨h, cl, 8, rfl, hh.same eP, by omega, by omega, fun r1 H1 e1 hh1 r10 r11 => ?_⟩
    have g1 : SqA K H1 p ([2, 3, 4, 3, 4, 5, 6, 9].map V.int) := .lst (e1.at (hh.ne np).1 upd_same)
    obtain ⟨c0, hc0, hat⟩ := atI_pick (l := [2, 3, 4, 3, 4, 5, 6, 9]) r10 (by simpa using r11)
    walk_at "go"
    have e01 : Ek h H H1 := (Ek.of eP).trans e1
    have c0b : 2 ≤ c0 ∧ c0 ≤ 9 := by simp at hc0; omega
    clear g1 hat hc0
    refine ⟨h, cl, 20, rfl, hh1, by omega, by omega, fun r2 H2 e2 hh2 r20 r21 => ?_⟩
    have e02 := e01.trans e2
    walk_at "go"
    refine d2set (wv := .int c0) rfl fun u hu => ?_
    obtain ⟨n, rfl, n1, n9⟩ : ∃ n : Nat, u = vN n ∧ 1 ≤ n ∧ n ≤ 9 := by
      rcases hu with ⟨_, rfl⟩ | ⟨_, rfl⟩
      · exact ⟨1, rfl, by omega, by omega⟩
      · exact ⟨c0.toNat, by show V.int c0 = V.int _; congr 1; omega, by omega, by omega⟩
    clear hu e01 hh1 e1
    dsimp only [List.set]
    walk_at "go"
    refine ⟨by show 1 ≤ sizeLine; decide, fun z nz => ?_⟩
    have e3 : Same H2 (upd H2 z (.lst [.int 0])) := Same.new nz
    have hz3 : (upd H2 z (.lst [.int 0])) z = some (.lst [.int 0]) := upd_same
    have hh3 := hh2.same e3
    have e03 : Ek h H (upd H2 z (.lst [.int 0])) := e02.and e3
    have nzh := hh2.ne nz
    clear e2 e02
    generalize upd H2 z (.lst [.int 0]) = H3 at *
    walk_at "go"
    refine l_seq ?_
    walk_at "go"
    have eN : (n : Int) - 1 = ((n - 1 : Nat) : Int) := by omega
    rw [eN]
    refine ⟨h, cl, n - 1, rfl, hh3, by omega, fun oa os H4 noa e4 hh4 hoa hper => ?_⟩
    have hz4 := e4.at nzh.1 hz3
    refine ovL (.of hoa) (lp walk_list (fun Hx e => .of (e _ _ hoa)) (fun k acc => acc = ((os.take k).map fun x => 1 + x).map vN) rfl ?_ ?_)
    · rintro D i x acc H5 H5' nD hi hla hD e5 hR ⟨rfl, hx⟩
      rw [List.length_map] at hi
      obtain ⟨y, hy⟩ := getElem_some hi
      rw [List.getElem?_map, hy] at hx
      cases hx
      walk_at "go"
      refine ⟨rfl, ?_⟩
      walk_at "go"
      have hol : os.length = n - 1 := by rw [hper.length_eq, List.length_range]
      refine Lp.add nD hD e5 (Same.refl _) hla ?_ (by omega)
      rw [hR, List.take_add_one, hy]
      simp
    · intro D acc H5 nD e5 hD hla hR
      walk_at "go"
      have hol : os.length = n - 1 := by rw [hper.length_eq, List.length_range]
      rw [List.length_map, List.take_length] at hR
      subst hR
      refine c_cat (e5 _ _ hz4) hD (by simp; omega) fun N nN => ?_
      -- the names
      obtain ⟨nm, enm⟩ : ∃ nm : List Nat, nm = 0 :: os.map fun x => 1 + x := ⟨_, rfl⟩
      have eV : ([V.int 0] ++ (os.map fun x => 1 + x).map vN : List V) = nm.map vN := by rw [enm]; rfl
      rw [eV]
      have hnl : nm.length = n := by rw [enm, List.length_cons, List.length_map, hol]; omega
      have hn0 : nm[0]? = some 0 := by rw [enm]; rfl
      have hnlt : ∀ x ∈ nm, x < n := fun x hx => by
        rw [enm] at hx
        rcases List.mem_cons.mp hx with z | z
        · omega
        · obtain ⟨y, hy, rfl⟩ := List.mem_map.mp z
          have := List.mem_range.mp (hper.mem_iff.mp hy)
          omega
      have hnall : ∀ v, v < n → v ∈ nm := fun v hv => by
        rw [enm]
        by_cases h0 : v = 0
        · exact List.mem_cons.mpr (.inl h0)
        · exact List.mem_cons.mpr (.inr (List.mem_map.mpr ⟨v - 1, hper.mem_iff.mpr (List.mem_range.mpr (by omega)), by omega⟩))
      have e6 : Same H5 (upd H5 N (.lst (nm.map vN))) := Same.new nN
      have hN6 : (upd H5 N (.lst (nm.map vN))) N = some (.lst (nm.map vN)) := upd_same
      have hh6 := (hh4.same e5).same e6
      have e06 : Ek h H (upd H5 N (.lst (nm.map vN))) := (e03.trans e4).and (e5.trans e6)
      have nNh := (hh4.same e5).ne nN
      clear hz4 hz3 hoa enm eV hD e5
      generalize upd H5 N (.lst (nm.map vN)) = H6 at *
      walk_at "go"
      refine ⟨h, cl, 2, rfl, hh6, by omega, by omega, fun r7 H7 e7 hh7 r70 r71 => ?_⟩
      walk_at "go"
      generalize decide (r7 = 0) = small
      have hN7 := e7.at nNh.1 hN6
      have e07 := e06.trans e7
      refine ⟨Nat.zero_le _, fun Pa nPa => ?_⟩
      have e8 : Same H7 (upd H7 Pa (.lst [])) := Same.new nPa
      have nNP : N ≠ Pa := fun z => by rw [z, nPa] at hN7; cases hN7
      have nPh := hh7.ne nPa
      have nP0 : H Pa = none := by
        cases hx : H Pa with
        | none => rfl
        | some o =>
          rw [e07.at nPh.1 hx] at nPa
          cases nPa
      have pi8 : PI K H h cl N Pa nm [] (upd H7 Pa (.lst [])) := ⟨e07.and e8, hh7.same e8, e8 _ _ hN7, [], upd_same, .nil⟩
      clear hN7 hN6 e6 e03 hh6 hh7 e07 e06
      generalize upd H7 Pa (.lst []) = H8 at *
      walk_at "go"
      refine c_seq (f_r2 ?_)
      walk_at "go"
      refine ovR2 (by omega) ?_
      rw [show ((n : Int) - 1).toNat = n - 1 by omega]
      refine fo walk_range (fun i σ' H' => ∃ (ps : List (Nat × Nat)) (o2 o6 o7 o8 o9 : Option V), σ' = [some (.ref h), some (vN n), o2, some (.ref N), some (.bl small), some (.ref Pa), o6, o7, o8, o9] ∧ PI K H h cl N Pa nm ps H' ∧ ps.length = i ∧ (∀ p ∈ ps, p.1 < n ∧ p.2 < n) ∧ ∀ j b, 1 ≤ j → j ≤ i → nm[j]? = some b → ∃ t a : Nat, t < j ∧ nm[t]? = some a ∧ (a, b) ∈ ps) ⟨[], _, _, _, _, _, rfl, pi8, rfl, (fun p hp => by cases hp), fun j b h1 h2 => by omega⟩ (fun _ _ _ _ _ => trivial) ?_ ?_
      · rintro i x σ' H9 H9' hi ⟨ps, o2, o6, o7, o8, o9, rfl, pi9, hpl, hpr, hpt⟩ ⟨rfl, rfl⟩
        have eI : (1 : Int) + (i : Int) = ((i + 1 : Nat) : Int) := by omega
        show gName 2 (.int (1 + (i : Nat))) _ _ _
        rw [eI]
        obtain ⟨_, hh9, hN9, xs9, hP9, hd9⟩ := id pi9
        walk_at "go"
        refine ⟨h, cl, 3, rfl, hh9, by omega, by omega, fun ra H10 e10 hh10 ra0 ra1 => ?_⟩
        have pi10 := pi9.ek nNh.1 nPh.1 e10 hh10
        walk_at "go"
        refine d2 (fun hra => ?_) fun hra => ?_
        · walk_at "go"
          obtain ⟨_, hhX, hNX, xsX, hPX, hdX⟩ := id (pi10)
          have gN : SqA K H10 N (nm.map vN) := .lst hNX
          obtain ⟨va, hva⟩ := getElem_some (l := nm) (k := i) (by omega)
          obtain ⟨vb, hvb⟩ := getElem_some (l := nm) (k := i + 1) (by omega)
          have htl : i < i + 1 := by omega
          have at2 : atI (nm.map vN) ((i + 1 : Nat) : Int) = some (vN vb) := atI_map hvb
          have at1 : atI (nm.map vN) (((i + 1 : Nat) : Int) - 1) = some (vN va) := by rw [show ((i + 1 : Nat) : Int) - 1 = (i : Int) by omega]; exact atI_map hva
          walk_at "go"
          refine ⟨by show 2 ≤ sizeLine; decide, fun TT nTT => ?_⟩
          have piT := PI.same (pi10) (Same.new (o := .tup [vN va, vN vb]) nTT)
          obtain ⟨_, _, _, xsT, hPT, hdT⟩ := id piT
          have hxl : xsT.length = ps.length := by rw [hdT.len, List.length_map]
          walk_at "go"
          refine c_app hPT (by omega) ?_
          have piA := piT.add hh nP0 nNP hPT (.of upd_same)
          exact ⟨ps ++ [(va, vb)], _, _, _, _, _, rfl, piA, by simp [hpl], fun p hp => by
            rcases List.mem_append.mp hp with z | z
            · exact hpr p z
            · rw [List.mem_singleton.mp z]
              exact ⟨hnlt va (List.mem_of_getElem? hva), hnlt vb (List.mem_of_getElem? hvb)⟩, fun j b h1 h2 h3 => by
            by_cases hj : j ≤ i
            · obtain ⟨t, a, q1, q2, q3⟩ := hpt j b h1 hj h3
              exact ⟨t, a, q1, q2, List.mem_append_left _ q3⟩
            · have ej : j = i + 1 := by omega
              subst ej
              rw [hvb] at h3
              cases h3
              exact ⟨_, va, htl, hva, by simp⟩⟩

        · walk_at "go"
          refine ⟨h, cl, _, rfl, hh10, by omega, by omega, fun rb H11 e11 hh11 rb0 rb1 => ?_⟩
          have pi11 := pi10.ek nNh.1 nPh.1 e11 hh11
          obtain ⟨tb, rfl⟩ : ∃ tb : Nat, rb = (tb : Int) := ⟨rb.toNat, by omega⟩
          obtain ⟨_, hhX, hNX, xsX, hPX, hdX⟩ := id (pi11)
          have gN : SqA K H11 N (nm.map vN) := .lst hNX
          obtain ⟨va, hva⟩ := getElem_some (l := nm) (k := tb) (by omega)
          obtain ⟨vb, hvb⟩ := getElem_some (l := nm) (k := i + 1) (by omega)
          have htl : tb < i + 1 := by omega
          have at2 : atI (nm.map vN) ((i + 1 : Nat) : Int) = some (vN vb) := atI_map hvb
          have at1 : atI (nm.map vN) (tb : Int) = some (vN va) := atI_map hva
          walk_at "go"
          refine ⟨by show 2 ≤ sizeLine; decide, fun TT nTT => ?_⟩
          have piT := PI.same (pi11) (Same.new (o := .tup [vN va, vN vb]) nTT)
          obtain ⟨_, _, _, xsT, hPT, hdT⟩ := id piT
          have hxl : xsT.length = ps.length := by rw [hdT.len, List.length_map]
          walk_at "go"
          refine c_app hPT (by omega) ?_
          have piA := piT.add hh nP0 nNP hPT (.of upd_same)
          exact ⟨ps ++ [(va, vb)], _, _, _, _, _, rfl, piA, by simp [hpl], fun p hp => by
            rcases List.mem_append.mp hp with z | z
            · exact hpr p z
            · rw [List.mem_singleton.mp z]
              exact ⟨hnlt va (List.mem_of_getElem? hva), hnlt vb (List.mem_of_getElem? hvb)⟩, fun j b h1 h2 h3 => by
            by_cases hj : j ≤ i
            · obtain ⟨t, a, q1, q2, q3⟩ := hpt j b h1 hj h3
              exact ⟨t, a, q1, q2, List.mem_append_left _ q3⟩
            · have ej : j = i + 1 := by omega
              subst ej
              rw [hvb] at h3
              cases h3
              exact ⟨_, va, htl, hva, by simp⟩⟩

      · rintro σ' H9 ⟨ps0, o2, o6, o7, o8, o9, rfl, pi9, hpl0, hpr0, hpt0⟩
        dsimp only
        obtain ⟨_, hh9, _⟩ := id pi9
        walk_at "go"
        refine ⟨h, cl, 4, rfl, hh9, by omega, by omega, fun way H10 e10 hh10 w0 w1 => ?_⟩
        have pi10 := pi9.ek nNh.1 nPh.1 e10 hh10
        clear pi8 hh9 pi9 e10
        walk_at "go"
        refine c_seq (f_r1 ?_)
        walk_at "go"
        refine ⟨by show 8 ≤ sizeLine; decide, fun p2 np2 => ?_⟩
        have eP2 : Same H10 (upd H10 p2 (.lst ([0, 1, 2, 3, 4, 4, 5, 5].map V.int))) := Same.new np2
        walk_at "go"
        refine ⟨h, cl, 8, rfl, hh10.same eP2, by omega, by omega, fun r11 H11 e11 hh11 r110 r111 => ?_⟩
        have g1 : SqA K H11 p2 ([0, 1, 2, 3, 4, 4, 5, 5].map V.int) := .lst (e11.at (hh10.ne np2).1 upd_same)
        obtain ⟨c1, hc1, hat1⟩ := atI_pick (l := [0, 1, 2, 3, 4, 4, 5, 5]) r110 (by simpa using r111)
        have c1b : 0 ≤ c1 ∧ c1 ≤ 5 := by simp at hc1; omega
        have pi11 := (pi10.same eP2).ek nNh.1 nPh.1 e11 hh11
        walk_at "go"
        refine ovR1 (by omega) ?_
        clear g1 hat1 hc1 e11 hh10 pi10 eP2
        refine fo walk_range (fun i σ' H' => ∃ (ps : List (Nat × Nat)) (o2 o7 o8 o9 : Option V), σ' = [some (.ref h), some (vN n), o2, some (.ref N), some (.bl small), some (.ref Pa), some (.int way), o7, o8, o9] ∧ PI K H h cl N Pa nm ps H' ∧ ps.length ≤ n - 1 + i ∧ (∀ p ∈ ps, p.1 < n ∧ p.2 < n) ∧ ∀ p ∈ ps0, p ∈ ps) ⟨ps0, _, _, _, _, rfl, pi11, by omega, hpr0, fun p hp => hp⟩ (fun _ _ _ _ _ => trivial) ?_ ?_
        · rintro i x σ' H12 H12' hi ⟨ps, o2, o7, o8, o9, rfl, pi12, hpl, hpr, hsub⟩ ⟨rfl, rfl⟩
          simp only [Int.zero_add]
          obtain ⟨_, hh12, _⟩ := id pi12
          walk_at "go"
          refine ⟨h, cl, n, rfl, hh12, by omega, by omega, fun ra H13 e13 hh13 ra0 ra1 => ?_⟩
          have pi13 := pi12.ek nNh.1 nPh.1 e13 hh13
          walk_at "go"
          refine ⟨h, cl, n, rfl, hh13, by omega, by omega, fun rb H14 e14 hh14 rb0 rb1 => ?_⟩
          have pi14 := pi13.ek nNh.1 nPh.1 e14 hh14
          obtain ⟨ta, rfl⟩ : ∃ tb : Nat, ra = (tb : Int) := ⟨ra.toNat, by omega⟩
          obtain ⟨tb, rfl⟩ : ∃ tb : Nat, rb = (tb : Int) := ⟨rb.toNat, by omega⟩
          obtain ⟨xa, hxa⟩ := getElem_some (l := nm) (k := ta) (by omega)
          obtain ⟨xb, hxb⟩ := getElem_some (l := nm) (k := tb) (by omega)
          have ata : atI (nm.map vN) (ta : Int) = some (vN xa) := atI_map hxa
          have atb : atI (nm.map vN) (tb : Int) = some (vN xb) := atI_map hxb
          have rga := hnlt xa (List.mem_of_getElem? hxa)
          have rgb := hnlt xb (List.mem_of_getElem? hxb)
          walk_at "go"
          refine d2 (fun hw => ?_) fun hw => ?_
          · walk_at "go"
            refine d2 (fun hw2 => ?_) fun hw2 => ?_
            · walk_at "go"
              obtain ⟨_, hhX, hNX, xsX, hPX, hdX⟩ := id (pi14)
              have gN : SqA K H14 N (nm.map vN) := .lst hNX
              walk_at "go"
              refine ⟨by show 2 ≤ sizeLine; decide, fun TT nTT => ?_⟩
              have piT := PI.same (pi14) (Same.new (o := .tup [vN xa, vN xb]) nTT)
              obtain ⟨_, _, _, xsT, hPT, hdT⟩ := id piT
              have hxl : xsT.length = ps.length := by rw [hdT.len, List.length_map]
              walk_at "go"
              refine c_app hPT (by omega) ?_
              have piA := piT.add hh nP0 nNP hPT (.of upd_same)
              exact ⟨ps ++ [(xa, xb)], _, _, _, _, rfl, piA, by rw [List.length_append, List.length_singleton]; omega, fun p hp => by
                rcases List.mem_append.mp hp with z | z
                · exact hpr p z
                · rw [List.mem_singleton.mp z]
                  exact ⟨rga, rgb⟩, fun p hp => List.mem_append_left _ (hsub p hp)⟩

            · walk_at "go"
              refine d2 (fun hw3 => ?_) fun hw3 => ?_
              · walk_at "go"
                obtain ⟨_, hhX, hNX, xsX, hPX, hdX⟩ := id (pi14)
                have gN : SqA K H14 N (nm.map vN) := .lst hNX
                walk_at "go"
                refine ⟨by show 2 ≤ sizeLine; decide, fun TT nTT => ?_⟩
                have piT := PI.same (pi14) (Same.new (o := .tup [vN xa, vN xb]) nTT)
                obtain ⟨_, _, _, xsT, hPT, hdT⟩ := id piT
                have hxl : xsT.length = ps.length := by rw [hdT.len, List.length_map]
                walk_at "go"
                refine c_app hPT (by omega) ?_
                have piA := piT.add hh nP0 nNP hPT (.of upd_same)
                exact ⟨ps ++ [(xa, xb)], _, _, _, _, rfl, piA, by rw [List.length_append, List.length_singleton]; omega, fun p hp => by
                  rcases List.mem_append.mp hp with z | z
                  · exact hpr p z
                  · rw [List.mem_singleton.mp z]
                    exact ⟨rga, rgb⟩, fun p hp => List.mem_append_left _ (hsub p hp)⟩

              · walk_at "go"
                refine dn2 (fun hne => ?_) fun hne => ?_
                · walk_at "go"
                  obtain ⟨_, hhX, hNX, xsX, hPX, hdX⟩ := id (pi14)
                  have gN : SqA K H14 N (nm.map vN) := .lst hNX
                  walk_at "go"
                  refine ⟨by show 2 ≤ sizeLine; decide, fun TT nTT => ?_⟩
                  have piT := PI.same (pi14) (Same.new (o := .tup [vN xb, vN xa]) nTT)
                  obtain ⟨_, _, _, xsT, hPT, hdT⟩ := id piT
                  have hxl : xsT.length = ps.length := by rw [hdT.len, List.length_map]
                  walk_at "go"
                  refine c_app hPT (by omega) ?_
                  have piA := piT.add hh nP0 nNP hPT (.of upd_same)
                  exact ⟨ps ++ [(xb, xa)], _, _, _, _, rfl, piA, by rw [List.length_append, List.length_singleton]; omega, fun p hp => by
                    rcases List.mem_append.mp hp with z | z
                    · exact hpr p z
                    · rw [List.mem_singleton.mp z]
                      exact ⟨rgb, rga⟩, fun p hp => List.mem_append_left _ (hsub p hp)⟩

                · walk_at "go"
                  obtain ⟨_, hhX, hNX, xsX, hPX, hdX⟩ := id pi14
                  have hxl : xsX.length = ps.length := by rw [hdX.len, List.length_map]
                  refine trL (.of hPX) ?_
                  refine b2 (fun hb => ?_) fun hb => ?_
                  · obtain ⟨y, hy⟩ := getElem_some (l := xsX) (k := 0) (by cases xsX with | nil => cases hb | cons y ys => simp)
                    obtain ⟨pr, aa, hpr0, rfl, g3, g4⟩ := arrow_parts hdX hy
                    have gP : SqA K H14 Pa xsX := .lst hPX
                    have at0 : atI xsX 0 = some (V.ref aa) := atI_nat (j := 0) hy
                    walk_at "go"
                    refine c_app hPX (by omega) ?_
                    have piA := pi14.add hh nP0 nNP hPX g4
                    exact ⟨ps ++ [pr], _, _, _, _, rfl, piA, by rw [List.length_append, List.length_singleton]; omega, fun p hp => by
                      rcases List.mem_append.mp hp with z | z
                      · exact hpr p z
                      · rw [List.mem_singleton.mp z]
                        exact hpr pr (List.mem_of_getElem? hpr0), fun p hp => List.mem_append_left _ (hsub p hp)⟩
                  · walk_at "go"
                    exact ⟨ps, _, _, _, _, rfl, pi14, by omega, hpr, hsub⟩

          · walk_at "go"
            refine d2 (fun hw3 => ?_) fun hw3 => ?_
            · walk_at "go"
              obtain ⟨_, hhX, hNX, xsX, hPX, hdX⟩ := id (pi14)
              have gN : SqA K H14 N (nm.map vN) := .lst hNX
              walk_at "go"
              refine ⟨by show 2 ≤ sizeLine; decide, fun TT nTT => ?_⟩
              have piT := PI.same (pi14) (Same.new (o := .tup [vN xa, vN xb]) nTT)
              obtain ⟨_, _, _, xsT, hPT, hdT⟩ := id piT
              have hxl : xsT.length = ps.length := by rw [hdT.len, List.length_map]
              walk_at "go"
              refine c_app hPT (by omega) ?_
              have piA := piT.add hh nP0 nNP hPT (.of upd_same)
              exact ⟨ps ++ [(xa, xb)], _, _, _, _, rfl, piA, by rw [List.length_append, List.length_singleton]; omega, fun p hp => by
                rcases List.mem_append.mp hp with z | z
                · exact hpr p z
                · rw [List.mem_singleton.mp z]
                  exact ⟨rga, rgb⟩, fun p hp => List.mem_append_left _ (hsub p hp)⟩

            · walk_at "go"
              refine dn2 (fun hne => ?_) fun hne => ?_
              · walk_at "go"
                obtain ⟨_, hhX, hNX, xsX, hPX, hdX⟩ := id (pi14)
                have gN : SqA K H14 N (nm.map vN) := .lst hNX
                walk_at "go"
                refine ⟨by show 2 ≤ sizeLine; decide, fun TT nTT => ?_⟩
                have piT := PI.same (pi14) (Same.new (o := .tup [vN xb, vN xa]) nTT)
                obtain ⟨_, _, _, xsT, hPT, hdT⟩ := id piT
                have hxl : xsT.length = ps.length := by rw [hdT.len, List.length_map]
                walk_at "go"
                refine c_app hPT (by omega) ?_
                have piA := piT.add hh nP0 nNP hPT (.of upd_same)
                exact ⟨ps ++ [(xb, xa)], _, _, _, _, rfl, piA, by rw [List.length_append, List.length_singleton]; omega, fun p hp => by
                  rcases List.mem_append.mp hp with z | z
                  · exact hpr p z
                  · rw [List.mem_singleton.mp z]
                    exact ⟨rgb, rga⟩, fun p hp => List.mem_append_left _ (hsub p hp)⟩

              · walk_at "go"
                obtain ⟨_, hhX, hNX, xsX, hPX, hdX⟩ := id pi14
                have hxl : xsX.length = ps.length := by rw [hdX.len, List.length_map]
                refine trL (.of hPX) ?_
                refine b2 (fun hb => ?_) fun hb => ?_
                · obtain ⟨y, hy⟩ := getElem_some (l := xsX) (k := 0) (by cases xsX with | nil => cases hb | cons y ys => simp)
                  obtain ⟨pr, aa, hpr0, rfl, g3, g4⟩ := arrow_parts hdX hy
                  have gP : SqA K H14 Pa xsX := .lst hPX
                  have at0 : atI xsX 0 = some (V.ref aa) := atI_nat (j := 0) hy
                  walk_at "go"
                  refine c_app hPX (by omega) ?_
                  have piA := pi14.add hh nP0 nNP hPX g4
                  exact ⟨ps ++ [pr], _, _, _, _, rfl, piA, by rw [List.length_append, List.length_singleton]; omega, fun p hp => by
                    rcases List.mem_append.mp hp with z | z
                    · exact hpr p z
                    · rw [List.mem_singleton.mp z]
                      exact hpr pr (List.mem_of_getElem? hpr0), fun p hp => List.mem_append_left _ (hsub p hp)⟩
                · walk_at "go"
                  exact ⟨ps, _, _, _, _, rfl, pi14, by omega, hpr, hsub⟩

        · rintro σ' H12 ⟨ps, o2, o7, o8, o9, rfl, pi12, hpl, hpr, hsub⟩
          dsimp only
          obtain ⟨eH, hh12, hN12, xs12, hP12, hd12⟩ := id pi12
          have hxl : xs12.length = ps.length := by rw [hd12.len, List.length_map]
          walk_at "go"
          refine l_seq ?_
          walk_at "go"
          refine c_len (.lst hP12) ?_
          walk_at "go"
          rw [hxl]
          refine ⟨h, cl, ps.length, rfl, hh12, by omega, fun ob os2 H13 nob e13 hh13 hob hper2 => ?_⟩
          have pi13 := pi12.ek nNh.1 nPh.1 e13 hh13
          obtain ⟨_, _, hN13, xs13, hP13, hd13⟩ := id pi13
          have hxl13 : xs13.length = ps.length := by rw [hd13.len, List.length_map]
          have hol2 : os2.length = ps.length := by rw [hper2.length_eq, List.length_range]
          have hosl : ∀ x ∈ os2, x < ps.length := fun x hx => List.mem_range.mp (hper2.mem_iff.mp hx)
          refine ovL (.of hob) (lp walk_list (fun Hx e => .of (e _ _ hob)) (fun k acc => acc = (os2.take k).map fun x => xs13[x]?.getD .non) rfl ?_ ?_)
          · rintro D i x acc H14 H14' nD hi hla hD e14 hR ⟨rfl, hx⟩
            rw [List.length_map] at hi
            obtain ⟨y, hy⟩ := getElem_some hi
            rw [List.getElem?_map, hy] at hx
            cases hx
            obtain ⟨v, hv⟩ := getElem_some (l := xs13) (k := y) (by have := hosl y (List.mem_of_getElem? hy); omega)
            have gP : SqA K H14' Pa xs13 := .lst (e14 _ _ hP13)
            have aty : atI xs13 (y : Int) = some v := atI_nat hv
            walk_at "go"
            refine ⟨rfl, ?_⟩
            walk_at "go"
            refine Lp.add nD hD e14 (Same.refl _) hla ?_ (by omega)
            rw [hR, List.take_add_one, hy]
            simp [hv]
          · intro D acc H14 nD e14 hD hla hR
            rw [List.length_map, List.take_length] at hR
            walk_at "go"
            -- arrows: D; ar
            obtain ⟨ar, ear⟩ : ∃ ar : List (Nat × Nat), ar = os2.map fun x => ps[x]?.getD (0, 0) := ⟨_, rfl⟩
            have hdA : DpAll K H14 acc (ar.map arD) := by
              rw [hR, ear]
              have : ∀ l : List Nat, (∀ x ∈ l, x < ps.length) → DpAll K H14 (l.map fun x => xs13[x]?.getD .non) ((l.map fun x => ps[x]?.getD (0, 0)).map arD) := by
                intro l
                induction l with
                | nil => intro _; exact .nil
                | cons x l ih =>
                  intro hl
                  obtain ⟨pr, hpr0⟩ := getElem_some (hl x List.mem_cons_self)
                  obtain ⟨v, g1, g2⟩ := (Tk.ar (Same.tk e14) hd13).get (i := x) (d := arD pr) (by rw [List.getElem?_map, hpr0]; rfl)
                  simp only [List.map_cons]
                  refine .cons ?_ (ih fun y hy => hl y (List.mem_cons_of_mem _ hy))
                  rw [g1, hpr0]
                  exact g2
              exact this os2 hosl
            have hps : ∀ p ∈ ps, p ∈ ar := fun p hp => by
              obtain ⟨k, hk⟩ := List.getElem?_of_mem hp
              rw [ear]
              refine List.mem_map.mpr ⟨k, hper2.mem_iff.mpr (List.mem_range.mpr (List.getElem?_eq_some_iff.mp hk).1), ?_⟩
              rw [hk]
              rfl
            have har : ∀ p ∈ ar, p.1 < n ∧ p.2 < n := fun p hp => by
              rw [ear] at hp
              obtain ⟨k, hk, rfl⟩ := List.mem_map.mp hp
              obtain ⟨pr, hpr0⟩ := getElem_some (hosl k hk)
              rw [hpr0]
              exact hpr pr (List.mem_of_getElem? hpr0)
            have harl : ar.length ≤ 13 := by rw [ear, List.length_map, hol2]; omega
            have hre : ∀ v, v < n → ∃ r, Wk ar 0 0 r v := fun v hv => by
              obtain ⟨k, hk⟩ := List.getElem?_of_mem (hnall v hv)
              refine reach_tree (n := n) hn0 (fun j b h1 h2 => ?_) k k v (Nat.le_refl _) hk
              have hjn := (List.getElem?_eq_some_iff.mp h2).1
              obtain ⟨t, a, q1, q2, q3⟩ := hpt0 j b h1 (by omega) h2
              exact ⟨t, a, q1, q2, hps _ (hsub _ q3)⟩
            have e014 : Ek h H H14 := (eH.trans e13).and e14
            have hh14 : HandAt H14 h cl := hh13.same e14
            have nDh := hh13.ne nD
            clear hd13 hR hla hob hN13 hP13 pi13 pi12 hd12 hP12 hN12
            walk_at "go"
            refine l_r1 ?_
            walk_at "go"
            refine ovR1 (by omega) ?_
            have en : ((n : Nat) : Int).toNat = n := by omega
            rw [en]
            refine lph walk_range hh14 (fun _ _ => trivial) (fun k ac => ∃ cs : List Int, ac = cs.map V.int ∧ cs.length = k ∧ CostsOk cs) ⟨[], rfl, rfl, fun c hc => by cases hc⟩ ?_ ?_
            · rintro D2 j x ac H15 H15' nD2 hj hla hD2 e15 hh15 ⟨cs, rfl, hcl, hcs⟩ ⟨rfl, rfl⟩
              walk_at "go"
              refine ⟨rfl, ?_⟩
              walk_at "go"
              refine ⟨h, cl, small, rfl, hh15, fun c H16 e16 hh16 c0 c1 => ?_⟩
              refine Lh.add hh14 nD2 hD2 e15 e16 hh16 hla ⟨cs ++ [c], by simp, by simp [hcl], fun y hy => ?_⟩ (by omega)
              rcases List.mem_append.mp hy with z | z
              · exact hcs y z
              · rw [List.mem_singleton.mp z]
                exact ⟨c0, c1⟩
            · rintro D2 ac H15 nD2 e15 hh15 hD2 hla ⟨cs, rfl, hcl, hcs⟩
              walk_at "go"
              refine ⟨D2, _, rfl, .inl ⟨.of hD2, fun l nl => ?_⟩⟩
              have e16 : Same H15 (upd H15 l (.tup (cs.map V.int))) := Same.new nl
              have hl16 : SqT K (upd H15 l (.tup (cs.map V.int))) l (cs.map V.int) := .of upd_same
              have hD16 := e16 _ _ (e15.at nDh.1 hD)
              have hh16 := hh15.same e16
              have hd16 := Tk.ar ((hh14.tk e15).trans (Same.tk e16)) hdA
              have e016 := (e014.trans e15).and e16
              generalize upd H15 l (.tup (cs.map V.int)) = H16 at *
              walk_at "go"
              refine ⟨D, acc, rfl, .inl ⟨.of hD16, fun l2 nl2 => ?_⟩⟩
              have e17 : Same H16 (upd H16 l2 (.tup acc)) := Same.new nl2
              have hl17 : SqT K (upd H16 l2 (.tup acc)) l2 acc := .of upd_same
              have hd17 := Tk.ar (Same.tk e17) hd16
              have hl17b := e17.tup hl16
              have e017 := e016.and e17
              have hh17 := hh16.same e17
              generalize upd H16 l2 (.tup acc) = H17 at *
              walk_at "go"
              refine ⟨by show 2 ≤ sizeLine; decide, fun x nx => ?_⟩
              have e18 : Same H17 (upd H17 x (.lst [.ref l, .ref l2])) := Same.new nx
              have nxh := hh17.ne nx
              refine q x cs ar _ ?_ (e017.and e18) (hh17.same e18) ⟨l, l2, acc, upd_same, e18.tup hl17b, e18.tup hl17, Tk.ar (Same.tk e18) hd17⟩ ⟨by omega, by omega, harl, hcs, by rw [hcl]; exact har, by rw [hcl]; exact hre⟩
              cases hx : H x with
              | none => rfl
              | some o =>
                rw [e017.at nxh.1 hx] at nx
                cases nx
end
end
section
/-! behind, inner, gain, sum. -/
section
variable {P : Program} {w : World} {K : PySem.W.Frag} {mg : Str → Option Value} {base : Heap}
theorem CD.mono {H H' : Hp} {x : Addr} {costs : List Int} {ar : List (Nat × Nat)} (h : CD K H x costs ar) (e : Same H H') : CD K H' x costs ar := by
  obtain ⟨tc, ta, xs, h1, h2, h3, h4⟩ := h
  exact ⟨tc, ta, xs, e _ _ h1, e.tup h2, e.tup h3, h4.mono e⟩
theorem flat_nats (ls : List Nat) : (ls.map vN).all flatV = true := by
  rw [List.all_map]
  exact List.all_eq_true.mpr fun x _ => rfl
theorem c_inL {l : Addr} {ls : List Nat} {k : Nat} {H : Hp} {Q : VK} (h : H l = some (.lst (ls.map vN))) (q : ∀ b, Q (.bl b) H) : rIn K false (vN k) (.ref l) H Q := ⟨l, _, rfl, .inl (.of h), rfl, flat_nats ls, q _⟩
theorem c_ninL {l : Addr} {ls : List Nat} {k : Nat} {H : Hp} {Q : VK} (h : H l = some (.lst (ls.map vN))) (q : ∀ b, Q (.bl b) H) : rIn K true (vN k) (.ref l) H Q := ⟨l, _, rfl, .inl (.of h), rfl, flat_nats ls, q _⟩
def spBehind (K : PySem.W.Frag) : Sp := fun vs H Q _ => ∃ (x : Addr) (costs : List Int) (ar : List (Nat × Nat)) (p : Nat), vs = [.ref x, vN p] ∧ CD K H x costs ar ∧ costs.length ≤ 16 ∧ ar.length ≤ 32 ∧ ∀ (a : Addr) (ls : List Nat) H', Same H H' → H a = none → H' a = some (.lst (ls.map vN)) → Q (.ref a) H'
theorem sc_L_behind : FnScope ["_law_chart_here", "_law_place", "_law_told_here", "_law_turn", "_law_arrow"] ["_law_chart_here", "_law_place"] (defScope s_L_behind) := ⟨rfl, rfl, rfl, by decide +kernel, rfl, by decide +kernel, by decide +kernel⟩
theorem ok_L_behind (T : Tx K mg) : Fn P w K mg base 1 "_law_behind" ["_law_chart_here", "_law_place"] (spBehind K) := by
  refine fn_mk (st := s_L_behind) T.f_L_behind T.g__law_behind sc_L_behind (fun _ _ _ _ _ _ us hl => match us, hl with | [_, _], _ => rfl) ?len (fun cdv A outer s H vs Q E hr h => ?body)
  case len => exact fun vs H Q E ⟨x, costs, ar, p, e, _⟩ => by rw [e]; rfl
  case body =>
    obtain ⟨x, costs, ar, p, rfl, hc, hn, hm, q⟩ := h
    refine ⟨_, (pss_cons (ps_set (i := 2) sc_L_behind.nd rfl (Or.inl rfl) (pe_lst pa_nil))
      (pss_cons (ps_for PassesOwn.never rfl (pi_range1 rfl T.z_range (pa_cons (pe_callB (kLen K) rfl T.z_len bt_len (pa_cons (pe_ix (kIx K) (pv 0) pe_int (fun _ _ => rfl)) pa_nil)) pa_nil)) (pg_name (i := 3) sc_L_behind.nd rfl (Or.inl rfl)) (pss_one (ps_for PassesOwn.never rfl (kSeq K (pe_ix (kIx K) (pv 0) pe_int (fun _ _ => rfl))) (pg_name (i := 4) sc_L_behind.nd rfl (Or.inl rfl)) (pss_one (ps_if (PW.pt (pw_and (PW.pt (pw_or (pt_cmpR op_eq (pe_ix (kIx K) (pv 4) pe_int (fun _ _ => rfl)) (pv 1) (nomark _)) (pw_or1 (pt_cmpR (kIn K) (pe_ix (kIx K) (pv 4) pe_int (fun _ _ => rfl)) (pv 2) (by rfl))))) (pw_and1 (pt_cmpR (kNotIn K) (pe_ix (kIx K) (pv 4) pe_int (fun _ _ => rfl)) (pv 2) (by rfl))))) (pss_one (ps_expr (kApp K (pv 2) (pe_ix (kIx K) (pv 4) pe_int (fun _ _ => rfl))))) pss_nil)))))
      (pss_one (ps_ret (pv 2))))), ?_⟩
    show (_ : TS) { nx := fun _ H' => Q .non H', rt := Q } ([some (.ref x), some (vN p), none, none, none] : L2.St) H
    walk_at "go"
    refine ⟨Nat.zero_le _, fun B nB => ?_⟩
    have e1 : Same H (upd H B (.lst [])) := Same.new nB
    have hB1 : (upd H B (.lst [])) B = some (.lst (([] : List Nat).map vN)) := upd_same
    generalize upd H B (.lst []) = H1 at *
    obtain ⟨tc, ta, xs, c1, c2, c3, c4⟩ := id (hc.mono e1)
    have g1 : SqA K H1 x [.ref tc, .ref ta] := .lst c1
    have a0 : atI ([.ref tc, .ref ta] : List V) 0 = some (.ref tc) := atI_nat (j := 0) rfl
    have a1 : atI ([.ref tc, .ref ta] : List V) 1 = some (.ref ta) := atI_nat (j := 1) rfl
    have hxl : xs.length = ar.length := by rw [c4.len, List.length_map]
    walk_at "go"
    refine c_seq (f_r1 ?_)
    walk_at "go"
    refine c_len (.inr c2) ?_
    walk_at "go"
    rw [List.length_map]
    refine ovR1 (by omega) ?_
    have en : ((costs.length : Nat) : Int).toNat = costs.length := by omega
    rw [en]
    clear g1
    refine fo walk_range (fun i σ' H' => ∃ (ls : List Nat) (o3 o4 : Option V), σ' = [some (.ref x), some (vN p), some (.ref B), o3, o4] ∧ Same H H' ∧ H' B = some (.lst (ls.map vN)) ∧ ls.length ≤ i * 32) ⟨[], _, _, rfl, e1, hB1, by simp⟩ (fun _ _ _ _ _ => trivial) ?_ ?_
    · rintro i y σ' H2 H2' hi ⟨ls, o3, o4, rfl, e2, hB, hl⟩ ⟨rfl, rfl⟩
      obtain ⟨tc, ta, xs, c1, c2, c3, c4⟩ := id (hc.mono e2)
      have g1 : SqA K H2' x [.ref tc, .ref ta] := .lst c1
      have a0 : atI ([.ref tc, .ref ta] : List V) 0 = some (.ref tc) := atI_nat (j := 0) rfl
      have a1 : atI ([.ref tc, .ref ta] : List V) 1 = some (.ref ta) := atI_nat (j := 1) rfl
      have hxl : xs.length = ar.length := by rw [c4.len, List.length_map]
      walk_at "go"
      refine f_seq ?_
      walk_at "go"
      obtain ⟨tc', ta', xs', c1', c2', c3', c4'⟩ := id hc
      have et : ta' = ta := by
        have z := e2 _ _ c1'
        rw [c1] at z
        cases z
        rfl
      subst et
      refine ovA (.inr c3') e2 fun J wJ => ?_
      have hxl' : xs'.length = ar.length := by rw [c4'.len, List.length_map]
      refine fo wJ (fun j σ' H' => ∃ (ls : List Nat) (o4 : Option V), σ' = [some (.ref x), some (vN p), some (.ref B), some (.int (0 + (i : Nat))), o4] ∧ Same H H' ∧ H' B = some (.lst (ls.map vN)) ∧ ls.length ≤ i * 32 + j) ⟨ls, _, rfl, e2, hB, hl⟩ (fun j σ' H' _ ⟨_, _, _, e, _⟩ => e) ?_ ?_
      · rintro j z σ' H3 H3' hj ⟨ls, o4, rfl, e3, hB3, hl3⟩ ⟨rfl, hz⟩
        obtain ⟨pr, aa, hpr, rfl, g3, g4⟩ := arrow_parts (c4'.mono e3) hz
        have g7 : atI ([vN pr.1, vN pr.2] : List V) 0 = some (vN pr.1) := atI_nat (j := 0) rfl
        have g8 : atI ([vN pr.1, vN pr.2] : List V) 1 = some (vN pr.2) := atI_nat (j := 1) rfl
        walk_at "go"
        have keep : ∃ (ls : List Nat) (o4 : Option V), ([some (.ref x), some (vN p), some (.ref B), some (.int (0 + (i : Nat))), some (.ref aa)] : L2.St) = [some (.ref x), some (vN p), some (.ref B), some (.int (0 + (i : Nat))), o4] ∧ Same H H3' ∧ H3' B = some (.lst (ls.map vN)) ∧ ls.length ≤ i * 32 + (j + 1) := ⟨ls, _, rfl, e3, hB3, by omega⟩
        have more : ∃ (ls' : List Nat) (o4 : Option V), ([some (.ref x), some (vN p), some (.ref B), some (.int (0 + (i : Nat))), some (.ref aa)] : L2.St) = [some (.ref x), some (vN p), some (.ref B), some (.int (0 + (i : Nat))), o4] ∧ Same H (upd H3' B (.lst (ls.map vN ++ [vN pr.2]))) ∧ (upd H3' B (.lst (ls.map vN ++ [vN pr.2]))) B = some (.lst (ls'.map vN)) ∧ ls'.length ≤ i * 32 + (j + 1) := ⟨ls ++ [pr.2], _, rfl, Same.mut e3 nB, by rw [upd_same]; simp, by simp; omega⟩
        have tail : ∀ b : Bool, True := fun _ => trivial
        refine d2 (fun h1 => ?_) fun h1 => ?_
        · walk_at "go"
          refine c_ninL hB3 fun b => ?_
          walk_at "go"
          cases b with
          | true =>
            walk_at "go"
            refine c_app hB3 (by rw [List.length_map]; omega) ?_
            exact more
          | false =>
            walk_at "go"
            exact keep
        · walk_at "go"
          refine c_inL hB3 fun b => ?_
          walk_at "go"
          cases b with
          | true =>
            walk_at "go"
            refine c_ninL hB3 fun b => ?_
            walk_at "go"
            cases b with
            | true =>
              walk_at "go"
              refine c_app hB3 (by rw [List.length_map]; omega) ?_
              exact more
            | false =>
              walk_at "go"
              exact keep
          | false =>
            walk_at "go"
            exact keep
      · rintro σ' H3 ⟨ls, o4, rfl, e3, hB3, hl3⟩
        exact ⟨ls, _, _, rfl, e3, hB3, by omega⟩
    · rintro σ' H2 ⟨ls, o3, o4, rfl, e2, hB, hl⟩
      dsimp only
      walk_at "go"
      exact q B ls _ e2 nB hB
def spInner (K : PySem.W.Frag) : Sp := fun vs H Q _ => ∃ (x : Addr) (costs : List Int) (ar : List (Nat × Nat)), vs = [.ref x] ∧ CD K H x costs ar ∧ costs.length ≤ 16 ∧ ar.length ≤ 32 ∧ (∀ p ∈ ar, p.1 < costs.length ∧ p.2 < costs.length) ∧ ∀ (a : Addr) (bs : List Bool) H', Same H H' → H a = none → H' a = some (.lst (bs.map V.bl)) → bs.length = ar.length → Q (.ref a) H'
theorem sc_L_inner : FnScope ["_law_chart_here", "_law_behind_here", "_law_place", "_law_arrow"] ["_law_chart_here"] (defScope s_L_inner) := ⟨rfl, rfl, rfl, by decide +kernel, rfl, by decide +kernel, by decide +kernel⟩
theorem ok_L_inner (T : Tx K mg) (G_L_behind : Fn P w K mg base 1 "_law_behind" ["_law_chart_here", "_law_place"] (spBehind K)) : Fn P w K mg base 2 "_law_inner" ["_law_chart_here"] (spInner K) := by
  refine fn_mk (st := s_L_inner) T.f_L_inner T.g__law_inner sc_L_inner (fun _ _ _ _ _ _ us hl => match us, hl with | [_], _ => rfl) ?len (fun cdv A outer s H vs Q E hr h => ?body)
  case len => exact fun vs H Q E ⟨x, costs, ar, e, _⟩ => by rw [e]; rfl
  case body =>
    obtain ⟨x, costs, ar, rfl, hc, hn, hm, har, q⟩ := h
    refine ⟨_, (pss_cons (ps_set (i := 1) sc_L_inner.nd rfl (Or.inr rfl) (pe_lc (own := [("_law_place", 2)]) rfl sc_L_inner.nd (pi_range1 rfl T.z_range (pa_cons (pe_callB (kLen K) rfl T.z_len bt_len (pa_cons (pe_ix (kIx K) (pv 0) pe_int (fun _ _ => rfl)) pa_nil)) pa_nil)) (blkOk_by (own := [("_law_place", 2)]) (N := ["_law_chart_here", "_law_behind_here", "_law_place", "_law_arrow"]) (sc := defScope s_L_inner) (by decide +kernel)) (fun _ _ _ _ _ => (pg_name (i := 2) sc_L_inner.nd rfl (by first | exact Or.inl rfl | exact Or.inr rfl))) (fun _ _ _ _ _ => pts_nil) (fun _ _ _ _ _ => (pe_fn G_L_behind hr rfl (pa_cons (pv 0) (pa_cons (pv 2) pa_nil))))))
      (pss_one (ps_ret (pe_lc (own := [("_law_arrow", 3)]) rfl sc_L_inner.nd (kSeq K (pe_ix (kIx K) (pv 0) pe_int (fun _ _ => rfl))) (blkOk_by (own := [("_law_arrow", 3)]) (N := ["_law_chart_here", "_law_behind_here", "_law_place", "_law_arrow"]) (sc := defScope s_L_inner) (by decide +kernel)) (fun _ _ _ _ _ => (pg_name (i := 3) sc_L_inner.nd rfl (by first | exact Or.inl rfl | exact Or.inr rfl))) (fun _ _ _ _ _ => pts_nil) (fun _ _ _ _ _ => (pe_cmpR (kIn K) (pe_ix (kIx K) (pv 3) pe_int (fun _ _ => rfl)) (pe_ix (kIx K) (pv 1) (pe_ix (kIx K) (pv 3) pe_int (fun _ _ => rfl)) (fun _ _ => rfl)) (by rfl))))))), ?_⟩
    show (_ : TS) { nx := fun _ H' => Q .non H', rt := Q } ([some (.ref x), none, none, none] : L2.St) H
    obtain ⟨tc, ta, xs, c1, c2, c3, c4⟩ := id hc
    have g1 : SqA K H x [.ref tc, .ref ta] := .lst c1
    have a0 : atI ([.ref tc, .ref ta] : List V) 0 = some (.ref tc) := atI_nat (j := 0) rfl
    have a1 : atI ([.ref tc, .ref ta] : List V) 1 = some (.ref ta) := atI_nat (j := 1) rfl
    have hxl : xs.length = ar.length := by rw [c4.len, List.length_map]
    walk_at "go"
    refine l_r1 ?_
    walk_at "go"
    refine c_len (.inr c2) ?_
    walk_at "go"
    rw [List.length_map]
    refine ovR1 (by omega) ?_
    have en : ((costs.length : Nat) : Int).toNat = costs.length := by omega
    rw [en]
    refine lg walk_range (fun D k acc Hx => Same H Hx ∧ ∃ as : List Addr, acc = as.map V.ref ∧ as.length = k ∧ ∀ (j : Nat) (a : Addr), as[j]? = some a → H a = none ∧ a ≠ D ∧ ∃ ls : List Nat, Hx a = some (.lst (ls.map vN))) (fun D nD => ⟨Same.new nD, [], rfl, rfl, fun j a z => by simp at z⟩) (fun _ _ _ _ _ _ _ _ => trivial) ?_ ?_
    · rintro D v x' acc H3 H3' nD hv hla hD ⟨e3, as, rfl, hal, has⟩ ⟨rfl, rfl⟩
      simp only [Int.zero_add]
      walk_at "go"
      refine ⟨rfl, ?_⟩
      walk_at "go"
      refine ⟨x, costs, ar, v, rfl, hc.mono e3, hn, hm, fun a ls H4 e4 na ha => ?_⟩
      have aD : a ≠ D := fun z => by rw [z, hD] at na; cases na
      refine Lc.add (e4 _ _ hD) hla (by omega) ⟨Same.mut (e3.trans e4) nD, as ++ [a], by simp, by simp [hal], fun j b hb => ?_⟩
      by_cases hj : j < as.length
      · rw [List.getElem?_append_left hj] at hb
        obtain ⟨q1, q2, ls', q3⟩ := has j b hb
        exact ⟨q1, q2, ls', by rw [upd_ne q2]; exact e4 _ _ q3⟩
      · rw [List.getElem?_append_right (by omega)] at hb
        have hz : j - as.length = 0 := by
          have := (List.getElem?_eq_some_iff.mp hb).1
          simp at this
          omega
        rw [hz] at hb
        cases hb
        exact ⟨e3.free na, aD, ls, by rw [upd_ne aD]; exact ha⟩
    · rintro D acc H3 nD hD hla ⟨e3, as, rfl, hal, has⟩
      obtain ⟨tc, ta, xs, c1, c2, c3, c4⟩ := id (hc.mono e3)
      have g1 : SqA K H3 x [.ref tc, .ref ta] := .lst c1
      have a0 : atI ([.ref tc, .ref ta] : List V) 0 = some (.ref tc) := atI_nat (j := 0) rfl
      have a1 : atI ([.ref tc, .ref ta] : List V) 1 = some (.ref ta) := atI_nat (j := 1) rfl
      have hxl : xs.length = ar.length := by rw [c4.len, List.length_map]
      walk_at "go"
      refine l_seq ?_
      walk_at "go"
      refine ovT c3 (lp walk_tup (fun Hx e => e.tup c3) (fun k acc => ∃ bs : List Bool, acc = bs.map V.bl ∧ bs.length = k) ⟨[], rfl, rfl⟩ ?_ ?_)
      · rintro D2 i x2 acc2 H4 H4' nD2 hi hla2 hD2 e4 ⟨bs, rfl, hbl⟩ ⟨rfl, hx2⟩
        obtain ⟨pr, aa, hpr, rfl, g3, g4⟩ := arrow_parts (c4.mono e4) hx2
        have hp2 := har pr (List.mem_of_getElem? hpr)
        obtain ⟨ba, hba⟩ := getElem_some (l := as) (k := pr.2) (by omega)
        obtain ⟨_, _, ls, hls⟩ := has pr.2 ba hba
        have g7 : atI ([vN pr.1, vN pr.2] : List V) 0 = some (vN pr.1) := atI_nat (j := 0) rfl
        have g8 : atI ([vN pr.1, vN pr.2] : List V) 1 = some (vN pr.2) := atI_nat (j := 1) rfl
        have g9 : SqA K H4' D (as.map V.ref) := .lst (e4 _ _ hD)
        have g10 : atI (as.map V.ref) (pr.2 : Int) = some (.ref ba) := atI_map hba
        walk_at "go"
        refine ⟨rfl, ?_⟩
        walk_at "go"
        refine c_inL (e4 _ _ hls) fun b => ?_
        refine Lp.add nD2 hD2 e4 (Same.refl _) hla2 ⟨bs ++ [b], by simp, by simp [hbl]⟩ (by omega)
      · rintro D2 acc2 H4 nD2 e4 hD2 hla2 ⟨bs, rfl, hbl⟩
        exact q D2 bs _ (e3.trans e4) (e3.free nD2) hD2 (by omega)
/-- a meter as the law holds it -/
def LM (K : PySem.W.Frag) (H : Hp) (x : Addr) (M : MD) : Prop := ∃ tc ta tch xs, H x = some (.lst [.ref tc, .ref ta, .int M.first, .ref tch]) ∧ SqT K H tc (M.costs.map V.int) ∧ SqT K H ta xs ∧ DpAll K H xs (M.ar.map arD) ∧ SqT K H tch (M.ch.map V.int)
theorem LM.mono {H H' : Hp} {x : Addr} {M : MD} (h : LM K H x M) (e : Same H H') : LM K H' x M := by
  obtain ⟨tc, ta, tch, xs, h1, h2, h3, h4, h5⟩ := h
  exact ⟨tc, ta, tch, xs, e _ _ h1, e.tup h2, e.tup h3, h4.mono e, e.tup h5⟩
def spLGain (K : PySem.W.Frag) : Sp := fun vs H Q _ => ∃ (x : Addr) (M : MD) (k : Nat), vs = [.ref x, vN k] ∧ LM K H x M ∧ M.Ok ∧ k < M.ar.length ∧ Q (.int (M.g k)) H
theorem sc_L_gain : FnScope ["_law_meter_here", "_law_arrow"] ["_law_meter_here", "_law_arrow"] (defScope s_L_gain) := ⟨rfl, rfl, rfl, by decide +kernel, rfl, by decide +kernel, by decide +kernel⟩
theorem ok_L_gain (T : Tx K mg) : Fn P w K mg base 1 "_law_gain" ["_law_meter_here", "_law_arrow"] (spLGain K) := by
  refine fn_mk (st := s_L_gain) T.f_L_gain T.g__law_gain sc_L_gain (fun _ _ _ _ _ _ us hl => match us, hl with | [_, _], _ => rfl) ?len (fun cdv A outer s H vs Q E hr h => ?body)
  case len => exact fun vs H Q E ⟨x, M, k, e, _⟩ => by rw [e]; rfl
  case body =>
    obtain ⟨x, M, k, rfl, hM, ok, hk, q⟩ := h
    refine ⟨_, (pss_one (ps_ret (pe_op op_sub (pe_ix (kIx K) (pe_ix (kIx K) (pv 0) pe_int (fun _ _ => rfl)) (pv 1) (fun _ _ => rfl)) (pe_ix (kIx K) (pe_ix (kIx K) (pv 0) pe_int (fun _ _ => rfl)) (pe_ix (kIx K) (pe_ix (kIx K) (pe_ix (kIx K) (pv 0) pe_int (fun _ _ => rfl)) (pv 1) (fun _ _ => rfl)) pe_int (fun _ _ => rfl)) (fun _ _ => rfl))))), ?_⟩
    show (_ : TS) { nx := fun _ H' => Q .non H', rt := Q } ([some (.ref x), some (vN k)] : L2.St) H
    obtain ⟨tc, ta, tch, xs, h1, h2, h3, h4, h5⟩ := hM
    have g1 : SqA K H x [.ref tc, .ref ta, .int M.first, .ref tch] := .lst h1
    have a0 : atI ([.ref tc, .ref ta, .int M.first, .ref tch] : List V) 0 = some (.ref tc) := atI_nat (j := 0) rfl
    have a1 : atI ([.ref tc, .ref ta, .int M.first, .ref tch] : List V) 1 = some (.ref ta) := atI_nat (j := 1) rfl
    have a3 : atI ([.ref tc, .ref ta, .int M.first, .ref tch] : List V) 3 = some (.ref tch) := atI_nat (j := 3) rfl
    obtain ⟨p, hp⟩ := getElem_some hk
    obtain ⟨a, ha1, ha2, ha3, _⟩ := ar_at h4 hp
    obtain ⟨t1, t2, t3, t4⟩ := ok.tl hp
    obtain ⟨c, hc⟩ := getElem_some (l := M.ch) (k := k) (by rw [ok.ch]; exact hk)
    obtain ⟨y, hy⟩ := getElem_some t3
    have b1 : atI (M.ch.map V.int) (k : Int) = some (.int c) := atI_map hc
    have b2 : atI ([vN p.1, vN p.2] : List V) 0 = some (vN p.1) := atI_nat (j := 0) rfl
    have b3 : atI (M.costs.map V.int) (p.1 : Int) = some (.int y) := atI_map hy
    have b4 : SqA K H tch (M.ch.map V.int) := .inr h5
    have b5 : SqA K H ta xs := .inr h3
    have b6 : SqA K H tc (M.costs.map V.int) := .inr h2
    walk_at "go"
    have e : M.g k = c - y := by
      unfold MD.g
      rw [t1, hc, hy]
      rfl
    rw [e] at q
    exact q
def spLSum (K : PySem.W.Frag) : Sp := fun vs H Q _ => ∃ (x t : Addr) (M : MD) (r : List Nat), vs = [.ref x, .ref t] ∧ LM K H x M ∧ M.Ok ∧ SqT K H t (r.map vN) ∧ (∀ k ∈ r, k < M.ar.length) ∧ r.length ≤ 1000 ∧ ∀ H', Same H H' → Q (.int (gs M.g r)) H'
theorem sc_L_sum : FnScope ["_law_meter_here", "_law_arrows", "_law_arrow"] ["_law_meter_here", "_law_arrows"] (defScope s_L_sum) := ⟨rfl, rfl, rfl, by decide +kernel, rfl, by decide +kernel, by decide +kernel⟩
theorem ok_L_sum (T : Tx K mg) (G_L_gain : Fn P w K mg base 1 "_law_gain" ["_law_meter_here", "_law_arrow"] (spLGain K)) : Fn P w K mg base 2 "_law_sum" ["_law_meter_here", "_law_arrows"] (spLSum K) := by
  refine fn_mk (st := s_L_sum) T.f_L_sum T.g__law_sum sc_L_sum (fun _ _ _ _ _ _ us hl => match us, hl with | [_, _], _ => rfl) ?len (fun cdv A outer s H vs Q E hr h => ?body)
  case len => exact fun vs H Q E ⟨x, t, M, r, e, _⟩ => by rw [e]; rfl
  case body =>
    obtain ⟨x, t, M, r, rfl, hM, ok, ht, hk, hl, q⟩ := h
    refine ⟨_, (pss_one (ps_ret (pe_callB (kSum K) rfl T.z_sum bt_sum (pa_cons (pe_lc (own := [("_law_arrow", 2)]) rfl sc_L_sum.nd (kSeq K (pv 1)) (blkOk_by (own := [("_law_arrow", 2)]) (N := ["_law_meter_here", "_law_arrows", "_law_arrow"]) (sc := defScope s_L_sum) (by decide +kernel)) (fun _ _ _ _ _ => (pg_name (i := 2) sc_L_sum.nd rfl (by first | exact Or.inl rfl | exact Or.inr rfl))) (fun _ _ _ _ _ => pts_nil) (fun _ _ _ _ _ => (pe_fn G_L_gain hr rfl (pa_cons (pv 0) (pa_cons (pv 2) pa_nil))))) pa_nil)))), ?_⟩
    show (_ : TS) { nx := fun _ H' => Q .non H', rt := Q } ([some (.ref x), some (.ref t), none] : L2.St) H
    walk_at "go"
    refine l_seq ?_
    walk_at "go"
    refine ovT ht (lp walk_tup (fun Hx e => e.tup ht) (fun k acc => acc = ((r.take k).map M.g).map V.int) rfl ?_ ?_)
    · rintro D i y acc H1 H1' nD hi hla hD e1 hR ⟨rfl, hy⟩
      rw [List.length_map] at hi
      obtain ⟨k, hk1⟩ := getElem_some hi
      rw [List.getElem?_map, hk1] at hy
      cases hy
      walk_at "go"
      refine ⟨rfl, ?_⟩
      walk_at "go"
      refine ⟨x, M, k, rfl, hM.mono e1, ok, hk k (List.mem_of_getElem? hk1), ?_⟩
      refine Lp.add nD hD e1 (Same.refl _) hla ?_ (by omega)
      rw [hR, List.take_add_one, hk1]
      simp
    · intro D acc H1 nD e1 hD hla hR
      walk_at "go"
      refine ⟨D, r.map M.g, rfl, .of (by rw [hD, hR]; simp), ?_⟩
      rw [sum_gs]
      exact q _ e1
end
end
section
/-! even_row. -/
section
variable {P : Program} {w : World} {K : PySem.W.Frag} {mg : Str → Option Value} {base : Heap}
theorem CD.ek {H H' : Hp} {x h cl : Addr} {costs : List Int} {ar : List (Nat × Nat)} (hc : CD K H x costs ar) (hh : HandAt H h cl) (n : x ≠ h) (e : Ek h H H') : CD K H' x costs ar := by
  obtain ⟨tc, ta, xs, h1, h2, h3, h4⟩ := hc
  have t : Tk K H H' := hh.tk e
  exact ⟨tc, ta, xs, e.at n h1, t _ _ h2, t _ _ h3, Tk.ar t h4⟩
theorem CD.ne {H : Hp} {x a : Addr} {costs : List Int} {ar : List (Nat × Nat)} (hc : CD K H x costs ar) (na : H a = none) : x ≠ a := by
  obtain ⟨tc, ta, xs, h1, _⟩ := hc
  exact ne_of_none h1 na
theorem costAt_set {l : List Int} {t v : Nat} {y : Int} (h : t < l.length) : costAt (l.set t y) v = if v = t then y else costAt l v := by
  unfold costAt
  rw [List.getElem?_set]
  by_cases hv : t = v
  · subst hv
    rw [if_pos rfl, if_pos h, if_pos rfl]
    rfl
  · rw [if_neg hv, if_neg (Ne.symm hv)]
theorem costAt_ge {costs : List Int} (h : CostsOk costs) (v : Nat) : 0 ≤ costAt costs v ∧ costAt costs v ≤ 1000000000 := by
  unfold costAt
  cases e : costs[v]? with
  | none => simp
  | some x => exact h x (List.mem_of_getElem? e)
def spEven (K : PySem.W.Frag) : Sp := fun vs H Q _ => ∃ (h cl x : Addr) (costs : List Int) (ar : List (Nat × Nat)), vs = [.ref h, .ref x] ∧ HandAt H h cl ∧ x ≠ h ∧ CD K H x costs ar ∧ GoodC costs ar ∧ ∀ (a : Addr) (ls : List Int) H', H a = none → Ek h H H' → HandAt H' h cl → H' a = some (.lst (ls.map V.int)) → ls.length = costs.length →
  (0 ≤ costAt ls 0 ∧ costAt ls 0 ≤ 2000000000) → (∀ k t hd : Nat, ar[k]? = some (t, hd) → 0 ≤ costAt ls hd - costAt ls t + costAt costs t ∧ costAt ls hd - costAt ls t + costAt costs t ≤ 2000000000) → Q (.ref a) H'
theorem sc_L_even_row : FnScope ["_law_hand_here", "_law_chart_here", "_law_top", "_law_over", "_law_turn", "_law_arrow", "_law_leads", "_law_less", "_law_cost_here", "_law_place", "_law_lead"] ["_law_hand_here", "_law_chart_here"] (defScope s_L_even_row) := ⟨rfl, rfl, rfl, by decide +kernel, rfl, by decide +kernel, by decide +kernel⟩
theorem ok_L_even_row (T : Tx K mg) (G_L_draw : Fn P w K mg base 2 "_law_draw" ["_law_hand_here", "_law_many"] spDraw) : Fn P w K mg base 3 "_law_even_row" ["_law_hand_here", "_law_chart_here"] (spEven K) := by
  refine fn_mk (st := s_L_even_row) T.f_L_even_row T.g__law_even_row sc_L_even_row (fun _ _ _ _ _ _ us hl => match us, hl with | [_, _], _ => rfl) ?len (fun cdv A outer s H vs Q E hr h => ?body)
  case len => exact fun vs H Q E ⟨h, cl, x, costs, ar, e, _⟩ => by rw [e]; rfl
  case body =>
    obtain ⟨h, cl, x, costs, ar, rfl, hh, nxh, hc, gc, q⟩ := h
    refine ⟨_, (pss_cons (ps_set (i := 2) sc_L_even_row.nd rfl (Or.inr rfl) (pe_ix (kIx K) (pe_lst (pa_cons pe_int (pa_cons pe_int (pa_cons pe_int (pa_cons (pe_op op_pow pe_int pe_int) pa_nil))))) (pe_fn G_L_draw hr rfl (pa_cons (pv 0) (pa_cons pe_int pa_nil))) (fun _ _ => rfl)))
      (pss_cons (ps_set (i := 3) sc_L_even_row.nd rfl (Or.inr rfl) (pe_lc (own := [("_law_cost_here", 8)]) rfl sc_L_even_row.nd (kSeq K (pe_ix (kIx K) (pv 1) pe_int (fun _ _ => rfl))) (blkOk_by (own := [("_law_cost_here", 8)]) (N := ["_law_hand_here", "_law_chart_here", "_law_top", "_law_over", "_law_turn", "_law_arrow", "_law_leads", "_law_less", "_law_cost_here", "_law_place", "_law_lead"]) (sc := defScope s_L_even_row) (by decide +kernel)) (fun _ _ _ _ _ => (pg_name (i := 8) sc_L_even_row.nd rfl (by first | exact Or.inl rfl | exact Or.inr rfl))) (fun _ _ _ _ _ => pts_nil) (fun _ _ _ _ _ => (pe_fn G_L_draw hr rfl (pa_cons (pv 0) (pa_cons (pe_op op_add (pv 2) pe_int) pa_nil))))))
      (pss_cons (ps_for PassesOwn.never rfl (pi_range1 rfl T.z_range (pa_cons (pe_callB (kLen K) rfl T.z_len bt_len (pa_cons (pe_ix (kIx K) (pv 1) pe_int (fun _ _ => rfl)) pa_nil)) pa_nil)) (pg_name (i := 4) sc_L_even_row.nd rfl (Or.inl rfl)) (pss_one (ps_for PassesOwn.never rfl (kSeq K (pe_ix (kIx K) (pv 1) pe_int (fun _ _ => rfl))) (pg_name (i := 5) sc_L_even_row.nd rfl (Or.inl rfl)) (pss_one (ps_asg (pe_callB kMin2 rfl T.z_min bt_min (pa_cons (pe_ix (kIx K) (pv 3) (pe_ix (kIx K) (pv 5) pe_int (fun _ _ => rfl)) (fun _ _ => rfl)) (pa_cons (pe_op op_add (pe_ix (kIx K) (pe_ix (kIx K) (pv 1) pe_int (fun _ _ => rfl)) (pe_ix (kIx K) (pv 5) pe_int (fun _ _ => rfl)) (fun _ _ => rfl)) (pe_ix (kIx K) (pv 3) (pe_ix (kIx K) (pv 5) pe_int (fun _ _ => rfl)) (fun _ _ => rfl))) pa_nil))) (pg_sub (pv 3) (pe_ix (kIx K) (pv 5) pe_int (fun _ _ => rfl)) set_list))))))
      (pss_cons (ps_setLc (i := 6) (own := [("_law_place", 9)]) rfl sc_L_even_row.nd rfl rfl (sw_true rfl rfl rfl (by decide +kernel)) (pi_range1 rfl T.z_range (pa_cons (pe_callB (kLen K) rfl T.z_len bt_len (pa_cons (pv 3) pa_nil)) pa_nil)) (blkOk_by (own := [("_law_place", 9)]) (N := ["_law_hand_here", "_law_chart_here", "_law_top", "_law_over", "_law_turn", "_law_arrow", "_law_leads", "_law_less", "_law_cost_here", "_law_place", "_law_lead"]) (sc := defScope s_L_even_row) (by decide +kernel)) (fun _ _ _ _ _ => (pg_name (i := 9) sc_L_even_row.nd rfl (by first | exact Or.inl rfl | exact Or.inr rfl))) (fun _ _ _ _ _ => pts_nil) (fun _ _ _ _ _ => (pe_op op_add (pe_ix (kIx K) (pe_ix (kIx K) (pv 1) pe_int (fun _ _ => rfl)) (pv 9) (fun _ _ => rfl)) (pe_ix (kIx K) (pv 3) (pv 9) (fun _ _ => rfl)))))
      (pss_cons (ps_set (i := 7) sc_L_even_row.nd rfl (Or.inr rfl) (pe_ifExp (pt_cmpR op_eq (pe_fn G_L_draw hr rfl (pa_cons (pv 0) (pa_cons pe_int pa_nil))) pe_int (nomark _)) (pe_fn G_L_draw hr rfl (pa_cons (pv 0) (pa_cons (pe_op op_add (pe_ix (kIx K) (pv 6) pe_int (fun _ _ => rfl)) pe_int) pa_nil))) pe_int))
      (pss_one (ps_ret (pe_lc (own := [("_law_lead", 10)]) rfl sc_L_even_row.nd (kSeq K (pv 6)) (blkOk_by (own := [("_law_lead", 10)]) (N := ["_law_hand_here", "_law_chart_here", "_law_top", "_law_over", "_law_turn", "_law_arrow", "_law_leads", "_law_less", "_law_cost_here", "_law_place", "_law_lead"]) (sc := defScope s_L_even_row) (by decide +kernel)) (fun _ _ _ _ _ => (pg_name (i := 10) sc_L_even_row.nd rfl (by first | exact Or.inl rfl | exact Or.inr rfl))) (fun _ _ _ _ _ => pts_nil) (fun _ _ _ _ _ => (pe_op op_sub (pv 10) (pv 7))))))))))), ?_⟩
    show (_ : TS) { nx := fun _ H' => Q .non H', rt := Q } ([some (.ref h), some (.ref x), none, none, none, none, none, none, none, none, none] : L2.St) H
    have n1 := gc.n1
    have n2 := gc.n2
    have m1 := gc.m1
    walk_at "go"
    refine ⟨by show 4 ≤ sizeLine; decide, fun p np => ?_⟩
    have eP : Same H (upd H p (.lst ([1, 4, 9, 1000000000].map V.int))) := Same.new np
    walk_at "go"
    refine ⟨h, cl, 4, rfl, hh.same eP, by omega, by omega, fun r1 H1 e1 hh1 r10 r11 => ?_⟩
    have g1 : SqA K H1 p ([1, 4, 9, 1000000000].map V.int) := .lst (e1.at (hh.ne np).1 upd_same)
    obtain ⟨top, htop, hat⟩ := atI_pick (l := [1, 4, 9, 1000000000]) r10 (by simpa using r11)
    have topb : 1 ≤ top ∧ top ≤ 1000000000 := by simp at htop; omega
    have e01 : Ek h H H1 := (Ek.of eP).trans e1
    replace g1 : SqA K H1 p [V.int 1, V.int 4, V.int 9, V.int (10 ^ Int.toNat 9)] := g1
    replace hat : atI [V.int 1, V.int 4, V.int 9, V.int (10 ^ Int.toNat 9)] r1 = some (.int top) := hat
    walk_at "go"
    clear g1 hat htop e1 eP
    refine l_seq ?_
    have hc1 : CD K H1 x costs ar := hc.ek hh nxh e01
    obtain ⟨tc, ta, xs, c1, c2, c3, c4⟩ := id hc1
    have g1 : SqA K H1 x [.ref tc, .ref ta] := .lst c1
    have a0 : atI ([.ref tc, .ref ta] : List V) 0 = some (.ref tc) := atI_nat (j := 0) rfl
    have a1 : atI ([.ref tc, .ref ta] : List V) 1 = some (.ref ta) := atI_nat (j := 1) rfl
    walk_at "go"
    refine ovT c2 (lph walk_tup hh1 (fun Hx e => hh1.tk e _ _ c2) (fun k acc => ∃ os : List Int, acc = os.map V.int ∧ os.length = k ∧ ∀ o ∈ os, 0 ≤ o ∧ o ≤ 1000000000) ⟨[], rfl, rfl, fun o ho => by cases ho⟩ ?_ ?_)
    · rintro D i y acc H2 H2' nD hi hla hD e2 hh2 ⟨os, rfl, hol, hob⟩ ⟨rfl, hy⟩
      rw [List.length_map] at hi
      walk_at "go"
      refine ⟨rfl, ?_⟩
      walk_at "go"
      refine ⟨h, cl, _, rfl, hh2, by omega, by omega, fun o H3 e3 hh3 o0 o1 => ?_⟩
      refine Lh.add hh1 nD hD e2 e3 hh3 hla ⟨os ++ [o], by simp, by simp [hol], fun z hz => ?_⟩ (by omega)
      rcases List.mem_append.mp hz with z1 | z1
      · exact hob z z1
      · rw [List.mem_singleton.mp z1]
        omega
    · rintro O acc H2 nO e2 hh2 hO hla ⟨os, rfl, hol, hob⟩
      rw [List.length_map] at hol
      have nOh := hh1.ne nO
      have nO0 : H O = none := by
        cases hx : H O with
        | none => rfl
        | some o =>
          rw [e01.at nOh.1 hx] at nO
          cases nO
      have nxO : x ≠ O := hc1.ne nO
      clear g1
      have hc2 := hc1.ek hh1 nxh e2
      obtain ⟨tc, ta, xs, c1, c2, c3, c4⟩ := id hc2
      have g1 : SqA K H2 x [.ref tc, .ref ta] := .lst c1
      have a0 : atI ([.ref tc, .ref ta] : List V) 0 = some (.ref tc) := atI_nat (j := 0) rfl
      have a1 : atI ([.ref tc, .ref ta] : List V) 1 = some (.ref ta) := atI_nat (j := 1) rfl
      have hxl : xs.length = ar.length := by rw [c4.len, List.length_map]
      walk_at "go"
      refine c_seq (f_r1 ?_)
      walk_at "go"
      refine c_len (.inr c2) ?_
      walk_at "go"
      rw [List.length_map]
      refine ovR1 (by omega) ?_
      have en : ((costs.length : Nat) : Int).toNat = costs.length := by omega
      rw [en]
      clear g1
      have hcn : ∀ k, 0 ≤ (fun k => costAt costs (hdOf ar k)) k := fun k => (costAt_ge gc.co _).1
      refine fo walk_range (fun i σ' H' => ∃ (ov : List Int) (o4 o5 o6 o7 o8 o9 o10 : Option V), σ' = [some (.ref h), some (.ref x), some (.int top), some (.ref O), o4, o5, o6, o7, o8, o9, o10] ∧ Ek h H1 H' ∧ HandAt H' h cl ∧ H' O = some (.lst (ov.map V.int)) ∧ ov.length = costs.length ∧ BfA ar costs.length (fun k => costAt costs (hdOf ar k)) (costAt os) (costAt ov) ∧ BfC ar costs.length (fun k => costAt costs (hdOf ar k)) (costAt os) (costAt ov) i 0) ⟨os, _, _, _, _, _, _, _, rfl, e2, hh2, hO, hol, bf_start.1, bf_start.2⟩ (fun _ _ _ _ _ => trivial) ?_ ?_
      · rintro i y σ' H3 H3' hi ⟨ov, o4, o5, o6, o7, o8, o9, o10, rfl, e3, hh3, hO3, hol3, hA, hC⟩ ⟨rfl, rfl⟩
        have hc3 := hc1.ek hh1 nxh e3
        obtain ⟨tc, ta, xs, c1, c2, c3, c4⟩ := id hc3
        have g1 : SqA K H3' x [.ref tc, .ref ta] := .lst c1
        have a0 : atI ([.ref tc, .ref ta] : List V) 0 = some (.ref tc) := atI_nat (j := 0) rfl
        have a1 : atI ([.ref tc, .ref ta] : List V) 1 = some (.ref ta) := atI_nat (j := 1) rfl
        have hxl : xs.length = ar.length := by rw [c4.len, List.length_map]
        walk_at "go"
        refine f_seq ?_
        walk_at "go"
        -- from here on only the list at O changes
        refine ovT c3 (fo walk_tup (fun j σ' H' => ∃ (ov : List Int) (o5 : Option V), σ' = [some (.ref h), some (.ref x), some (.int top), some (.ref O), some (.int (0 + (i : Nat))), o5, o6, o7, o8, o9, o10] ∧ (∀ b o, b ≠ O → H3' b = some o → H' b = some o) ∧ H' O = some (.lst (ov.map V.int)) ∧ ov.length = costs.length ∧ BfA ar costs.length (fun k => costAt costs (hdOf ar k)) (costAt os) (costAt ov) ∧ BfC ar costs.length (fun k => costAt costs (hdOf ar k)) (costAt os) (costAt ov) i j) ⟨ov, _, rfl, fun b o _ e => e, hO3, hol3, hA, hC⟩ (fun j σ' H' _ ⟨_, _, _, e, _⟩ => (Tk.ek hO3 (Ek.mk e)) _ _ c3) ?_ ?_)
        · rintro j z σ' H4 H4' hj ⟨ov, o5, rfl, e4, hO4, hol4, hA4, hC4⟩ ⟨rfl, hz⟩
          have t4 : Tk K H3' H4' := Tk.ek hO3 (Ek.mk e4)
          obtain ⟨pr, aa, hpr, rfl, g3, g4⟩ := arrow_parts (Tk.ar t4 c4) hz
          have hp2 := gc.arr pr (List.mem_of_getElem? hpr)
          have g1 : SqA K H4' x [.ref tc, .ref ta] := .lst (e4 x _ nxO c1)
          have g5 : SqA K H4' tc (costs.map V.int) := .inr (t4 _ _ c2)
          have g6 : SqA K H4' O (ov.map V.int) := .lst hO4
          have g7 : atI ([vN pr.1, vN pr.2] : List V) 0 = some (vN pr.1) := atI_nat (j := 0) rfl
          have g8 : atI ([vN pr.1, vN pr.2] : List V) 1 = some (vN pr.2) := atI_nat (j := 1) rfl
          obtain ⟨u, hu⟩ := getElem_some (l := ov) (k := pr.1) (by omega)
          obtain ⟨v, hv⟩ := getElem_some (l := ov) (k := pr.2) (by omega)
          obtain ⟨cc, hcc⟩ := getElem_some (l := costs) (k := pr.2) (by omega)
          have g9 : atI (ov.map V.int) (pr.1 : Int) = some (.int u) := atI_map hu
          have g10 : atI (ov.map V.int) (pr.2 : Int) = some (.int v) := atI_map hv
          have g11 : atI (costs.map V.int) (pr.2 : Int) = some (.int cc) := atI_map hcc
          walk_at "go"
          refine c_setL (j := pr.1) hO4 (by rw [List.length_map]; omega) ?_
          have st := bf_step (ov' := costAt (ov.set pr.1 (if cc + v < u then cc + v else u))) gc.arr (t := pr.1) (h := pr.2) hpr hA4 hC4 (by
            rw [costAt_set (by omega), if_pos rfl]
            show _ = if costAt costs (hdOf ar j) + costAt ov pr.2 < costAt ov pr.1 then costAt costs (hdOf ar j) + costAt ov pr.2 else costAt ov pr.1
            rw [hdOf_of (a := pr.1) (h := pr.2) hpr, costAt_of hcc, costAt_of hv, costAt_of hu]) fun v' hv' => by rw [costAt_set (by omega), if_neg hv']
          exact ⟨_, _, rfl, fun b o hb e => by rw [upd_ne hb]; exact e4 b o hb e, by rw [upd_same, List.map_set], by simp [hol4], st.1, st.2⟩
        · rintro σ' H4 ⟨ov, o5, rfl, e4, hO4, hol4, hA4, hC4⟩
          rw [hxl] at hC4
          refine ⟨ov, _, _, _, _, _, _, _, rfl, Ek.mk fun b o hb e => e4 b o (ne_of_none e nO) (e3.at hb e), ?_, hO4, hol4, hA4, bf_round hC4⟩
          obtain ⟨nch, cells, ii, bb, cc, k1, k2⟩ := hh3
          exact ⟨nch, cells, ii, bb, cc, e4 _ _ (Ne.symm nOh.1) k1, e4 _ _ (Ne.symm nOh.2) k2⟩
      · rintro σ' H3 ⟨ov, o4, o5, o6, o7, o8, o9, o10, rfl, e3, hh3, hO3, hol3, hA, hC⟩
        dsimp only
        have hos : ∀ v, v < costs.length → 0 ≤ costAt os v ∧ costAt os v ≤ 1000000000 := fun v hv => by
          obtain ⟨y, hy⟩ := getElem_some (l := os) (k := v) (by omega)
          rw [costAt_of hy]
          exact hob y (List.mem_of_getElem? hy)
        have ov1 : ∀ v, v < costs.length → 0 ≤ costAt ov v ∧ costAt ov v ≤ 1000000000 := fun v hv => ⟨bf_low hcn (fun v hv => (hos v hv).1) hA hv, Int.le_trans (bf_high hC hv) (hos v hv).2⟩
        have ov2 : ∀ k t hd : Nat, ar[k]? = some (t, hd) → costAt ov t ≤ costAt costs hd + costAt ov hd := fun k t hd e => by
          have := bf_done gc.arr hcn hA hC e
          rw [hdOf_of e] at this
          exact this
        clear hA hC
        walk_at "go"
        refine l_r1 ?_
        walk_at "go"
        refine c_len (.lst hO3) ?_
        walk_at "go"
        rw [List.length_map, hol3]
        refine ovR1 (by omega) ?_
        rw [en]
        have hc3 := hc1.ek hh1 nxh e3
        refine lp walk_range (fun _ _ => trivial) (fun k acc => acc = ((List.range k).map fun v => costAt costs v + costAt ov v).map V.int) rfl ?_ ?_
        · rintro D v y acc H4 H4' nD hv hla hD e4 hR ⟨rfl, rfl⟩
          simp only [Int.zero_add]
          obtain ⟨tc, ta, xs, c1, c2, c3, c4⟩ := id (hc3.mono e4)
          have g1 : SqA K H4' x [.ref tc, .ref ta] := .lst c1
          have a0 : atI ([.ref tc, .ref ta] : List V) 0 = some (.ref tc) := atI_nat (j := 0) rfl
          have g5 : SqA K H4' tc (costs.map V.int) := .inr c2
          have g6 : SqA K H4' O (ov.map V.int) := .lst (e4 _ _ hO3)
          obtain ⟨u, hu⟩ := getElem_some (l := ov) (k := v) (by omega)
          obtain ⟨cc, hcc⟩ := getElem_some (l := costs) (k := v) (by omega)
          have g9 : atI (ov.map V.int) (v : Int) = some (.int u) := atI_map hu
          have g11 : atI (costs.map V.int) (v : Int) = some (.int cc) := atI_map hcc
          walk_at "go"
          refine ⟨rfl, ?_⟩
          walk_at "go"
          refine Lp.add nD hD e4 (Same.refl _) hla ?_ (by omega)
          rw [hR, List.range_succ, List.map_append, List.map_append, List.map_singleton, List.map_singleton, costAt_of hu, costAt_of hcc]
        · intro Le acc H4 nLe e4 hLe hla hR
          have e14 : Ek h H1 H4 := e3.and e4
          have hh4 := hh3.same e4
          have nLh := hh3.ne nLe
          obtain ⟨ld, eld⟩ : ∃ ld : List Int, ld = (List.range costs.length).map fun v => costAt costs v + costAt ov v := ⟨_, rfl⟩
          rw [hR, ← eld] at hLe
          have hldl : ld.length = costs.length := by rw [eld]; simp
          have hld : ∀ v, v < costs.length → costAt ld v = costAt costs v + costAt ov v := fun v hv => by
            refine costAt_of ?_
            rw [eld, List.getElem?_map, List.getElem?_range hv]
            rfl
          have fin : ∀ (less : Int) (H5 : Hp), Ek h H4 H5 → HandAt H5 h cl → 0 ≤ less → less ≤ costAt ld 0 → ∀ (D : Addr) (H6 : Hp) , Same H5 H6 → H5 D = none → H6 D = some (.lst ((ld.map fun y => y - less).map V.int)) → Q (.ref D) H6 := fun less H5 e5 hh5 l0 l1 D H6 e6 nD6 hD6 => by
            have sub : ∀ v, v < costs.length → costAt (ld.map fun y => y - less) v = costAt costs v + costAt ov v - less := fun v hv => by
              obtain ⟨y, hy⟩ := getElem_some (l := ld) (k := v) (by omega)
              have e := hld v hv
              rw [costAt_of hy] at e
              rw [← e]
              refine costAt_of ?_
              rw [List.getElem?_map, hy]
              rfl
            have nDh := hh5.ne nD6
            have e0 : Ek h H H5 := (e01.trans e14).trans e5
            refine q D (ld.map fun y => y - less) H6 ?_ (e0.and e6) (hh5.same e6) hD6 (by simp [hldl]) ?_ fun k t hd e => ?_
            · cases hx : H D with
              | none => rfl
              | some o =>
                rw [e0.at nDh.1 hx] at nD6
                cases nD6
            · have z1 := ov1 0 (by omega)
              have z2 := costAt_ge gc.co 0
              have z3 := hld 0 (by omega)
              rw [sub 0 (by omega)]
              omega
            · have hp := gc.arr _ (List.mem_of_getElem? e)
              have z1 := ov1 t hp.1
              have z2 := ov1 hd hp.2
              have z3 := costAt_ge gc.co hd
              have z4 := ov2 k t hd e
              rw [sub t hp.1, sub hd hp.2]
              omega
          clear hR hla
          obtain ⟨y0, hy0⟩ := getElem_some (l := ld) (k := 0) (by omega)
          have ey0 : costAt ld 0 = y0 := costAt_of hy0
          have y0b : 0 ≤ y0 ∧ y0 ≤ 2000000000 := by
            have z1 := ov1 0 (by omega)
            have z2 := costAt_ge gc.co 0
            have z3 := hld 0 (by omega)
            omega
          walk_at "go"
          refine ⟨h, cl, 4, rfl, hh4, by omega, by omega, fun r5 H5 e5 hh5 r50 r51 => ?_⟩
          have hLe5 := e5.at nLh.1 hLe
          walk_at "go"
          refine d2 (fun hr5 => ?_) fun hr5 => ?_
          · have g1 : SqA K H5 Le (ld.map V.int) := .lst hLe5
            have g2 : atI (ld.map V.int) 0 = some (.int y0) := atI_map hy0
            walk_at "go"
            refine ⟨h, cl, _, rfl, hh5, by omega, by omega, fun less H6 e6 hh6 l0 l1 => ?_⟩
            have hLe6 := e6.at nLh.1 hLe5
            walk_at "go"
            refine l_seq ?_
            walk_at "go"
            refine ovL (.of hLe6) (lp walk_list (fun Hx e => .of (e _ _ hLe6)) (fun k acc => acc = ((ld.take k).map fun y => y - less).map V.int) rfl ?_ ?_)
            · rintro D i y acc H7 H7' nD hi hla hD e7 hR ⟨rfl, hy⟩
              rw [List.length_map] at hi
              obtain ⟨yy, hyy⟩ := getElem_some hi
              rw [List.getElem?_map, hyy] at hy
              cases hy
              walk_at "go"
              refine ⟨rfl, ?_⟩
              walk_at "go"
              refine Lp.add nD hD e7 (Same.refl _) hla ?_ (by omega)
              rw [hR, List.take_add_one, hyy]
              simp
            · intro D acc H7 nD e7 hD hla hR
              refine fin less H6 (e5.trans e6) hh6 l0 (by omega) D H7 e7 nD ?_
              rw [hD, hR]
              simp
          · walk_at "go"
            refine l_seq ?_
            walk_at "go"
            refine ovL (.of hLe5) (lp walk_list (fun Hx e => .of (e _ _ hLe5)) (fun k acc => acc = ((ld.take k).map fun y => y - 0).map V.int) rfl ?_ ?_)
            · rintro D i y acc H7 H7' nD hi hla hD e7 hR ⟨rfl, hy⟩
              rw [List.length_map] at hi
              obtain ⟨yy, hyy⟩ := getElem_some hi
              rw [List.getElem?_map, hyy] at hy
              cases hy
              walk_at "go"
              refine ⟨rfl, ?_⟩
              walk_at "go"
              refine Lp.add nD hD e7 (Same.refl _) hla ?_ (by omega)
              rw [hR, List.take_add_one, hyy]
              simp
            · intro D acc H7 nD e7 hD hla hR
              refine fin 0 H5 e5 hh5 (Int.le_refl _) (by omega) D H7 e7 nD ?_
              rw [hD, hR]
              simp
end
end
section
/-! meter, made. -/
section
variable {P : Program} {w : World} {K : PySem.W.Frag} {mg : Str → Option Value} {base : Heap}
/-- an if, then one state for both ways -/
theorem c_ifJ {c : TT} {t1 t2 u : TS} {D : Ends} {σ : L2.St} {H : Hp} (N : L2.St → Hp → Prop) (h : ∀ F : L2.St → Hp → Prop, (∀ σ' H', N σ' H' → F σ' H') → c σ H fun b H1 => if b = true then t1 { D with nx := F } σ H1 else t2 { D with nx := F } σ H1) (hN : ∀ σ' H', N σ' H' → u D σ' H') : tSeq (tIfS c t1 t2) u D σ H := h (u D) hN
/-- all but what stands at h and at c is kept -/
def E2 (h c : Addr) (H H' : Hp) : Prop := ∀ b o, b ≠ h → b ≠ c → H b = some o → H' b = some o
theorem E2.refl {h c : Addr} {H : Hp} : E2 h c H H := fun _ _ _ _ e => e
theorem E2.ek {h c : Addr} {H H' H'' : Hp} (e : E2 h c H H') (k : Ek h H' H'') : E2 h c H H'' := fun b o n1 n2 q => k.at n1 (e b o n1 n2 q)
theorem E2.same {h c : Addr} {H H' H'' : Hp} (e : E2 h c H H') (k : Same H' H'') : E2 h c H H'' := fun b o n1 n2 q => k _ _ (e b o n1 n2 q)
theorem E2.set {h c : Addr} {H H' : Hp} {o : HO} (e : E2 h c H H') : E2 h c H (upd H' c o) := fun b o n1 n2 q => by rw [upd_ne n2]; exact e b o n1 n2 q
theorem E2.tk {h c : Addr} {H H' : Hp} {xs ys : List V} (e : E2 h c H H') (h1 : H h = some (.lst xs)) (h2 : H c = some (.lst ys)) : Tk K H H' := fun a zs q => by
  have ne : ∀ {u : HO} {d : Addr} {ws : List V}, H d = some (.lst ws) → H a = some u → (∀ xs, u ≠ .lst xs) → a ≠ d := fun {u d ws} hd q k z => by
    rw [z, hd] at q
    exact k _ (Option.some.inj q).symm
  rcases q with (q | ⟨ob, q⟩) | q
  · exact .inl (.inl (e _ _ (ne h1 q (by simp)) (ne h2 q (by simp)) q))
  · exact .inl (.inr ⟨ob, e _ _ (ne h1 q (by simp)) (ne h2 q (by simp)) q⟩)
  · exact .inr q
def ChB (b : Int) (ch : List Int) : Prop := ∀ c ∈ ch, 0 ≤ c ∧ c ≤ b
theorem ChB.set {b v : Int} {ch : List Int} {k : Nat} (h : ChB b ch) (hv : 0 ≤ v ∧ v ≤ b) : ChB b (ch.set k v) := fun c hc => by
  rcases List.mem_or_eq_of_mem_set hc with z | z
  · exact h c z
  · rw [z]
    exact hv
theorem ChB.mono {b b' : Int} {ch : List Int} (h : ChB b ch) (hb : b ≤ b') : ChB b' ch := fun c hc => ⟨(h c hc).1, Int.le_trans (h c hc).2 hb⟩
structure GoodM (M : MD) : Prop where
  gc : GoodC M.costs M.ar
  cl : M.ch.length = M.ar.length
  ch : ChOk M.ch
  f : 0 ≤ M.first ∧ M.first ≤ 1000000000000
theorem GoodM.ok {M : MD} (g : GoodM M) : M.Ok := ⟨g.gc.n1, by have := g.gc.n2; omega, by have := g.gc.m1; omega, g.cl, g.gc.arr⟩
theorem GoodM.re {M : MD} (g : GoodM M) : Reach M := g.gc.re
def spLMeter (K : PySem.W.Frag) : Sp := fun vs H Q _ => ∃ (h cl x : Addr) (costs : List Int) (ar : List (Nat × Nat)), vs = [.ref h, .ref x] ∧ HandAt H h cl ∧ x ≠ h ∧ CD K H x costs ar ∧ GoodC costs ar ∧ ∀ (a : Addr) (M : MD) H', H a = none → Ek h H H' → HandAt H' h cl → LM K H' a M → GoodM M → M.costs = costs → M.ar = ar → Q (.ref a) H'
theorem sc_L_meter : FnScope ["_law_hand_here", "_law_chart_here", "_law_costs", "_law_leads", "_law_charges", "_law_way", "_law_inner_here", "_law_k", "_law_inside", "_law_at", "_law_by", "_law_most", "_law_first", "_law_arrow"] ["_law_hand_here", "_law_chart_here"] (defScope s_L_meter) := ⟨rfl, rfl, rfl, by decide +kernel, rfl, by decide +kernel, by decide +kernel⟩
theorem ok_L_meter (T : Tx K mg) (G_L_draw : Fn P w K mg base 2 "_law_draw" ["_law_hand_here", "_law_many"] spDraw) (G_L_even_row : Fn P w K mg base 3 "_law_even_row" ["_law_hand_here", "_law_chart_here"] (spEven K)) (G_L_inner : Fn P w K mg base 2 "_law_inner" ["_law_chart_here"] (spInner K)) : Fn P w K mg base 4 "_law_meter" ["_law_hand_here", "_law_chart_here"] (spLMeter K) := by
  refine fn_mk (st := s_L_meter) T.f_L_meter T.g__law_meter sc_L_meter (fun _ _ _ _ _ _ us hl => match us, hl with | [_, _], _ => rfl) ?len (fun cdv A outer s H vs Q E hr h => ?body)
  case len => exact fun vs H Q E ⟨h, cl, x, costs, ar, e, _⟩ => by rw [e]; rfl
  case body =>
    obtain ⟨h, cl, x, costs, ar, rfl, hh, nxh, hc, gc, q⟩ := h
    refine ⟨_, (pss_cons (ps_set (i := 2) sc_L_meter.nd rfl (Or.inr rfl) (pe_ix (kIx K) (pv 1) pe_int (fun _ _ => rfl)))
      (pss_cons (ps_set (i := 3) sc_L_meter.nd rfl (Or.inr rfl) (pe_fn G_L_even_row hr rfl (pa_cons (pv 0) (pa_cons (pv 1) pa_nil))))
      (pss_cons (ps_setLc (i := 4) (own := [("_law_arrow", 13)]) rfl sc_L_meter.nd rfl rfl (sw_true rfl rfl rfl (by decide +kernel)) (kSeq K (pe_ix (kIx K) (pv 1) pe_int (fun _ _ => rfl))) (blkOk_by (own := [("_law_arrow", 13)]) (N := ["_law_hand_here", "_law_chart_here", "_law_costs", "_law_leads", "_law_charges", "_law_way", "_law_inner_here", "_law_k", "_law_inside", "_law_at", "_law_by", "_law_most", "_law_first", "_law_arrow"]) (sc := defScope s_L_meter) (by decide +kernel)) (fun _ _ _ _ _ => (pg_name (i := 13) sc_L_meter.nd rfl (by first | exact Or.inl rfl | exact Or.inr rfl))) (fun _ _ _ _ _ => pts_nil) (fun _ _ _ _ _ => (pe_op op_add (pe_op op_sub (pe_ix (kIx K) (pv 3) (pe_ix (kIx K) (pv 13) pe_int (fun _ _ => rfl)) (fun _ _ => rfl)) (pe_ix (kIx K) (pv 3) (pe_ix (kIx K) (pv 13) pe_int (fun _ _ => rfl)) (fun _ _ => rfl))) (pe_ix (kIx K) (pv 2) (pe_ix (kIx K) (pv 13) pe_int (fun _ _ => rfl)) (fun _ _ => rfl)))))
      (pss_cons (ps_set (i := 5) sc_L_meter.nd rfl (Or.inl rfl) (pe_fn G_L_draw hr rfl (pa_cons (pv 0) (pa_cons pe_int pa_nil))))
      (pss_cons (ps_set (i := 6) sc_L_meter.nd rfl (Or.inr rfl) (pe_fn G_L_inner hr rfl (pa_cons (pv 1) pa_nil)))
      (pss_cons (ps_setLc (i := 8) (own := [("_law_k", 7)]) rfl sc_L_meter.nd rfl rfl (sw_true rfl rfl rfl (by decide +kernel)) (pi_range1 rfl T.z_range (pa_cons (pe_callB (kLen K) rfl T.z_len bt_len (pa_cons (pv 4) pa_nil)) pa_nil)) (blkOk_by (own := [("_law_k", 7)]) (N := ["_law_hand_here", "_law_chart_here", "_law_costs", "_law_leads", "_law_charges", "_law_way", "_law_inner_here", "_law_k", "_law_inside", "_law_at", "_law_by", "_law_most", "_law_first", "_law_arrow"]) (sc := defScope s_L_meter) (by decide +kernel)) (fun _ _ _ _ _ => (pg_name (i := 7) sc_L_meter.nd rfl (by first | exact Or.inl rfl | exact Or.inr rfl))) (fun _ _ _ _ _ => (pts_one (pt_val (pe_ix (kIx K) (pv 6) (pv 7) (fun _ _ => rfl))))) (fun _ _ _ _ _ => (pv 7)))
      (pss_cons (ps_if (PW.pt (pw_or (pt_cmpR op_eq (pv 5) pe_int (nomark _)) (pw_or1 (pt_cmpR op_eq (pv 5) pe_int (nomark _))))) (pss_one (ps_for PassesOwn.never rfl (pi_range1 rfl T.z_range (pa_cons (pe_callB (kLen K) rfl T.z_len bt_len (pa_cons (pv 4) pa_nil)) pa_nil)) (pg_name (i := 7) sc_L_meter.nd rfl (Or.inl rfl)) (pss_one (ps_if (pt_not (pt_val (pe_ix (kIx K) (pv 6) (pv 7) (fun _ _ => rfl)))) (pss_one (ps_asg (pe_callB kMax2 rfl T.z_max bt_max (pa_cons pe_int (pa_cons (pe_op op_sub (pe_op op_add (pe_ix (kIx K) (pv 4) (pv 7) (fun _ _ => rfl)) (pe_fn G_L_draw hr rfl (pa_cons (pv 0) (pa_cons pe_int pa_nil)))) pe_int) pa_nil))) (pg_sub (pv 4) (pv 7) set_list))) pss_nil)))) pss_nil)
      (pss_cons (ps_if (PW.pt (pw_and (pt_cmpR op_gt (pv 5) pe_int (nomark _)) (pw_and (pt_cmpR op_lt (pv 5) pe_int (nomark _)) (pw_and1 (kTru K (pv 8)))))) (pss_one (ps_for PassesOwn.never rfl (pi_range1 rfl T.z_range (pa_cons (pe_op op_add pe_int (pe_fn G_L_draw hr rfl (pa_cons (pv 0) (pa_cons pe_int pa_nil)))) pa_nil)) (pg_name (i := 7) sc_L_meter.nd rfl (Or.inl rfl)) (pss_cons (ps_set (i := 9) sc_L_meter.nd rfl (Or.inl rfl) (pe_ix (kIx K) (pv 8) (pe_fn G_L_draw hr rfl (pa_cons (pv 0) (pa_cons (pe_callB (kLen K) rfl T.z_len bt_len (pa_cons (pv 8) pa_nil)) pa_nil))) (fun _ _ => rfl)))
      (pss_cons (ps_set (i := 10) sc_L_meter.nd rfl (Or.inl rfl) (pe_ix (kIx K) (pe_lst (pa_cons (pe_un un_neg pe_int) (pa_cons pe_int (pa_cons pe_int (pa_cons (pe_un un_neg pe_int) (pa_cons (pe_un un_neg (pe_op op_pow pe_int pe_int)) (pa_cons (pe_op op_pow pe_int pe_int) pa_nil))))))) (pe_fn G_L_draw hr rfl (pa_cons (pv 0) (pa_cons pe_int pa_nil))) (fun _ _ => rfl)))
      (pss_one (ps_asg (pe_callB kMax2 rfl T.z_max bt_max (pa_cons pe_int (pa_cons (pe_op op_add (pe_ix (kIx K) (pv 4) (pv 9) (fun _ _ => rfl)) (pv 10)) pa_nil))) (pg_sub (pv 4) (pv 9) set_list))))))) pss_nil)
      (pss_cons (ps_if (pt_cmpR op_eq (pv 5) pe_int (nomark _)) (pss_cons (ps_set (i := 11) sc_L_meter.nd rfl (Or.inr rfl) (pe_ix (kIx K) (pe_lst (pa_cons pe_int (pa_cons pe_int (pa_cons (pe_op op_pow pe_int pe_int) (pa_cons (pe_op op_pow pe_int pe_int) pa_nil))))) (pe_fn G_L_draw hr rfl (pa_cons (pv 0) (pa_cons pe_int pa_nil))) (fun _ _ => rfl)))
      (pss_one (ps_setLc (i := 4) (own := [("_law_arrow", 13)]) rfl sc_L_meter.nd rfl rfl (sw_true rfl rfl rfl (by decide +kernel)) (kSeq K (pv 4)) (blkOk_by (own := [("_law_arrow", 13)]) (N := ["_law_hand_here", "_law_chart_here", "_law_costs", "_law_leads", "_law_charges", "_law_way", "_law_inner_here", "_law_k", "_law_inside", "_law_at", "_law_by", "_law_most", "_law_first", "_law_arrow"]) (sc := defScope s_L_meter) (by decide +kernel)) (fun _ _ _ _ _ => (pg_name (i := 13) sc_L_meter.nd rfl (by first | exact Or.inl rfl | exact Or.inr rfl))) (fun _ _ _ _ _ => pts_nil) (fun _ _ _ _ _ => (pe_fn G_L_draw hr rfl (pa_cons (pv 0) (pa_cons (pe_op op_add (pv 11) pe_int) pa_nil))))))) pss_nil)
      (pss_cons (ps_set (i := 12) sc_L_meter.nd rfl (Or.inl rfl) (pe_ifExp (pt_cmpR op_gt (pe_fn G_L_draw hr rfl (pa_cons (pv 0) (pa_cons pe_int pa_nil))) pe_int (nomark _)) (pe_ix (kIx K) (pv 3) pe_int (fun _ _ => rfl)) (pe_op op_add (pe_ix (kIx K) (pv 3) pe_int (fun _ _ => rfl)) (pe_fn G_L_draw hr rfl (pa_cons (pv 0) (pa_cons pe_int pa_nil))))))
      (pss_one (ps_ret (pe_lst (pa_cons (pv 2) (pa_cons (pe_ix (kIx K) (pv 1) pe_int (fun _ _ => rfl)) (pa_cons (pv 12) (pa_cons (pe_callTy (kTup K) rfl T.z_tuple bt_tuple (pa_cons (pv 4) pa_nil)) pa_nil))))))))))))))))), ?_⟩
    show (_ : TS) { nx := fun _ H' => Q .non H', rt := Q } ([some (.ref h), some (.ref x), none, none, none, none, none, none, none, none, none, none, none, none] : L2.St) H
    have n1 := gc.n1
    have n2 := gc.n2
    have m1 := gc.m1
    have a0 : ∀ {tc ta : Addr}, atI ([.ref tc, .ref ta] : List V) 0 = some (.ref tc) := atI_nat (j := 0) rfl
    have a1 : ∀ {tc ta : Addr}, atI ([.ref tc, .ref ta] : List V) 1 = some (.ref ta) := atI_nat (j := 1) rfl
    obtain ⟨tc, ta, xs, c1, c2, c3, c4⟩ := id hc
    have hxl : xs.length = ar.length := by rw [c4.len, List.length_map]
    have b0 : atI ([.ref tc, .ref ta] : List V) 0 = some (.ref tc) := a0
    have b1 : atI ([.ref tc, .ref ta] : List V) 1 = some (.ref ta) := a1
    have g1 : SqA K H x [.ref tc, .ref ta] := .lst c1
    walk_at "go"
    clear g1
    refine ⟨h, cl, x, costs, ar, rfl, hh, nxh, hc, gc, fun Le ls H1 nLe e1 hh1 hLe hll hl0 hla => ?_⟩
    have nLh := hh.ne nLe
    have t1 : Tk K H H1 := hh.tk e1
    have x1 := e1.at nxh c1
    have g1 : SqA K H1 x [.ref tc, .ref ta] := .lst x1
    walk_at "go"
    refine l_seq ?_
    walk_at "go"
    clear g1
    have c31 := t1 _ _ c3
    refine ovT c31 (lp walk_tup (fun Hx e => e.tup c31) (fun k acc => ∃ ch : List Int, acc = ch.map V.int ∧ ch.length = k ∧ ChB 2000000000 ch) ⟨[], rfl, rfl, fun c hc => by cases hc⟩ ?_ ?_)
    · rintro D i y acc H2 H2' nD hi hlx hD e2 ⟨ch, rfl, hcl, hcb⟩ ⟨rfl, hy⟩
      have t2 := t1.trans (Same.tk e2)
      obtain ⟨pr, aa, hpr, rfl, g3, g4⟩ := arrow_parts (Tk.ar t2 c4) hy
      have hp2 := gc.arr pr (List.mem_of_getElem? hpr)
      have hcc := hla i pr.1 pr.2 hpr
      obtain ⟨u, hu⟩ := getElem_some (l := ls) (k := pr.1) (by omega)
      obtain ⟨v, hv⟩ := getElem_some (l := ls) (k := pr.2) (by omega)
      obtain ⟨cc, hco⟩ := getElem_some (l := costs) (k := pr.1) (by omega)
      rw [costAt_of hu, costAt_of hv, costAt_of hco] at hcc
      have g5 : SqA K H2' tc (costs.map V.int) := .inr (t2 _ _ c2)
      have g6 : SqA K H2' Le (ls.map V.int) := .lst (e2 _ _ hLe)
      have g7 : atI ([vN pr.1, vN pr.2] : List V) 0 = some (vN pr.1) := atI_nat (j := 0) rfl
      have g8 : atI ([vN pr.1, vN pr.2] : List V) 1 = some (vN pr.2) := atI_nat (j := 1) rfl
      have g9 : atI (ls.map V.int) (pr.1 : Int) = some (.int u) := atI_map hu
      have g10 : atI (ls.map V.int) (pr.2 : Int) = some (.int v) := atI_map hv
      have g11 : atI (costs.map V.int) (pr.1 : Int) = some (.int cc) := atI_map hco
      walk_at "go"
      refine ⟨rfl, ?_⟩
      walk_at "go"
      refine Lp.add nD hD e2 (Same.refl _) hlx ⟨ch ++ [v - u + cc], by simp, by simp [hcl], fun c hc => ?_⟩ (by omega)
      rcases List.mem_append.mp hc with z | z
      · exact hcb c z
      · rw [List.mem_singleton.mp z]
        exact hcc
    · rintro Ca acc H2 nCa e2 hCa hlx ⟨ch0, rfl, hcl, hcb⟩
      rw [hxl] at hcl
      have hh2 := hh1.same e2
      have nCh := hh1.ne nCa
      have nLC : Le ≠ Ca := ne_of_none hLe nCa
      have nxC : x ≠ Ca := ne_of_none x1 nCa
      walk_at "go"
      refine ⟨h, cl, 8, rfl, hh2, by omega, by omega, fun way H3 e3 hh3 w0 w1 => ?_⟩
      walk_at "go"
      have hc3 : CD K H3 x costs ar := (((hc.ek hh nxh e1).mono e2).ek hh2 nxh e3)
      refine ⟨x, costs, ar, rfl, hc3, by omega, by omega, gc.arr, fun inn bs H4 e4 nin hin hbl => ?_⟩
      have nih := hh3.ne nin
      have hC3 := e3.at nCh.1 hCa
      have niC : inn ≠ Ca := fun z => by rw [z, hC3] at nin; cases nin
      have hC4 := e4 _ _ hC3
      walk_at "go"
      refine l_r1 ?_
      walk_at "go"
      refine c_len (.lst hC4) ?_
      walk_at "go"
      rw [List.length_map, hcl]
      refine ovR1 (by omega) ?_
      rw [show ((ar.length : Nat) : Int).toNat = ar.length by omega]
      refine lp walk_range (fun _ _ => trivial) (fun k acc => ∃ is : List Nat, acc = is.map vN ∧ is.length ≤ k ∧ ∀ i ∈ is, i < ar.length) ⟨[], rfl, Nat.le_refl _, fun i hi => by cases hi⟩ ?_ ?_
      · rintro D k y acc H5 H5' nD hk hlx hD e5 ⟨is, rfl, hil, his⟩ ⟨rfl, rfl⟩
        simp only [Int.zero_add]
        obtain ⟨b, hbk⟩ := getElem_some (l := bs) (k := k) (by omega)
        have g1 : SqA K H5' inn (bs.map V.bl) := .lst (e5 _ _ hin)
        have g2 : atI (bs.map V.bl) (k : Int) = some (.bl b) := atI_map hbk
        walk_at "go"
        refine ⟨rfl, ?_⟩
        walk_at "go"
        cases b with
        | true =>
          walk_at "go"
          refine Lp.add nD hD e5 (Same.refl _) hlx ⟨is ++ [k], by simp, by simp; omega, fun i hi => ?_⟩ (by omega)
          rcases List.mem_append.mp hi with z | z
          · exact his i z
          · rw [List.mem_singleton.mp z]
            exact hk
        | false =>
          walk_at "go"
          exact Lp.skip hD e5 (Same.refl _) hlx ⟨is, rfl, by omega, his⟩
      · rintro ins acc Hb nis e5 his hlx ⟨is, rfl, hil, hisl⟩
        have nsh := (hh3.same e4).ne nis
        have nsC : ins ≠ Ca := fun z => by rw [z, hC4] at nis; cases nis
        have hCb := e5 _ _ hC4
        have hIb := e5 _ _ hin
        have hLb := e5 _ _ (e4 _ _ (e3.at nLh.1 (e2 _ _ hLe)))
        have hhb := (hh3.same e4).same e5
        have hcb5 := (hc3.mono e4).mono e5
        have e0b : Ek h H Hb := (((e1.and e2).trans e3).and e4).and e5
        have nCa0 : H Ca = none := by
          cases hx : H Ca with
          | none => rfl
          | some o =>
            rw [e1.at nCh.1 hx] at nCa
            cases nCa
        have chb : ChB 3000000000 ch0 := hcb.mono (by omega)
        obtain ⟨hhl, hhx⟩ := hhb.is
        obtain ⟨tc', ta', xs', x5, v2, v3, v4⟩ := hcb5
        have et : tc' = tc ∧ ta' = ta := by
          have z := e0b.at nxh c1
          rw [x5] at z
          cases z
          exact ⟨rfl, rfl⟩
        obtain ⟨rfl, rfl⟩ := et
        clear hLe hCa hC3 hC4 hin hlx hc3 t1 x1 c31 c2 c3 c4 hh1 hh2 hh3 e1 e2 e3 e4 e5 hxl hla
        refine c_ifJ (fun σ' H' => ∃ (ch : List Int) (o7 : Option V), σ' = [some (.ref h), some (.ref x), some (.ref tc'), some (.ref Le), some (.ref Ca), some (.int way), some (.ref inn), o7, some (.ref ins), none, none, none, none, none] ∧ E2 h Ca Hb H' ∧ HandAt H' h cl ∧ H' Ca = some (.lst (ch.map V.int)) ∧ ch.length = ar.length ∧ ChB 3000000000 ch) (fun F hF => ?_) ?_
        · walk_at "go"
          refine d2 (fun hw => ?_) fun hw => ?_
          · walk_at "go"
            refine f_r1 ?_
            walk_at "go"
            refine c_len (.lst hCb) ?_
            walk_at "go"
            rw [List.length_map, hcl]
            refine ovR1 (by omega) ?_
            rw [show ((ar.length : Nat) : Int).toNat = ar.length by omega]
            refine fo walk_range (fun k σ' H' => ∃ (ch : List Int) (o7 : Option V), σ' = [some (.ref h), some (.ref x), some (.ref tc'), some (.ref Le), some (.ref Ca), some (.int way), some (.ref inn), o7, some (.ref ins), none, none, none, none, none] ∧ E2 h Ca Hb H' ∧ HandAt H' h cl ∧ H' Ca = some (.lst (ch.map V.int)) ∧ ch.length = ar.length ∧ ChB (2000000000 + 3 * (k : Nat)) ch) ⟨ch0, _, rfl, E2.refl, hhb, hCb, hcl, hcb.mono (by omega)⟩ (fun _ _ _ _ _ => trivial) ?_ ?_
            · rintro k y σ' H6 H6' hk ⟨ch, o7, rfl, e6, hh6, hC6, hcl6, hcb6⟩ ⟨rfl, rfl⟩
              simp only [Int.zero_add]
              obtain ⟨b, hbk⟩ := getElem_some (l := bs) (k := k) (by omega)
              obtain ⟨c, hck⟩ := getElem_some (l := ch) (k := k) (by omega)
              have g1 : SqA K H6' inn (bs.map V.bl) := .lst (e6 _ _ nih.1 niC hIb)
              have g2 : atI (bs.map V.bl) (k : Int) = some (.bl b) := atI_map hbk
              have g3 : SqA K H6' Ca (ch.map V.int) := .lst hC6
              have g4 : atI (ch.map V.int) (k : Int) = some (.int c) := atI_map hck
              walk_at "go"
              cases b with
              | true =>
                walk_at "go"
                exact ⟨ch, _, rfl, e6, hh6, hC6, hcl6, hcb6.mono (by omega)⟩
              | false =>
                walk_at "go"
                refine ⟨h, cl, 7, rfl, hh6, by omega, by omega, fun r7 H7 e7 hh7 r70 r71 => ?_⟩
                have hC7 := e7.at nCh.1 hC6
                walk_at "go"
                refine c_setL (j := k) hC7 (by rw [List.length_map]; omega) ?_
                refine ⟨ch.set k (if c + r7 - 3 > 0 then c + r7 - 3 else 0), _, rfl, (e6.ek e7).set, hh7.upd nCh.1 nCh.2, by rw [upd_same, List.map_set], by simp [hcl6], (hcb6.mono (by omega)).set ?_⟩
                have := hcb6 c (List.mem_of_getElem? hck)
                split <;> omega
            · rintro σ' H6 ⟨ch, o7, rfl, e6, hh6, hC6, hcl6, hcb6⟩
              exact hF _ _ ⟨ch, _, rfl, e6, hh6, hC6, hcl6, hcb6.mono (by omega)⟩

          · walk_at "go"
            refine d2 (fun hw2 => ?_) fun hw2 => ?_
            · walk_at "go"
              refine f_r1 ?_
              walk_at "go"
              refine c_len (.lst hCb) ?_
              walk_at "go"
              rw [List.length_map, hcl]
              refine ovR1 (by omega) ?_
              rw [show ((ar.length : Nat) : Int).toNat = ar.length by omega]
              refine fo walk_range (fun k σ' H' => ∃ (ch : List Int) (o7 : Option V), σ' = [some (.ref h), some (.ref x), some (.ref tc'), some (.ref Le), some (.ref Ca), some (.int way), some (.ref inn), o7, some (.ref ins), none, none, none, none, none] ∧ E2 h Ca Hb H' ∧ HandAt H' h cl ∧ H' Ca = some (.lst (ch.map V.int)) ∧ ch.length = ar.length ∧ ChB (2000000000 + 3 * (k : Nat)) ch) ⟨ch0, _, rfl, E2.refl, hhb, hCb, hcl, hcb.mono (by omega)⟩ (fun _ _ _ _ _ => trivial) ?_ ?_
              · rintro k y σ' H6 H6' hk ⟨ch, o7, rfl, e6, hh6, hC6, hcl6, hcb6⟩ ⟨rfl, rfl⟩
                simp only [Int.zero_add]
                obtain ⟨b, hbk⟩ := getElem_some (l := bs) (k := k) (by omega)
                obtain ⟨c, hck⟩ := getElem_some (l := ch) (k := k) (by omega)
                have g1 : SqA K H6' inn (bs.map V.bl) := .lst (e6 _ _ nih.1 niC hIb)
                have g2 : atI (bs.map V.bl) (k : Int) = some (.bl b) := atI_map hbk
                have g3 : SqA K H6' Ca (ch.map V.int) := .lst hC6
                have g4 : atI (ch.map V.int) (k : Int) = some (.int c) := atI_map hck
                walk_at "go"
                cases b with
                | true =>
                  walk_at "go"
                  exact ⟨ch, _, rfl, e6, hh6, hC6, hcl6, hcb6.mono (by omega)⟩
                | false =>
                  walk_at "go"
                  refine ⟨h, cl, 7, rfl, hh6, by omega, by omega, fun r7 H7 e7 hh7 r70 r71 => ?_⟩
                  have hC7 := e7.at nCh.1 hC6
                  walk_at "go"
                  refine c_setL (j := k) hC7 (by rw [List.length_map]; omega) ?_
                  refine ⟨ch.set k (if c + r7 - 3 > 0 then c + r7 - 3 else 0), _, rfl, (e6.ek e7).set, hh7.upd nCh.1 nCh.2, by rw [upd_same, List.map_set], by simp [hcl6], (hcb6.mono (by omega)).set ?_⟩
                  have := hcb6 c (List.mem_of_getElem? hck)
                  split <;> omega
              · rintro σ' H6 ⟨ch, o7, rfl, e6, hh6, hC6, hcl6, hcb6⟩
                exact hF _ _ ⟨ch, _, rfl, e6, hh6, hC6, hcl6, hcb6.mono (by omega)⟩

            · walk_at "go"
              exact hF _ _ ⟨ch0, _, rfl, E2.refl, hhb, hCb, hcl, chb⟩
        · rintro σ' H6 ⟨ch1, o7, rfl, e6, hh6, hC6, hcl6, hcb6⟩
          refine c_ifJ (fun σ' H' => ∃ (ch : List Int) (o7 o9 o10 : Option V), σ' = [some (.ref h), some (.ref x), some (.ref tc'), some (.ref Le), some (.ref Ca), some (.int way), some (.ref inn), o7, some (.ref ins), o9, o10, none, none, none] ∧ E2 h Ca Hb H' ∧ HandAt H' h cl ∧ H' Ca = some (.lst (ch.map V.int)) ∧ ch.length = ar.length ∧ ChB 6000000000 ch) (fun F hF => ?_) ?_
          · have keep : F [some (.ref h), some (.ref x), some (.ref tc'), some (.ref Le), some (.ref Ca), some (.int way), some (.ref inn), o7, some (.ref ins), none, none, none, none, none] H6 := hF _ _ ⟨ch1, _, _, _, rfl, e6, hh6, hC6, hcl6, hcb6.mono (by omega)⟩
            have hs6 := e6 _ _ nsh.1 nsC his
            walk_at "go"
            refine d2 (fun hw => ?_) fun hw => ?_
            · walk_at "go"
              refine d2 (fun hw2 => ?_) fun hw2 => ?_
              · walk_at "go"
                refine trL (.of hs6) ?_
                refine b2 (fun hb => ?_) fun hb => ?_
                · have hi0 : 0 < is.length := by
                    cases is with
                    | nil => cases hb
                    | cons y ys => simp
                  walk_at "go"
                  refine f_r1 ?_
                  walk_at "go"
                  refine ⟨h, cl, 2, rfl, hh6, by omega, by omega, fun r7 H7 e7 hh7 r70 r71 => ?_⟩
                  have hC7 := e7.at nCh.1 hC6
                  walk_at "go"
                  refine ovR1 (by omega) ?_
                  refine fo walk_range (fun k σ' H' => ∃ (ch : List Int) (o7 o9 o10 : Option V), σ' = [some (.ref h), some (.ref x), some (.ref tc'), some (.ref Le), some (.ref Ca), some (.int way), some (.ref inn), o7, some (.ref ins), o9, o10, none, none, none] ∧ E2 h Ca Hb H' ∧ HandAt H' h cl ∧ H' Ca = some (.lst (ch.map V.int)) ∧ ch.length = ar.length ∧ ChB (3000000000 + (k : Nat) * 1000000000) ch) ⟨ch1, _, _, _, rfl, e6.ek e7, hh7, hC7, hcl6, hcb6.mono (by omega)⟩ (fun _ _ _ _ _ => trivial) ?_ ?_
                  · rintro k y σ' H8 H8' hk ⟨ch, o7, o9, o10, rfl, e8, hh8, hC8, hcl8, hcb8⟩ ⟨rfl, rfl⟩
                    have hs8 := e8 _ _ nsh.1 nsC his
                    walk_at "go"
                    refine c_len (.lst hs8) ?_
                    walk_at "go"
                    rw [List.length_map]
                    refine ⟨h, cl, _, rfl, hh8, by omega, by omega, fun r9 H9 e9 hh9 r90 r91 => ?_⟩
                    obtain ⟨ri, rfl⟩ : ∃ ri : Nat, r9 = (ri : Int) := ⟨r9.toNat, by omega⟩
                    obtain ⟨at_, hat_⟩ := getElem_some (l := is) (k := ri) (by omega)
                    have hatl := hisl at_ (List.mem_of_getElem? hat_)
                    have g1 : SqA K H9 ins (is.map vN) := .lst (e9.at nsh.1 hs8)
                    have g2 : atI (is.map vN) (ri : Int) = some (vN at_) := atI_map hat_
                    have hC9 := e9.at nCh.1 hC8
                    walk_at "go"
                    refine ⟨by show 6 ≤ sizeLine; decide, fun p np => ?_⟩
                    have eP : Same H9 (upd H9 p (.lst ([-1, 1, 2, -2, -1000000000, 1000000000].map V.int))) := Same.new np
                    walk_at "go"
                    refine ⟨h, cl, 6, rfl, hh9.same eP, by omega, by omega, fun r10 H10 e10 hh10 r100 r101 => ?_⟩
                    obtain ⟨by_, hby, hat⟩ := atI_pick (l := [-1, 1, 2, -2, -1000000000, 1000000000]) r100 (by simpa using r101)
                    have byb : -1000000000 ≤ by_ ∧ by_ ≤ 1000000000 := by simp at hby; omega
                    have g3 : SqA K H10 p ([-1, 1, 2, -2, -1000000000, 1000000000].map V.int) := .lst (e10.at (hh9.ne np).1 upd_same)
                    replace g3 : SqA K H10 p [V.int (-1), V.int 1, V.int 2, V.int (-2), V.int (-10 ^ Int.toNat 9), V.int (10 ^ Int.toNat 9)] := g3
                    replace hat : atI [V.int (-1), V.int 1, V.int 2, V.int (-2), V.int (-10 ^ Int.toNat 9), V.int (10 ^ Int.toNat 9)] r10 = some (.int by_) := hat
                    have hC10 := e10.at nCh.1 (eP _ _ hC9)
                    obtain ⟨c, hck⟩ := getElem_some (l := ch) (k := at_) (by omega)
                    have g4 : SqA K H10 Ca (ch.map V.int) := .lst hC10
                    have g5 : atI (ch.map V.int) (at_ : Int) = some (.int c) := atI_map hck
                    clear g1
                    walk_at "go"
                    refine c_setL (j := at_) hC10 (by rw [List.length_map]; omega) ?_
                    refine ⟨ch.set at_ (if c + by_ > 0 then c + by_ else 0), _, _, _, rfl, (((e8.ek e9).same eP).ek e10).set, hh10.upd nCh.1 nCh.2, by rw [upd_same, List.map_set], by simp [hcl8], (hcb8.mono (by omega)).set ?_⟩
                    have := hcb8 c (List.mem_of_getElem? hck)
                    split <;> omega
                  · rintro σ' H8 ⟨ch, o7, o9, o10, rfl, e8, hh8, hC8, hcl8, hcb8⟩
                    exact hF _ _ ⟨ch, _, _, _, rfl, e8, hh8, hC8, hcl8, hcb8.mono (by omega)⟩
                · walk_at "go"
                  exact keep
              · walk_at "go"
                exact keep
            · walk_at "go"
              exact keep
          · rintro σ' H7 ⟨ch2, o7, o9, o10, rfl, e7, hh7, hC7, hcl7, hcb7⟩
            refine c_ifJ (fun σ' H' => ∃ (Cb : Addr) (ch : List Int) (o7 o9 o10 o11 : Option V), σ' = [some (.ref h), some (.ref x), some (.ref tc'), some (.ref Le), some (.ref Cb), some (.int way), some (.ref inn), o7, some (.ref ins), o9, o10, o11, none, none] ∧ E2 h Ca Hb H' ∧ HandAt H' h cl ∧ H' Cb = some (.lst (ch.map V.int)) ∧ Cb ≠ h ∧ ch.length = ar.length ∧ ChB 1000000000000 ch) (fun F hF => ?_) ?_
            · walk_at "go"
              refine d2 (fun hw => ?_) fun hw => ?_
              · walk_at "go"
                refine ⟨by show 4 ≤ sizeLine; decide, fun p np => ?_⟩
                have eP : Same H7 (upd H7 p (.lst ([3, 8, 1000000000, 1000000000000].map V.int))) := Same.new np
                walk_at "go"
                refine ⟨h, cl, 4, rfl, hh7.same eP, by omega, by omega, fun r8 H8 e8 hh8 r80 r81 => ?_⟩
                obtain ⟨most, hmo, hat⟩ := atI_pick (l := [3, 8, 1000000000, 1000000000000]) r80 (by simpa using r81)
                have mob : 3 ≤ most ∧ most ≤ 1000000000000 := by simp at hmo; omega
                have g3 : SqA K H8 p ([3, 8, 1000000000, 1000000000000].map V.int) := .lst (e8.at (hh7.ne np).1 upd_same)
                replace g3 : SqA K H8 p [V.int 3, V.int 8, V.int (10 ^ Int.toNat 9), V.int (10 ^ Int.toNat 12)] := g3
                replace hat : atI [V.int 3, V.int 8, V.int (10 ^ Int.toNat 9), V.int (10 ^ Int.toNat 12)] r8 = some (.int most) := hat
                have hC8 := e8.at nCh.1 (eP _ _ hC7)
                walk_at "go"
                refine l_seq ?_
                walk_at "go"
                refine ovL (.of hC8) (lph walk_list hh8 (fun Hx e => .of (e.at nCh.1 hC8)) (fun k acc => ∃ ch : List Int, acc = ch.map V.int ∧ ch.length = k ∧ ChB 1000000000000 ch) ⟨[], rfl, rfl, fun c hc => by cases hc⟩ ?_ ?_)
                · rintro D i y acc H9 H9' nD hi hlx hD e9 hh9 ⟨ch, rfl, hcl9, hcb9⟩ ⟨rfl, hy⟩
                  rw [List.length_map] at hi
                  walk_at "go"
                  refine ⟨rfl, ?_⟩
                  walk_at "go"
                  refine ⟨h, cl, _, rfl, hh9, by omega, by omega, fun c H10 e10 hh10 c0 c1 => ?_⟩
                  refine Lh.add hh8 nD hD e9 e10 hh10 hlx ⟨ch ++ [c], by simp, by simp [hcl9], fun z hz => ?_⟩ (by omega)
                  rcases List.mem_append.mp hz with z1 | z1
                  · exact hcb9 z z1
                  · rw [List.mem_singleton.mp z1]
                    omega
                · rintro D acc H9 nD e9 hh9 hD hlx ⟨ch, rfl, hcl9, hcb9⟩
                  rw [List.length_map] at hcl9
                  exact hF _ _ ⟨D, ch, _, _, _, _, rfl, ((e7.same eP).ek e8).ek e9, hh9, hD, (hh8.ne nD).1, by omega, hcb9⟩
              · walk_at "go"
                exact hF _ _ ⟨Ca, ch2, _, _, _, _, rfl, e7, hh7, hC7, nCh.1, hcl7, hcb7.mono (by omega)⟩
            · rintro σ' H8 ⟨Cb, ch3, o7, o9, o10, o11, rfl, e8, hh8, hC8, nBh, hcl8, hcb8⟩
              obtain ⟨l0, hl0b⟩ := getElem_some (l := ls) (k := 0) (by omega)
              have el0 : costAt ls 0 = l0 := costAt_of hl0b
              have t8 : Tk K Hb H8 := e8.tk hhx hCb
              -- the end: first, then the meter
              have fin : ∀ (first : Int) (H9 : Hp), 0 ≤ first → first ≤ 3000000000 → Ek h H8 H9 → HandAt H9 h cl → ∀ (l p : Addr) (H10 H11 : Hp), Same H9 H10 → SqT K H10 l (ch3.map V.int) → H10 p = none → H11 = upd H10 p (.lst [.ref tc', .ref ta', .int first, .ref l]) → Q (.ref p) H11 := by
                rintro first H9 f0 f1 e9 hh9 l p H10 _ e10 hl np rfl
                have e11 : Same H10 (upd H10 p (.lst [.ref tc', .ref ta', .int first, .ref l])) := Same.new np
                have t11 : Tk K Hb (upd H10 p (.lst [.ref tc', .ref ta', .int first, .ref l])) := t8.trans ((hh8.tk e9).trans ((Same.tk e10).trans (Same.tk e11)))
                have eAll : Ek h H (upd H10 p (.lst [.ref tc', .ref ta', .int first, .ref l])) := Ek.mk fun b o hb e => by
                  have bC : b ≠ Ca := ne_of_none e nCa0
                  exact e11 _ _ (e10 _ _ (e9.at hb (e8 _ _ hb bC (e0b.at hb e))))
                have eAll0 : Ek h H H10 := Ek.mk fun b o hb e => by
                  have bC : b ≠ Ca := ne_of_none e nCa0
                  exact e10 _ _ (e9.at hb (e8 _ _ hb bC (e0b.at hb e)))
                refine q p ⟨costs, ar, first, ch3⟩ _ ?_ eAll ((hh9.same e10).same e11) ⟨tc', ta', l, xs', upd_same, t11 _ _ v2, t11 _ _ v3, Tk.ar t11 v4, e11.tup hl⟩ ⟨gc, hcl8, hcb8, f0, by show first ≤ 1000000000000; omega⟩ rfl rfl
                have nph := (hh9.same e10).ne np
                cases hx : H p with
                | none => rfl
                | some o =>
                  rw [eAll0.at nph.1 hx] at np
                  cases np
              have hL8 := e8 _ _ nLh.1 nLC hLb
              have x8 := e8 _ _ nxh nxC x5
              walk_at "go"
              refine ⟨h, cl, 4, rfl, hh8, by omega, by omega, fun r9 H9 e9 hh9 r90 r91 => ?_⟩
              have g1 : SqA K H9 Le (ls.map V.int) := .lst (e9.at nLh.1 hL8)
              have g2 : atI (ls.map V.int) 0 = some (.int l0) := atI_map hl0b
              have g3 : SqA K H9 x [.ref tc', .ref ta'] := .lst (e9.at nxh x8)
              have hC9 := e9.at nBh hC8
              walk_at "go"
              refine d2 (fun hr => ?_) fun hr => ?_
              · walk_at "go"
                refine ⟨Cb, _, rfl, .inl ⟨.of hC9, fun l nl => ?_⟩⟩
                walk_at "go"
                refine ⟨by show 4 ≤ sizeLine; decide, fun p np => ?_⟩
                exact fin l0 H9 (by omega) (by omega) e9 hh9 l p _ _ (Same.new nl) (.of upd_same) np rfl
              · walk_at "go"
                refine ⟨h, cl, 6, rfl, hh9, by omega, by omega, fun r10 H10 e10 hh10 r100 r101 => ?_⟩
                replace g3 : SqA K H10 x [.ref tc', .ref ta'] := .lst (e10.at nxh (e9.at nxh x8))
                have hC10 := e10.at nBh hC9
                walk_at "go"
                refine ⟨Cb, _, rfl, .inl ⟨.of hC10, fun l nl => ?_⟩⟩
                walk_at "go"
                refine ⟨by show 4 ≤ sizeLine; decide, fun p np => ?_⟩
                exact fin (l0 + r10) H10 (by omega) (by omega) (e9.trans e10) hh10 l p _ _ (Same.new nl) (.of upd_same) np rfl
end
end
section
/-! made, hand. -/
section
variable {P : Program} {w : World} {K : PySem.W.Frag} {mg : Str → Option Value} {base : Heap}
theorem LM.ek {H H' : Hp} {x h cl : Addr} {M : MD} (hc : LM K H x M) (hh : HandAt H h cl) (n : x ≠ h) (e : Ek h H H') : LM K H' x M := by
  obtain ⟨tc, ta, tch, xs, h1, h2, h3, h4, h5⟩ := hc
  have t : Tk K H H' := hh.tk e
  exact ⟨tc, ta, tch, xs, e.at n h1, t _ _ h2, t _ _ h3, Tk.ar t h4, t _ _ h5⟩
theorem LM.ne {H : Hp} {x a : Addr} {M : MD} (hc : LM K H x M) (na : H a = none) : x ≠ a := by
  obtain ⟨tc, ta, tch, xs, h1, _⟩ := hc
  exact ne_of_none h1 na
theorem ChartAt.ek {H H' : Hp} {c h cl : Addr} {costs : List Int} {ar : List (Nat × Nat)} (hc : ChartAt K H c costs ar) (hh : HandAt H h cl) (e : Ek h H H') : ChartAt K H' c costs ar := by
  obtain ⟨dx, fs, tc, ta, xs, h1, h2, h3, h4, h5, h6, h7⟩ := hc
  obtain ⟨l, hl⟩ := hh.is
  have t : Tk K H H' := hh.tk e
  have n : c ≠ h := fun z => by rw [z, hl] at h1; cases h1
  exact ⟨dx, fs, tc, ta, xs, e.at n h1, h2, h3, h4, t _ _ h5, t _ _ h6, Tk.ar t h7⟩
def spMade (K : PySem.W.Frag) : Sp := fun vs H Q _ => ∃ (h cl y : Addr) (M : MD), vs = [.ref h, .ref y] ∧ HandAt H h cl ∧ y ≠ h ∧ LM K H y M ∧ GoodM M ∧ ∀ a H', Ek h H H' → HandAt H' h cl → H' h ≠ none → MeterAt K H' a M → Q (.ref a) H'
theorem sc_L_made : FnScope ["_law_hand_here", "_law_meter_here"] ["_law_hand_here", "_law_meter_here"] (defScope s_L_made) := ⟨rfl, rfl, rfl, by decide +kernel, rfl, by decide +kernel, by decide +kernel⟩
theorem ok_L_made (T : Tx K mg) (G_L_take : Fn P w K mg base 3 "_law_take" ["_law_hand_here", "_law_row"] (spTake K)) (G_Chart : Mt P w K mg base 2 "Chart" "__init__" ["self", "costs", "arrows"] (spChartI K)) (G_Meter : Mt P w K mg base 2 "Meter" "__init__" ["self", "chart", "first", "charges"] (spMeterI K)) : Fn P w K mg base 4 "_law_made" ["_law_hand_here", "_law_meter_here"] (spMade K) := by
  refine fn_mk (st := s_L_made) T.f_L_made T.g__law_made sc_L_made (fun _ _ _ _ _ _ us hl => match us, hl with | [_, _], _ => rfl) ?len (fun cdv A outer s H vs Q E hr h => ?body)
  case len => exact fun vs H Q E ⟨h, cl, y, M, e, _⟩ => by rw [e]; rfl
  case body =>
    obtain ⟨h, cl, y, M, rfl, hh, nyh, hM, gm, q⟩ := h
    refine ⟨_, (pss_one (ps_ret (kMk K T.k_Meter G_Meter hr rfl T.g_Meter (pa_cons (kMk K T.k_Chart G_Chart hr rfl T.g_Chart (pa_cons (pe_fn G_L_take hr rfl (pa_cons (pv 0) (pa_cons (pe_ix (kIx K) (pv 1) pe_int (fun _ _ => rfl)) pa_nil))) (pa_cons (pe_fn G_L_take hr rfl (pa_cons (pv 0) (pa_cons (pe_ix (kIx K) (pv 1) pe_int (fun _ _ => rfl)) pa_nil))) pa_nil))) (pa_cons (pe_ix (kIx K) (pv 1) pe_int (fun _ _ => rfl)) (pa_cons (pe_fn G_L_take hr rfl (pa_cons (pv 0) (pa_cons (pe_ix (kIx K) (pv 1) pe_int (fun _ _ => rfl)) pa_nil))) pa_nil)))))), ?_⟩
    show (_ : TS) { nx := fun _ H' => Q .non H', rt := Q } ([some (.ref h), some (.ref y)] : L2.St) H
    obtain ⟨tc, ta, tch, xs, h1, h2, h3, h4, h5⟩ := id hM
    have a0 : atI ([.ref tc, .ref ta, .int M.first, .ref tch] : List V) 0 = some (.ref tc) := atI_nat (j := 0) rfl
    have a1 : atI ([.ref tc, .ref ta, .int M.first, .ref tch] : List V) 1 = some (.ref ta) := atI_nat (j := 1) rfl
    have a2 : atI ([.ref tc, .ref ta, .int M.first, .ref tch] : List V) 2 = some (.int M.first) := atI_nat (j := 2) rfl
    have a3 : atI ([.ref tc, .ref ta, .int M.first, .ref tch] : List V) 3 = some (.ref tch) := atI_nat (j := 3) rfl
    have g1 : SqA K H y [.ref tc, .ref ta, .int M.first, .ref tch] := .lst h1
    walk_at "go"
    refine ⟨h, cl, tc, _, rfl, hh, h2, fun c1 H1 e1 hh1 hc1 => ?_⟩
    have t1 : Tk K H H1 := hh.tk e1
    clear g1
    have g1 : SqA K H1 y [.ref tc, .ref ta, .int M.first, .ref tch] := .lst (e1.at nyh h1)
    walk_at "go"
    refine ⟨h, cl, ta, _, rfl, hh1, t1 _ _ h3, fun c2 H2 e2 hh2 hc2 => ?_⟩
    have t2 : Tk K H H2 := t1.trans (hh1.tk e2)
    have hc12 : SqA K H2 c1 (M.costs.map V.int) := by
      rcases hc1 with z | ⟨z1, z2⟩
      · exact .inr ((hh1.tk e2) _ _ z)
      · exact .lst (e2.at (hh.ne z1).1 z2)
    have hc22 : SqA K H2 c2 xs := by
      rcases hc2 with z | ⟨z1, z2⟩
      · exact .inr z
      · exact .lst z2
    have gc := gm.gc
    walk_at "go"
    refine mk_chart hc12 hc22 (Tk.ar t2 h4) gc.n1 (by have := gc.n2; omega) gc.co (by have := gc.m1; omega) gc.arr gc.re fun c H3 e3 nc hch => ?_
    have e03 : Ek h H H3 := (e1.trans e2).and e3
    clear g1
    have g1 : SqA K H3 y [.ref tc, .ref ta, .int M.first, .ref tch] := .lst (e03.at nyh h1)
    walk_at "go"
    refine ⟨h, cl, tch, _, rfl, hh2.same e3, (t2.trans (Same.tk e3)) _ _ h5, fun c3 H4 e4 hh4 hc3 => ?_⟩
    have hc33 : SqA K H4 c3 (M.ch.map V.int) := by
      rcases hc3 with z | ⟨z1, z2⟩
      · exact .inr z
      · exact .lst z2
    have gf := gm.f
    walk_at "go"
    refine mk_meter (hch.ek (hh2.same e3) e4) hc33 gm.ok gf gm.ch fun a H5 e5 na hm => ?_
    obtain ⟨l, hl⟩ := (hh4.same e5).is
    exact q a H5 ((e03.trans e4).and e5) (hh4.same e5) (by rw [hl]; simp) hm
end
end
section
/-! hand. -/
section
variable {P : Program} {w : World} {K : PySem.W.Frag} {mg : Str → Option Value} {base : Heap}
def spHand (K : PySem.W.Frag) : Sp := fun vs H Q _ => ∃ (s : Addr) (cells : List Int), vs = [.ref s] ∧ SqL K H s (cells.map V.int) ∧ cells.length ≤ 1000 ∧ ∀ h cl H', Same H H' → H h = none → HandAt H' h cl → Q (.ref h) H'
theorem sc_L_hand : FnScope ["_law_script", "_law_total", "_law_k", "_law_cell"] ["_law_script"] (defScope s_L_hand) := ⟨rfl, rfl, rfl, by decide +kernel, rfl, by decide +kernel, by decide +kernel⟩
theorem ok_L_hand (T : Tx K mg) : Fn P w K mg base 1 "_law_hand" ["_law_script"] (spHand K) := by
  refine fn_mk (st := s_L_hand) T.f_L_hand T.g__law_hand sc_L_hand (fun _ _ _ _ _ _ us hl => match us, hl with | [_], _ => rfl) ?len (fun cdv A outer s H vs Q E hr h => ?body)
  case len => exact fun vs H Q E ⟨s, cells, e, _⟩ => by rw [e]; rfl
  case body =>
    obtain ⟨s, cells, rfl, hs, hl, q⟩ := h
    refine ⟨_, (pss_cons (ps_set (i := 1) sc_L_hand.nd rfl (Or.inl rfl) pe_int)
      (pss_cons (ps_for PassesOwn.never rfl (kEnum K rfl T.z_enumerate (pa_cons (pv 0) pa_nil)) (kGTup K (n := 2) (pgs_cons (pg_name (i := 2) sc_L_hand.nd rfl (Or.inl rfl)) (pgs_cons (pg_name (i := 3) sc_L_hand.nd rfl (Or.inl rfl)) pgs_nil))) (pss_one (ps_set (i := 1) sc_L_hand.nd rfl (Or.inl rfl) (pe_op op_mod (pe_callTy kInt rfl T.z_int bt_int (pa_cons (pe_op op_add (pe_op op_mul (pv 1) pe_int) (pe_op op_mul (pe_callTy kInt rfl T.z_int bt_int (pa_cons (pv 3) pa_nil)) (pe_op op_add (pv 2) pe_int))) pa_nil)) pe_int))))
      (pss_one (ps_ret (pe_lst (pa_cons (pe_lc (own := [("_law_cell", 3)]) rfl sc_L_hand.nd (kSeq K (pv 0)) (blkOk_by (own := [("_law_cell", 3)]) (N := ["_law_script", "_law_total", "_law_k", "_law_cell"]) (sc := defScope s_L_hand) (by decide +kernel)) (fun _ _ _ _ _ => (pg_name (i := 3) sc_L_hand.nd rfl (by first | exact Or.inl rfl | exact Or.inr rfl))) (fun _ _ _ _ _ => pts_nil) (fun _ _ _ _ _ => (pe_callB kAbs rfl T.z_abs bt_abs (pa_cons (pe_callTy kInt rfl T.z_int bt_int (pa_cons (pv 3) pa_nil)) pa_nil)))) (pa_cons pe_int (pa_cons pe_int (pa_cons (pv 1) pa_nil))))))))), ?_⟩
    show (_ : TS) { nx := fun _ H' => Q .non H', rt := Q } ([some (.ref s), none, none, none] : L2.St) H
    walk_at "go"
    refine c_seq (f_enum ?_)
    walk_at "go"
    refine ovEL hs (fo walk_enum (fun i σ' H' => ∃ (tot : Int) (o2 o3 : Option V), σ' = [some (.ref s), some (.int tot), o2, o3] ∧ Same H H') ⟨0, _, _, rfl, Same.refl _⟩ (fun i σ' H' _ ⟨_, _, _, _, e⟩ => e.seq hs) ?_ ?_)
    · rintro i x σ' H1 H1' hi ⟨tot, o2, o3, rfl, e1⟩ ⟨T1, x1, y1, rfl, hT, rfl, hx1, hy1⟩
      cases hx1
      rw [List.length_map] at hi
      replace hy1 : (cells.map V.int)[i]? = some y1 := hy1
      obtain ⟨c, hc⟩ := getElem_some hi
      rw [List.getElem?_map, hc] at hy1
      cases hy1
      walk_at "go"
      refine c_I (.inr ⟨by omega, by omega⟩) ?_
      walk_at "go"
      exact ⟨_, _, _, rfl, e1.trans (Same.new hT)⟩
    · rintro σ' H1 ⟨tot, o2, o3, rfl, e1⟩
      dsimp only
      walk_at "go"
      refine l_seq ?_
      walk_at "go"
      refine ovL (e1.seq hs) (lp walk_list (fun Hx e => e.seq (e1.seq hs)) (fun k acc => ∃ cs : List Int, acc = cs.map V.int ∧ cs.length = k) ⟨[], rfl, rfl⟩ ?_ ?_)
      · rintro D i y acc H2 H2' nD hi hla hD e2 ⟨cs, rfl, hcl⟩ ⟨rfl, hy⟩
        rw [List.length_map] at hi
        obtain ⟨c, hc⟩ := getElem_some hi
        rw [List.getElem?_map, hc] at hy
        cases hy
        walk_at "go"
        refine ⟨rfl, ?_⟩
        walk_at "go"
        refine Lp.add nD hD e2 (Same.refl _) hla ⟨cs ++ [if c < 0 then -c else c], by simp, by simp [hcl]⟩ (by omega)
      · rintro D acc H2 nD e2 hD hla ⟨cs, rfl, hcl⟩
        walk_at "go"
        refine ⟨by show 4 ≤ sizeLine; decide, fun p np => ?_⟩
        have e3 : Same H2 (upd H2 p (.lst [.ref D, .int 0, .int 0, .int tot])) := Same.new np
        exact q p D _ ((e1.trans e2).trans e3) ((e1.trans e2).free np) ⟨ne_of_none hD np, cs, 0, 0, tot, upd_same, e3 _ _ hD⟩
end
end
section
/-! walks. -/
section
variable {P : Program} {w : World} {K : PySem.W.Frag} {mg : Str → Option Value} {base : Heap}
mutual
/-- no list in it -/
def nol : PyData → Bool
  | .tuple ds => nolAll ds
  | .list _ => false
  | .dict _ => false
  | _ => true
def nolAll : List PyData → Bool
  | [] => true
  | d :: ds => nol d && nolAll ds
end
mutual
theorem Dp.tk {H H' : Hp} (e : Tk K H H') : ∀ {d : PyData} {v : V}, nol d = true → Dp K H v d → Dp K H' v d
  | .none, _, _, h => by cases h; exact .non
  | .bool b, _, _, h => by cases h; exact .bl b
  | .int i, _, _, h => by cases h; exact .int i
  | .str x, _, _, h => by cases h; exact .str x
  | .list ds, _, n, h => by simp [nol] at n
  | .tuple ds, _, n, h => by
    cases h with
    | tup hs ha => exact .tup (e _ _ hs) (DpAll.tk e (by simpa [nol] using n) ha)
  | .dict _, _, n, h => by simp [nol] at n
theorem DpAll.tk {H H' : Hp} (e : Tk K H H') : ∀ {ds : List PyData} {vs : List V}, nolAll ds = true → DpAll K H vs ds → DpAll K H' vs ds
  | [], _, _, h => by cases h; exact .nil
  | d :: ds, _, n, h => by
    rw [nolAll, Bool.and_eq_true] at n
    cases h with
    | cons h1 h2 => exact .cons (Dp.tk e n.1 h1) (DpAll.tk e n.2 h2)
end
theorem nol_nats : ∀ r : List Nat, nolAll (r.map dN) = true
  | [] => by simp [nolAll]
  | k :: r => by
    show nolAll (dN k :: r.map dN) = true
    rw [nolAll, nol_nats r]
    simp [nol]
theorem nol_tN (r : List Nat) : nol (tN r) = true := by
  show nol (.tuple (r.map dN)) = true
  rw [nol]
  exact nol_nats r
theorem nol_map {α : Type} {f : α → PyData} (h : ∀ x, nol (f x) = true) : ∀ l : List α, nolAll (l.map f) = true
  | [] => by simp [nolAll]
  | x :: l => by
    rw [List.map_cons, nolAll, h x, nol_map h l]
    rfl
def encW (ar : List (Nat × Nat)) (st : Nat) (r : List Nat) : PyData := .tuple [tN r, tN (pls ar st r)]
theorem nol_encW {ar : List (Nat × Nat)} {st : Nat} (r : List Nat) : nol (encW ar st r) = true := by
  unfold encW
  rw [nol, nolAll, nolAll, nolAll, nol_tN, nol_tN]
  rfl
theorem Dp.encW {H : Hp} {ar : List (Nat × Nat)} {st : Nat} {r : List Nat} {v : V} (h : Dp K H v (encW ar st r)) : ∃ a t1 t2, v = .ref a ∧ SqT K H a [.ref t1, .ref t2] ∧ SqT K H t1 (r.map vN) ∧ SqT K H t2 ((pls ar st r).map vN) := by
  obtain ⟨a, ys, rfl, h1, h2⟩ := h.tupE
  cases h2 with
  | cons q1 q2 =>
    cases q2 with
    | cons q3 q4 =>
      cases q4
      obtain ⟨t1, y1, rfl, h3, h4⟩ := q1.tupE
      obtain ⟨t2, y2, rfl, h5, h6⟩ := q3.tupE
      have e1 : y1 = r.map vN := DpAll.nats h4
      have e2 : y2 = (pls ar st r).map vN := DpAll.nats h6
      subst e1 e2
      exact ⟨a, t1, t2, rfl, h1, h3, h5⟩
theorem mk_encW {H : Hp} {ar : List (Nat × Nat)} {st : Nat} {r : List Nat} {a t1 t2 : Addr} (h1 : SqT K H a [.ref t1, .ref t2]) (h2 : SqT K H t1 (r.map vN)) (h3 : SqT K H t2 ((pls ar st r).map vN)) : Dp K H (.ref a) (encW ar st r) :=
  .tup h1 (.cons (.tup h2 (DpAll.of_nats r)) (.cons (.tup h3 (DpAll.of_nats _)) .nil))
theorem c_catT {H : Hp} {a b : Addr} {xs ys : List V} {Q : VK} (ha : SqT K H a xs) (hb : SqT K H b ys) (hl : xs.length + ys.length ≤ 1000000) (q : ∀ p H', Same H H' → SqT K H' p (xs ++ ys) → Q (.ref p) H') : rCatA K (.ref a) (.ref b) H Q := by
  have big : (1000000 : Nat) ≤ sizeLine := by decide
  refine ⟨a, b, xs, ys, rfl, rfl, ha, hb, by omega, fun z => ?_, fun _ z => ?_, fun _ _ u nu => ?_⟩
  · refine q b H (Same.refl _) ?_
    rw [z, List.nil_append]
    exact hb
  · refine q a H (Same.refl _) ?_
    rw [z, List.append_nil]
    exact ha
  · exact q u _ (Same.new nu) (.of upd_same)
theorem inV_nats (k : Nat) (ls : List Nat) : inV (vN k) (ls.map vN) = decide (k ∈ ls) := by
  unfold inV
  rw [List.any_map, Bool.eq_iff_iff, List.any_eq_true]
  constructor
  · rintro ⟨x, hx, e⟩
    have e' : ((x : Int) == (k : Int)) = true := e
    have z : (x : Int) = (k : Int) := by simpa using e'
    have : x = k := by omega
    exact decide_eq_true (this ▸ hx)
  · intro h
    refine ⟨k, of_decide_eq_true h, ?_⟩
    show ((k : Int) == (k : Int)) = true
    simp
theorem c_ninT {l : Addr} {ls : List Nat} {k : Nat} {H : Hp} {Q : VK} (h : SqT K H l (ls.map vN)) (q : Q (.bl (!decide (k ∈ ls))) H) : rIn K true (vN k) (.ref l) H Q := ⟨l, _, rfl, .inr h, rfl, flat_nats ls, by rw [inV_nats]; exact q⟩
def spWalks (K : PySem.W.Frag) : Sp := fun vs H Q _ => ∃ (x : Addr) (costs : List Int) (ar : List (Nat × Nat)) (st lo : Nat), vs = [.ref x, vN st, vN lo] ∧ CD K H x costs ar ∧ GoodC costs ar ∧ lo ≤ st ∧ st < costs.length ∧
  ∀ (a : Addr) (xs : List V) (WL : List (List Nat)) H', Same H H' → H a = none → H' a = some (.lst xs) → DpAll K H' xs (WL.map (encW ar st)) → WL.length ≤ 211 → (∀ r ∈ WL, ∃ b, Sw ar st lo r b) → (∀ r b, Sw ar st lo r b → r ∈ WL) → Q (.ref a) H'
theorem sc_L_walks : FnScope ["_law_chart_here", "_law_start", "_law_lowest", "_law_told_here", "_law_at", "_law_walk", "_law_places", "_law_k", "_law_tail", "_law_head"] ["_law_chart_here", "_law_start", "_law_lowest"] (defScope s_L_walks) := ⟨rfl, rfl, rfl, by decide +kernel, rfl, by decide +kernel, by decide +kernel⟩
theorem ok_L_walks (T : Tx K mg) : Fn P w K mg base 1 "_law_walks" ["_law_chart_here", "_law_start", "_law_lowest"] (spWalks K) := by
  refine fn_mk (st := s_L_walks) T.f_L_walks T.g__law_walks sc_L_walks (fun _ _ _ _ _ _ us hl => match us, hl with | [_, _, _], _ => rfl) ?len (fun cdv A outer s H vs Q E hr h => ?body)
  case len => exact fun vs H Q E ⟨x, costs, ar, st, lo, e, _⟩ => by rw [e]; rfl
  case body =>
    obtain ⟨x, costs, ar, st, lo, rfl, hc, gc, hlo, hst, q⟩ := h
    refine ⟨_, (pss_cons (ps_set (i := 3) sc_L_walks.nd rfl (Or.inl rfl) (pe_lst (pa_cons (pe_tup (pa_cons (pe_tup pa_nil) (pa_cons (pe_tup (pa_cons (pv 1) pa_nil)) pa_nil))) pa_nil)))
      (pss_cons (ps_set (i := 4) sc_L_walks.nd rfl (Or.inl rfl) pe_int)
      (pss_cons (ps_while PassesOwn.never (PW.pt (pw_and (pt_cmpR op_lt (pv 4) (pe_callB (kLen K) rfl T.z_len bt_len (pa_cons (pv 3) pa_nil)) (nomark _)) (pw_and1 (pt_cmpR op_lt (pv 4) pe_int (nomark _))))) (pss_cons (ps_asg (pe_ix (kIx K) (pv 3) (pv 4) (fun _ _ => rfl)) (kGTup K (n := 2) (pgs_cons (pg_name (i := 5) sc_L_walks.nd rfl (Or.inl rfl)) (pgs_cons (pg_name (i := 6) sc_L_walks.nd rfl (Or.inl rfl)) pgs_nil))))
      (pss_cons (ps_for PassesOwn.never rfl (pi_range1 rfl T.z_range (pa_cons (pe_callB (kLen K) rfl T.z_len bt_len (pa_cons (pe_ix (kIx K) (pv 0) pe_int (fun _ _ => rfl)) pa_nil)) pa_nil)) (pg_name (i := 7) sc_L_walks.nd rfl (Or.inl rfl)) (pss_cons (ps_asg (pe_ix (kIx K) (pe_ix (kIx K) (pv 0) pe_int (fun _ _ => rfl)) (pv 7) (fun _ _ => rfl)) (kGTup K (n := 2) (pgs_cons (pg_name (i := 8) sc_L_walks.nd rfl (Or.inl rfl)) (pgs_cons (pg_name (i := 9) sc_L_walks.nd rfl (Or.inl rfl)) pgs_nil))))
      (pss_one (ps_if (PW.pt (pw_and (pt_cmpR op_eq (pv 8) (pe_ix (kIx K) (pv 6) (pe_un un_neg pe_int) (fun _ _ => rfl)) (nomark _)) (pw_and (pt_cmpR op_ge (pv 9) (pv 2) (nomark _)) (pw_and1 (pt_cmpR (kNotIn K) (pv 9) (pv 6) (by rfl)))))) (pss_one (ps_expr (kApp K (pv 3) (pe_tup (pa_cons (pe_op (kCat K) (pv 5) (pe_tup (pa_cons (pv 7) pa_nil))) (pa_cons (pe_op (kCat K) (pv 6) (pe_tup (pa_cons (pv 9) pa_nil))) pa_nil)))))) pss_nil))))
      (pss_one (ps_set (i := 4) sc_L_walks.nd rfl (Or.inl rfl) (pe_op op_add (pv 4) pe_int))))))
      (pss_one (ps_ret (pv 3)))))), ?_⟩
    show (_ : TS) { nx := fun _ H' => Q .non H', rt := Q } ([some (.ref x), some (vN st), some (vN lo), none, none, none, none, none, none, none] : L2.St) H
    have m1 := gc.m1
    obtain ⟨tc, ta, axs, c1, c2, c3, c4⟩ := id hc
    have hxl : axs.length = ar.length := by rw [c4.len, List.length_map]
    have a1 : atI ([.ref tc, .ref ta] : List V) 1 = some (.ref ta) := atI_nat (j := 1) rfl
    walk_at "go"
    refine ⟨Nat.zero_le _, fun p1 np1 => ?_⟩
    have e1 : Same H (upd H p1 (.tup [])) := Same.new np1
    have s1 : SqT K (upd H p1 (.tup [])) p1 (([] : List Nat).map vN) := .of upd_same
    generalize upd H p1 (.tup []) = H1 at *
    walk_at "go"
    refine ⟨by show 1 ≤ sizeLine; decide, fun p2 np2 => ?_⟩
    have e2 : Same H1 (upd H1 p2 (.tup [vN st])) := Same.new np2
    have s2 : SqT K (upd H1 p2 (.tup [vN st])) p2 ((pls ar st []).map vN) := .of upd_same
    replace s1 := e2.tup s1
    generalize upd H1 p2 (.tup [vN st]) = H2 at *
    walk_at "go"
    refine ⟨by show 2 ≤ sizeLine; decide, fun p3 np3 => ?_⟩
    have e3 : Same H2 (upd H2 p3 (.tup [.ref p1, .ref p2])) := Same.new np3
    have s3 : SqT K (upd H2 p3 (.tup [.ref p1, .ref p2])) p3 [.ref p1, .ref p2] := .of upd_same
    replace s1 := e3.tup s1
    replace s2 := e3.tup s2
    generalize upd H2 p3 (.tup [.ref p1, .ref p2]) = H3 at *
    walk_at "go"
    refine ⟨by show 1 ≤ sizeLine; decide, fun TL nTL => ?_⟩
    have e4 : Same H3 (upd H3 TL (.lst [.ref p3])) := Same.new nTL
    have hT4 : (upd H3 TL (.lst [.ref p3])) TL = some (.lst [.ref p3]) := upd_same
    have d4 : DpAll K (upd H3 TL (.lst [.ref p3])) [.ref p3] (([[]] : List (List Nat)).map (encW ar st)) := .cons (mk_encW (e4.tup s3) (e4.tup s1) (e4.tup s2)) .nil
    have e04 := ((e1.trans e2).trans e3).trans e4
    have nT0 : H TL = none := ((e1.trans e2).trans e3).free nTL
    clear s1 s2 s3 e1 e2 e3 e4
    generalize upd H3 TL (.lst [.ref p3]) = H4 at *
    walk_at "go"
    refine c_seq ?_
    refine ⟨fun m σ' H' => ∃ (i : Nat) (WL : List (List Nat)) (xs : List V) (o5 o6 o7 o8 o9 : Option V), σ' = [some (.ref x), some (vN st), some (vN lo), some (.ref TL), some (vN i), o5, o6, o7, o8, o9] ∧ Same H H' ∧ H' TL = some (.lst xs) ∧ DpAll K H' xs (WL.map (encW ar st)) ∧ i ≤ WL.length ∧ [] ∈ WL ∧ (∀ r ∈ WL, ∃ b, Sw ar st lo r b) ∧
      (∀ (j : Nat) (r : List Nat), j < i → WL[j]? = some r → ∀ b k h : Nat, Wk ar 0 st r b → ar[k]? = some (b, h) → lo ≤ h → h ∉ pls ar st r → r ++ [k] ∈ WL) ∧ i + pot ar st (WL.drop i) ≤ 211 ∧ m = 300 - i, ?_, ?_⟩
    · refine ⟨_, 0, [[]], _, _, _, _, _, _, rfl, e04, hT4, d4, Nat.zero_le _, by simp, fun r hr => ?_, fun j r hj => absurd hj (Nat.not_lt_zero _), ?_, rfl⟩
      · rw [List.mem_singleton.mp hr]
        exact ⟨st, sw_nil hlo⟩
      · have h1 := (bB_top (Nat.le_trans (avl_le (ar := ar) (st := st) []) m1)).1
        show 0 + pot ar st [[]] ≤ 211
        unfold pot
        simp only [List.map_cons, List.map_nil, List.sum_cons, List.sum_nil]
        omega
    · rintro m σ' H5 ⟨i, WL, xs, o5, o6, o7, o8, o9, rfl, e5, hT5, d5, hi, h0, hsd, hpr, hpo, rfl⟩
      have hlen : WL.length ≤ 211 := by
        have h1 := pot_len (st := st) m1 (WL.drop i)
        rw [List.length_drop] at h1
        omega
      have hxs : xs.length = WL.length := by rw [d5.len, List.length_map]
      walk_at "go"
      refine c_len (.lst hT5) ?_
      walk_at "go"
      rw [hxs]
      refine d2 (fun hlt => ?_) fun hge => ?_
      · walk_at "go"
        refine c_dt (by omega) ?_
        refine ⟨fun σ' H' => ∃ m', m' < 300 - i ∧ ∃ (i : Nat) (WL : List (List Nat)) (xs : List V) (o5 o6 o7 o8 o9 : Option V), σ' = [some (.ref x), some (vN st), some (vN lo), some (.ref TL), some (vN i), o5, o6, o7, o8, o9] ∧ Same H H' ∧ H' TL = some (.lst xs) ∧ DpAll K H' xs (WL.map (encW ar st)) ∧ i ≤ WL.length ∧ [] ∈ WL ∧ (∀ r ∈ WL, ∃ b, Sw ar st lo r b) ∧
      (∀ (j : Nat) (r : List Nat), j < i → WL[j]? = some r → ∀ b k h : Nat, Wk ar 0 st r b → ar[k]? = some (b, h) → lo ≤ h → h ∉ pls ar st r → r ++ [k] ∈ WL) ∧ i + pot ar st (WL.drop i) ≤ 211 ∧ m' = 300 - i, fun _ _ h => h, ?_⟩
        have hil : i < WL.length := by omega
        obtain ⟨r, hr⟩ := getElem_some hil
        obtain ⟨b, sb⟩ := hsd r (List.mem_of_getElem? hr)
        obtain ⟨y, hy, hyd⟩ := d5.get (i := i) (d := encW ar st r) (by rw [List.getElem?_map, hr]; rfl)
        obtain ⟨ya, t1, t2, rfl, u1, u2, u3⟩ := Dp.encW hyd
        have g1 : SqA K H5 TL xs := .lst hT5
        have g2 : atI xs (i : Int) = some (.ref ya) := atI_nat hy
        walk_at "go"
        have g3 : SqA K H5 x [.ref tc, .ref ta] := .lst (e5 _ _ c1)
        refine c_seq (f_r1 ?_)
        walk_at "go"
        refine c_len (.inr (e5.tup c3)) ?_
        walk_at "go"
        rw [hxl]
        refine ovR1 (by omega) ?_
        rw [show ((ar.length : Nat) : Int).toNat = ar.length by omega]
        clear g1 g3
        refine fo walk_range (fun j σ' H' => ∃ (ks : List Nat) (xs : List V) (o7 o8 o9 : Option V), σ' = [some (.ref x), some (vN st), some (vN lo), some (.ref TL), some (vN i), some (.ref t1), some (.ref t2), o7, o8, o9] ∧ Same H H' ∧ Tk K H5 H' ∧ H' TL = some (.lst xs) ∧ DpAll K H' xs ((WL ++ ks.map fun k => r ++ [k]).map (encW ar st)) ∧ ks.length ≤ outd ar b j ∧ ks.length ≤ j ∧
          (∀ k ∈ ks, ∃ h, ar[k]? = some (b, h) ∧ lo ≤ h ∧ h ∉ pls ar st r) ∧ ∀ k h : Nat, k < j → ar[k]? = some (b, h) → lo ≤ h → h ∉ pls ar st r → k ∈ ks) ⟨[], xs, _, _, _, rfl, e5, fun _ _ h => h, hT5, by simpa using d5, Nat.zero_le _, Nat.le_refl _, (fun k hk => by cases hk), fun k h hk => absurd hk (Nat.not_lt_zero _)⟩ (fun _ _ _ _ _ => trivial) ?_ ?_
        · rintro j z σ' H6 H6' hj ⟨ks, xs6, o7, o8, o9, rfl, e6, t6, hT6, d6, hk1, hk3, hk4, hk5⟩ ⟨rfl, rfl⟩
          simp only [Int.zero_add]
          obtain ⟨pr, hpr6⟩ := getElem_some (l := ar) (k := j) hj
          have hpr7 : ar[j]? = some (pr.1, pr.2) := hpr6
          obtain ⟨aa, g1, g2, g4, g5⟩ := ar_at (c4.mono e6) hpr6
          have g3 : SqA K H6' x [.ref tc, .ref ta] := .lst (e6 _ _ c1)
          have g6 : SqA K H6' ta axs := .inr (e6.tup c3)
          have u26 := t6 _ _ u2
          have u36 := t6 _ _ u3
          have g7 : SqA K H6' t2 ((pls ar st r).map vN) := .inr u36
          have g8 : atI ((pls ar st r).map vN) (-1) = some (vN b) := by
            rw [pls_last sb.1, List.map_append]
            exact atI_last _ _
          have hT6l : xs6.length = WL.length + ks.length := by rw [d6.len, List.length_map, List.length_append, List.length_map]
          walk_at "go"
          have keep : ¬ (pr.1 = b ∧ lo ≤ pr.2 ∧ pr.2 ∉ pls ar st r) → ∃ (ks : List Nat) (xs : List V) (o7 o8 o9 : Option V), ([some (.ref x), some (vN st), some (vN lo), some (.ref TL), some (vN i), some (.ref t1), some (.ref t2), some (vN j), some (vN pr.1), some (vN pr.2)] : L2.St) = [some (.ref x), some (vN st), some (vN lo), some (.ref TL), some (vN i), some (.ref t1), some (.ref t2), o7, o8, o9] ∧ Same H H6' ∧ Tk K H5 H6' ∧ H6' TL = some (.lst xs) ∧ DpAll K H6' xs ((WL ++ ks.map fun k => r ++ [k]).map (encW ar st)) ∧ ks.length ≤ outd ar b (j + 1) ∧ ks.length ≤ j + 1 ∧
            (∀ k ∈ ks, ∃ h, ar[k]? = some (b, h) ∧ lo ≤ h ∧ h ∉ pls ar st r) ∧ ∀ k h : Nat, k < j + 1 → ar[k]? = some (b, h) → lo ≤ h → h ∉ pls ar st r → k ∈ ks := fun hno => by
            refine ⟨ks, xs6, _, _, _, rfl, e6, t6, hT6, d6, by rw [outd_succ]; omega, by omega, hk4, fun k h hk e l n => ?_⟩
            by_cases hkj : k < j
            · exact hk5 k h hkj e l n
            · have ek : k = j := by omega
              subst ek
              rw [hpr6] at e
              cases e
              exact absurd ⟨rfl, l, n⟩ hno
          refine d2 (fun h1 => ?_) fun h1 => ?_
          · walk_at "go"
            refine d2 (fun h2 => ?_) fun h2 => ?_
            · walk_at "go"
              refine c_ninT u36 ?_
              walk_at "go"
              refine dn2 (fun h3 => ?_) fun h3 => ?_
              · have eb : pr.1 = b := by omega
                walk_at "go"
                refine ⟨by show 1 ≤ sizeLine; decide, fun p1 np1 => ?_⟩
                have e7 : Same H6' (upd H6' p1 (.tup [vN j])) := Same.new np1
                have s7 : SqT K (upd H6' p1 (.tup [vN j])) p1 [vN j] := .of upd_same
                generalize upd H6' p1 (.tup [vN j]) = H7 at *
                have hrl : r.length ≤ 9 := by
                  have h1 := nodup_bound costs.length _ sb.2.1 (sb.1.places_lt gc.arr hst)
                  rw [pls_length] at h1
                  have := gc.n2
                  omega
                refine c_catT (e7.tup u26) s7 (by simp; omega) fun w1 H8 e8 v1 => ?_
                have g7 : SqT K H8 t2 ((pls ar st r).map vN) := e8.tup (e7.tup u36)
                walk_at "go"
                refine ⟨by show 1 ≤ sizeLine; decide, fun p2 np2 => ?_⟩
                have e9 : Same H8 (upd H8 p2 (.tup [vN pr.2])) := Same.new np2
                have s9 : SqT K (upd H8 p2 (.tup [vN pr.2])) p2 [vN pr.2] := .of upd_same
                generalize upd H8 p2 (.tup [vN pr.2]) = H9 at *
                walk_at "go"
                refine c_catT (e9.tup g7) s9 (by simp [pls_length]; omega) fun w2 H10 e10 v2 => ?_
                walk_at "go"
                refine ⟨by show 2 ≤ sizeLine; decide, fun p3 np3 => ?_⟩
                have e11 : Same H10 (upd H10 p3 (.tup [.ref w1, .ref w2])) := Same.new np3
                have s11 : SqT K (upd H10 p3 (.tup [.ref w1, .ref w2])) p3 [.ref w1, .ref w2] := .of upd_same
                have v1b := e11.tup (e10.tup (e9.tup v1))
                have v2b := e11.tup v2
                have e611 : Same H6' (upd H10 p3 (.tup [.ref w1, .ref w2])) := (((e7.trans e8).trans e9).trans e10).trans e11
                generalize upd H10 p3 (.tup [.ref w1, .ref w2]) = H11 at *
                have hT11 := e611 _ _ hT6
                walk_at "go"
                refine c_app hT11 (by omega) ?_
                have tU : Tk K H11 (upd H11 TL (.lst (xs6 ++ [.ref p3]))) := Tk.lst hT11
                have eW : ((WL ++ (ks ++ [j]).map fun k => r ++ [k]).map (encW ar st)) = ((WL ++ ks.map fun k => r ++ [k]).map (encW ar st)) ++ [encW ar st (r ++ [j])] := by simp
                have dn : Dp K H11 (.ref p3) (encW ar st (r ++ [j])) := by
                  refine mk_encW s11 ?_ ?_
                  · rw [List.map_append]
                    exact v1b
                  · rw [pls_snoc, hdOf_of hpr7, List.map_append]
                    exact v2b
                refine ⟨ks ++ [j], _, _, _, _, rfl, Same.mut (e6.trans e611) nT0, t6.trans ((Same.tk e611).trans tU), upd_same, ?_, ?_, by simp; omega, fun k hk => ?_, fun k h hk e l n => ?_⟩
                · rw [eW]
                  exact (DpAll.tk tU (nol_map nol_encW _) (d6.mono e611)).append (.cons (Dp.tk tU (nol_encW _) dn) .nil)
                · rw [outd_succ, if_pos (by rw [tlOf_of hpr7]; exact eb), List.length_append, List.length_singleton]
                  omega
                · rcases List.mem_append.mp hk with z | z
                  · exact hk4 k z
                  · rw [List.mem_singleton.mp z]
                    exact ⟨pr.2, by rw [hpr7, eb], by omega, h3⟩
                · by_cases hkj : k < j
                  · exact List.mem_append_left _ (hk5 k h hkj e l n)
                  · have ek : k = j := by omega
                    simp [ek]
              · walk_at "go"
                exact keep fun z => z.2.2 h3
            · walk_at "go"
              exact keep fun z => h2 (by omega)
          · walk_at "go"
            exact keep fun z => h1 (by rw [z.1])
        · rintro σ' H6 ⟨ks, xs6, o7, o8, o9, rfl, e6, t6, hT6, d6, hk1, hk3, hk4, hk5⟩
          dsimp only
          walk_at "go"
          have eks : ∀ k ∈ ks, r ++ [k] ∈ WL ++ ks.map (fun k => r ++ [k]) := fun k hk => List.mem_append_right _ (List.mem_map.mpr ⟨k, hk, rfl⟩)
          have edr : WL.drop i = r :: WL.drop (i + 1) := by
            rw [List.drop_eq_getElem_cons hil]
            congr 1
            rw [List.getElem?_eq_getElem hil] at hr
            exact Option.some.inj hr
          have hps := pot_step (rest := WL.drop (i + 1)) (ks := ks) (i := i) m1 sb hk1 (by rw [← edr]; exact hpo)
          refine ⟨300 - (i + 1), by omega, i + 1, WL ++ ks.map fun k => r ++ [k], xs6, _, _, _, _, _, rfl, e6, hT6, d6, by rw [List.length_append]; omega, List.mem_append_left _ h0, fun r' hr' => ?_, fun j r' hj hr' b' k h w e l n => ?_, ?_, rfl⟩
          · rcases List.mem_append.mp hr' with z | z
            · exact hsd r' z
            · obtain ⟨k, hk, rfl⟩ := List.mem_map.mp z
              obtain ⟨h, g1, g2, g3⟩ := hk4 k hk
              exact ⟨h, sw_snoc sb g1 g2 g3⟩
          · by_cases hji : j < i
            · rw [List.getElem?_append_left (by omega)] at hr'
              exact List.mem_append_left _ (hpr j r' hji hr' b' k h w e l n)
            · have ej : j = i := by omega
              subst ej
              rw [List.getElem?_append_left hil, hr] at hr'
              cases hr'
              have ebb : b' = b := w.det sb.1
              subst ebb
              exact eks k (hk5 k h (List.getElem?_eq_some_iff.mp e).1 e l n)
          · rw [List.drop_append_of_le_length (by omega)]
            exact hps
      · walk_at "go"
        dsimp only
        walk_at "go"
        refine q TL xs WL _ e5 nT0 hT5 d5 hlen hsd fun r b s => ?_
        refine sw_all h0 (fun r hr b k h w e l n => ?_) r.length r b (Nat.le_refl _) s
        obtain ⟨j, hj⟩ := List.getElem?_of_mem hr
        have hjl := (List.getElem?_eq_some_iff.mp hj).1
        exact hpr j r (by omega) hj b k h w e l n
end
end
section
/-! rings, paths. -/
section
variable {P : Program} {w : World} {K : PySem.W.Frag} {mg : Str → Option Value} {base : Heap}
theorem eqv_two : ∀ x y : List Nat, PyData.eqvAll (x.map dN) (y.map dN) = decide (x = y)
  | [], [] => by simp [PyData.eqvAll]
  | [], b :: y => by
    show PyData.eqvAll [] (dN b :: y.map dN) = _
    rw [PyData.eqvAll]
    simp
  | a :: x, [] => by
    show PyData.eqvAll (dN a :: x.map dN) [] = _
    rw [PyData.eqvAll]
    simp
  | a :: x, b :: y => by
    show PyData.eqvAll (dN a :: x.map dN) (dN b :: y.map dN) = _
    rw [PyData.eqvAll, eqv_two x y, eqv_int]
    by_cases h1 : a = b
    · subst h1
      by_cases h2 : x = y <;> simp [h2]
    · have : ¬ ((a : Int) = (b : Int)) := by omega
      simp [h1, this]
theorem eqv_tN2 (x y : List Nat) : PyData.eqv (tN x) (tN y) = decide (x = y) := by
  show PyData.eqv (.tuple (x.map dN)) (.tuple (y.map dN)) = _
  rw [PyData.eqv, eqv_two]
/-- a ring is a simple walk and the arrow back -/
theorem ring_iff {ar : List (Nat × Nat)} {r : List Nat} : Ring ar r ↔ ∃ s v k b, r = v ++ [k] ∧ Sw ar s s v b ∧ ar[k]? = some (b, s) := by
  constructor
  · rintro ⟨hn, s, hw, nd⟩
    obtain ⟨v, k, rfl⟩ : ∃ v k, r = v ++ [k] := ⟨r.dropLast, r.getLast hn, (List.dropLast_concat_getLast hn).symm⟩
    obtain ⟨b, w1, e, l⟩ := Wk.snoc.mp hw
    have ep : (v ++ [k]).map (tlOf ar) = pls ar s v := by
      rw [List.map_append, ← tails_pls w1]
      simp [tlOf_of e]
    refine ⟨s, v, k, b, rfl, ⟨w1.zero, by rw [← ep]; exact nd, fun p hp => ?_⟩, e⟩
    rw [← ep] at hp
    exact hw.tails_ge p hp
  · rintro ⟨s, v, k, b, rfl, ⟨w1, nd, hge⟩, e⟩
    have ep : (v ++ [k]).map (tlOf ar) = pls ar s v := by
      rw [List.map_append, ← tails_pls w1]
      simp [tlOf_of e]
    have w2 : Wk ar 0 s (v ++ [k]) s := Wk.snoc.mpr ⟨b, w1, e, Nat.zero_le _⟩
    refine ⟨by simp, s, w2.relo fun t ht => ?_, by rw [ep]; exact nd⟩
    rw [ep] at ht
    exact hge t ht
theorem path_iff {ar : List (Nat × Nat)} {r : List Nat} {b : Nat} : Path ar r b ↔ Sw ar 0 0 r b := ⟨fun h => ⟨h.1, h.2, fun p _ => Nat.zero_le p⟩, fun h => ⟨h.1, h.2.1⟩⟩
theorem nol_encR (r : List Nat) : nol (encR r) = true := by
  unfold encR
  rw [nol, nolAll, nolAll, nolAll, nol_tN]
  simp [nol]
def spRings (K : PySem.W.Frag) : Sp := fun vs H Q _ => ∃ (x : Addr) (costs : List Int) (ar : List (Nat × Nat)), vs = [.ref x] ∧ CD K H x costs ar ∧ GoodC costs ar ∧
  ∀ (a : Addr) (xs : List V) (RS : List (List Nat)) H', Same H H' → H a = none → H' a = some (.lst xs) → DpAll K H' xs (RS.map tN) → RS.length ≤ 30000 → (∀ r, r ∈ RS ↔ Ring ar r) → RS.Pairwise OrdLe → Q (.ref a) H'
theorem sc_L_rings : FnScope ["_law_chart_here", "_law_told_here", "_law_start", "_law_walk", "_law_places", "_law_k", "_law_pair"] ["_law_chart_here"] (defScope s_L_rings) := ⟨rfl, rfl, rfl, by decide +kernel, rfl, by decide +kernel, by decide +kernel⟩
theorem ok_L_rings (T : Tx K mg) (G_L_walks : Fn P w K mg base 1 "_law_walks" ["_law_chart_here", "_law_start", "_law_lowest"] (spWalks K)) : Fn P w K mg base 2 "_law_rings" ["_law_chart_here"] (spRings K) := by
  refine fn_mk (st := s_L_rings) T.f_L_rings T.g__law_rings sc_L_rings (fun _ _ _ _ _ _ us hl => match us, hl with | [_], _ => rfl) ?len (fun cdv A outer s H vs Q E hr h => ?body)
  case len => exact fun vs H Q E ⟨x, costs, ar, e, _⟩ => by rw [e]; rfl
  case body =>
    obtain ⟨x, costs, ar, rfl, hc, gc, q⟩ := h
    refine ⟨_, (pss_cons (ps_set (i := 1) sc_L_rings.nd rfl (Or.inl rfl) (pe_lst pa_nil))
      (pss_cons (ps_for PassesOwn.never rfl (pi_range1 rfl T.z_range (pa_cons (pe_callB (kLen K) rfl T.z_len bt_len (pa_cons (pe_ix (kIx K) (pv 0) pe_int (fun _ _ => rfl)) pa_nil)) pa_nil)) (pg_name (i := 2) sc_L_rings.nd rfl (Or.inl rfl)) (pss_one (ps_for PassesOwn.never rfl (kSeq K (pe_fn G_L_walks hr rfl (pa_cons (pv 0) (pa_cons (pv 2) (pa_cons (pv 2) pa_nil))))) (kGTup K (n := 2) (pgs_cons (pg_name (i := 3) sc_L_rings.nd rfl (Or.inl rfl)) (pgs_cons (pg_name (i := 4) sc_L_rings.nd rfl (Or.inl rfl)) pgs_nil))) (pss_one (ps_for PassesOwn.never rfl (pi_range1 rfl T.z_range (pa_cons (pe_callB (kLen K) rfl T.z_len bt_len (pa_cons (pe_ix (kIx K) (pv 0) pe_int (fun _ _ => rfl)) pa_nil)) pa_nil)) (pg_name (i := 5) sc_L_rings.nd rfl (Or.inl rfl)) (pss_one (ps_if (pt_cmpR (kEqD K hr) (pe_ix (kIx K) (pe_ix (kIx K) (pv 0) pe_int (fun _ _ => rfl)) (pv 5) (fun _ _ => rfl)) (pe_tup (pa_cons (pe_ix (kIx K) (pv 4) (pe_un un_neg pe_int) (fun _ _ => rfl)) (pa_cons (pv 2) pa_nil))) (nomark _)) (pss_one (ps_expr (kApp K (pv 1) (pe_tup (pa_cons (pe_op op_add (pe_callB (kLen K) rfl T.z_len bt_len (pa_cons (pv 3) pa_nil)) pe_int) (pa_cons (pe_op (kCat K) (pv 3) (pe_tup (pa_cons (pv 5) pa_nil))) pa_nil)))))) pss_nil)))))))
      (pss_one (ps_ret (pe_lc (own := [("_law_pair", 6)]) rfl sc_L_rings.nd (kSeq K (pe_callB (kSort K hr) rfl T.z_sorted bt_sorted (pa_cons (pv 1) pa_nil))) (blkOk_by (own := [("_law_pair", 6)]) (N := ["_law_chart_here", "_law_told_here", "_law_start", "_law_walk", "_law_places", "_law_k", "_law_pair"]) (sc := defScope s_L_rings) (by decide +kernel)) (fun _ _ _ _ _ => (pg_name (i := 6) sc_L_rings.nd rfl (by first | exact Or.inl rfl | exact Or.inr rfl))) (fun _ _ _ _ _ => pts_nil) (fun _ _ _ _ _ => (pe_ix (kIx K) (pv 6) pe_int (fun _ _ => rfl)))))))), ?_⟩
    show (_ : TS) { nx := fun _ H' => Q .non H', rt := Q } ([some (.ref x), none, none, none, none, none, none] : L2.St) H
    have m1 := gc.m1
    have n2 := gc.n2
    obtain ⟨tc, ta, axs, c1, c2, c3, c4⟩ := id hc
    have hxl : axs.length = ar.length := by rw [c4.len, List.length_map]
    have a0 : atI ([.ref tc, .ref ta] : List V) 0 = some (.ref tc) := atI_nat (j := 0) rfl
    have a1 : atI ([.ref tc, .ref ta] : List V) 1 = some (.ref ta) := atI_nat (j := 1) rfl
    walk_at "go"
    refine ⟨Nat.zero_le _, fun TL nTL => ?_⟩
    have e1 : Same H (upd H TL (.lst [])) := Same.new nTL
    have hT1 : (upd H TL (.lst [])) TL = some (.lst []) := upd_same
    generalize upd H TL (.lst []) = H1 at *
    have g1 : SqA K H1 x [.ref tc, .ref ta] := .lst (e1 _ _ c1)
    walk_at "go"
    refine c_seq (f_r1 ?_)
    walk_at "go"
    refine c_len (.inr (e1.tup c2)) ?_
    walk_at "go"
    rw [List.length_map]
    refine ovR1 (by omega) ?_
    rw [show ((costs.length : Nat) : Int).toNat = costs.length by omega]
    clear g1
    refine fo walk_range (fun s σ' H' => ∃ (RS : List (List Nat)) (xs : List V) (o2 o3 o4 o5 o6 : Option V), σ' = [some (.ref x), some (.ref TL), o2, o3, o4, o5, o6] ∧ Same H H' ∧ H' TL = some (.lst xs) ∧ DpAll K H' xs (RS.map encR) ∧ RS.length ≤ s * 2743 ∧ (∀ r ∈ RS, Ring ar r) ∧ ∀ (s' : Nat) (v : List Nat) (k b : Nat), s' < s → Sw ar s' s' v b → ar[k]? = some (b, s') → v ++ [k] ∈ RS) ⟨[], [], _, _, _, _, _, rfl, e1, hT1, .nil, by simp, (fun r hr => by cases hr), fun s' v k b h => absurd h (Nat.not_lt_zero _)⟩ (fun _ _ _ _ _ => trivial) ?_ ?_
    · rintro s y σ' H2 H2' hs ⟨RS, xs, o2, o3, o4, o5, o6, rfl, e2, hT2, dd2, hRl, hsd, hcm⟩ ⟨rfl, rfl⟩
      simp only [Int.zero_add]
      walk_at "go"
      refine f_seq ?_
      walk_at "go"
      refine ⟨x, costs, ar, s, s, rfl, hc.mono e2, gc, Nat.le_refl _, hs, fun WA wxs WL H3 e3 nWA hWA dW hWl hWs hWc => ?_⟩
      have hT3 := e3 _ _ hT2
      have d3 := dd2.mono e3
      have e03 := e2.trans e3
      have nWT : WA ≠ TL := fun z => by rw [z, hT2] at nWA; cases nWA
      have hwxl : wxs.length = WL.length := by rw [dW.len, List.length_map]
      refine ovL (.of hWA) (fo walk_list (fun i σ' H' => ∃ (RS : List (List Nat)) (xs : List V) (o3 o4 o5 o6 : Option V), σ' = [some (.ref x), some (.ref TL), some (vN s), o3, o4, o5, o6] ∧ Same H H' ∧ Ek TL H3 H' ∧ H' TL = some (.lst xs) ∧ DpAll K H' xs (RS.map encR) ∧ RS.length ≤ s * 2743 + i * 13 ∧ (∀ r ∈ RS, Ring ar r) ∧ (∀ (s' : Nat) (v : List Nat) (k b : Nat), s' < s → Sw ar s' s' v b → ar[k]? = some (b, s') → v ++ [k] ∈ RS) ∧
        ∀ (j : Nat) (v : List Nat) (k b : Nat), j < i → WL[j]? = some v → Wk ar 0 s v b → ar[k]? = some (b, s) → v ++ [k] ∈ RS) ⟨RS, xs, _, _, _, _, rfl, e03, Ek.refl, hT3, d3, by omega, hsd, hcm, fun j v k b h => absurd h (Nat.not_lt_zero _)⟩ (fun i σ' H' _ ⟨_, _, _, _, _, _, _, _, e, _⟩ => .of (e.at nWT hWA)) ?_ ?_)
      · rintro i z σ' H4 H4' hi ⟨RS, xs, o3, o4, o5, o6, rfl, e4, k4, hT4, d4, hRl, hsd, hcm, hcm2⟩ ⟨rfl, hz⟩
        obtain ⟨v, hv⟩ := getElem_some (l := WL) (k := i) (by omega)
        obtain ⟨b, sb⟩ := hWs v (List.mem_of_getElem? hv)
        have tk4 : Tk K H3 H4' := Tk.ek hT3 k4
        obtain ⟨y, hy, hyd⟩ := (DpAll.tk tk4 (nol_map nol_encW _) dW).get (i := i) (d := encW ar s v) (by rw [List.getElem?_map, hv]; rfl)
        rw [hy] at hz
        cases hz
        obtain ⟨ya, t1, t2, rfl, u1, u2, u3⟩ := Dp.encW hyd
        have hvl : v.length ≤ 9 := by
          have h1 := nodup_bound costs.length _ sb.2.1 (sb.1.places_lt gc.arr hs)
          rw [pls_length] at h1
          omega
        have g3 : SqA K H4' x [.ref tc, .ref ta] := .lst (e4 _ _ c1)
        walk_at "go"
        refine f_r1 ?_
        walk_at "go"
        refine c_len (.inr (e4.tup c3)) ?_
        walk_at "go"
        rw [hxl]
        refine ovR1 (by omega) ?_
        rw [show ((ar.length : Nat) : Int).toNat = ar.length by omega]
        clear g3
        refine fo walk_range (fun k σ' H' => ∃ (RS : List (List Nat)) (xs : List V) (o5 o6 : Option V), σ' = [some (.ref x), some (.ref TL), some (vN s), some (.ref t1), some (.ref t2), o5, o6] ∧ Same H H' ∧ Ek TL H4' H' ∧ H' TL = some (.lst xs) ∧ DpAll K H' xs (RS.map encR) ∧ RS.length ≤ s * 2743 + i * 13 + k ∧ (∀ r ∈ RS, Ring ar r) ∧ (∀ (s' : Nat) (v : List Nat) (k b : Nat), s' < s → Sw ar s' s' v b → ar[k]? = some (b, s') → v ++ [k] ∈ RS) ∧
          (∀ (j : Nat) (v : List Nat) (k b : Nat), j < i → WL[j]? = some v → Wk ar 0 s v b → ar[k]? = some (b, s) → v ++ [k] ∈ RS) ∧ ∀ k' : Nat, k' < k → ar[k']? = some (b, s) → v ++ [k'] ∈ RS) ⟨RS, xs, _, _, rfl, e4, Ek.refl, hT4, d4, by omega, hsd, hcm, hcm2, fun k h => absurd h (Nat.not_lt_zero _)⟩ (fun _ _ _ _ _ => trivial) ?_ ?_
        · rintro k z σ' H5 H5' hk ⟨RS, xs, o5, o6, rfl, e5, k5, hT5, d5, hRl, hsd, hcm, hcm2, hcm3⟩ ⟨rfl, rfl⟩
          simp only [Int.zero_add]
          obtain ⟨pr, hpr⟩ := getElem_some (l := ar) (k := k) hk
          have hpr2 : ar[k]? = some (pr.1, pr.2) := hpr
          obtain ⟨aa, g1, g2, g4, g5⟩ := ar_at (c4.mono e5) hpr
          have g3 : SqA K H5' x [.ref tc, .ref ta] := .lst (e5 _ _ c1)
          have g6 : SqA K H5' ta axs := .inr (e5.tup c3)
          have tk5 : Tk K H4' H5' := Tk.ek hT4 k5
          have u25 := tk5 _ _ u2
          have u35 := tk5 _ _ u3
          have g7 : SqA K H5' t2 ((pls ar s v).map vN) := .inr u35
          have g8 : atI ((pls ar s v).map vN) (-1) = some (vN b) := by
            rw [pls_last sb.1, List.map_append]
            exact atI_last _ _
          have hxs5 : xs.length = RS.length := by rw [d5.len, List.length_map]
          walk_at "go"
          refine ⟨by show 2 ≤ sizeLine; decide, fun p1 np1 => ?_⟩
          have e6 : Same H5' (upd H5' p1 (.tup [vN b, vN s])) := Same.new np1
          have s6 : SqT K (upd H5' p1 (.tup [vN b, vN s])) p1 ([b, s].map vN) := .of upd_same
          generalize upd H5' p1 (.tup [vN b, vN s]) = H6 at *
          refine ⟨tN [pr.1, pr.2], tN [b, s], .tup (e6.tup g5) (DpAll.of_nats [pr.1, pr.2]), .tup s6 (DpAll.of_nats [b, s]), shaped_tN _, shaped_tN _, ?_⟩
          rw [eqv_tN2]
          walk_at "go"
          have hT6 := e6 _ _ hT5
          refine d2 (fun he => ?_) fun he => ?_
          · have he1 : pr.1 = b ∧ pr.2 = s := by simpa using he
            have hpb : ar[k]? = some (b, s) := by rw [hpr2, he1.1, he1.2]
            walk_at "go"
            refine c_len (.inr (e6.tup u25)) ?_
            walk_at "go"
            refine ⟨by show 1 ≤ sizeLine; decide, fun p2 np2 => ?_⟩
            have e7 : Same H6 (upd H6 p2 (.tup [vN k])) := Same.new np2
            have s7 : SqT K (upd H6 p2 (.tup [vN k])) p2 [vN k] := .of upd_same
            generalize upd H6 p2 (.tup [vN k]) = H7 at *
            refine c_catT (e7.tup (e6.tup u25)) s7 (by simp; omega) fun w1 H8 e8 v1 => ?_
            walk_at "go"
            refine ⟨by show 2 ≤ sizeLine; decide, fun p3 np3 => ?_⟩
            rw [List.length_map]
            have e9 : Same H8 (upd H8 p3 (.tup [.int ((v.length : Nat) + 1), .ref w1])) := Same.new np3
            have s9 : SqT K (upd H8 p3 (.tup [.int ((v.length : Nat) + 1), .ref w1])) p3 [.int ((v.length : Nat) + 1), .ref w1] := .of upd_same
            have v1b := e9.tup v1
            have e59 : Same H5' (upd H8 p3 (.tup [.int ((v.length : Nat) + 1), .ref w1])) := ((e6.trans e7).trans e8).trans e9
            generalize upd H8 p3 (.tup [.int ((v.length : Nat) + 1), .ref w1]) = H9 at *
            have hT9 := e59 _ _ hT5
            walk_at "go"
            refine c_app hT9 (by omega) ?_
            have tU : Tk K H9 (upd H9 TL (.lst (xs ++ [.ref p3]))) := Tk.lst hT9
            have dn : Dp K H9 (.ref p3) (encR (v ++ [k])) := by
              refine .tup (xs := [vN (v ++ [k]).length, .ref w1]) ?_ (.cons (.int _) (.cons (.tup ?_ (DpAll.of_nats (v ++ [k]))) .nil))
              · have : (vN (v ++ [k]).length) = V.int ((v.length : Nat) + 1) := by simp
                rw [this]
                exact s9
              · rw [List.map_append]
                exact v1b
            have sub : ∀ r ∈ RS, r ∈ RS ++ [v ++ [k]] := fun r hr => List.mem_append_left _ hr
            refine ⟨RS ++ [v ++ [k]], _, _, _, rfl, Same.mut (e5.trans e59) nTL, (k5.and e59).trans Ek.here, upd_same, ?_, by simp; omega, fun r hr => ?_, fun s' v' k' b' h1 h2 h3 => sub _ (hcm s' v' k' b' h1 h2 h3), fun j v' k' b' h1 h2 h3 h4 => sub _ (hcm2 j v' k' b' h1 h2 h3 h4), fun k' h1 h2 => ?_⟩
            · rw [List.map_append]
              exact (DpAll.tk tU (nol_map nol_encR _) (d5.mono e59)).append (.cons (Dp.tk tU (nol_encR _) dn) .nil)
            · rcases List.mem_append.mp hr with z | z
              · exact hsd r z
              · rw [List.mem_singleton.mp z]
                exact ring_iff.mpr ⟨s, v, k, b, rfl, sb, hpb⟩
            · by_cases hkk : k' < k
              · exact sub _ (hcm3 k' hkk h2)
              · have ek : k' = k := by omega
                subst ek
                simp
          · walk_at "go"
            refine ⟨RS, xs, _, _, rfl, e5.trans e6, k5.and e6, hT6, d5.mono e6, by omega, hsd, hcm, hcm2, fun k' h1 h2 => ?_⟩
            by_cases hkk : k' < k
            · exact hcm3 k' hkk h2
            · have ek : k' = k := by omega
              subst ek
              rw [hpr] at h2
              cases h2
              exact absurd rfl he
        · rintro σ' H5 ⟨RS, xs, o5, o6, rfl, e5, k5, hT5, d5, hRl, hsd, hcm, hcm2, hcm3⟩
          refine ⟨RS, xs, _, _, _, _, rfl, e5, k4.trans k5, hT5, d5, by omega, hsd, hcm, fun j v' k b' h1 h2 h3 h4 => ?_⟩
          by_cases hj : j < i
          · exact hcm2 j v' k b' hj h2 h3 h4
          · have ej : j = i := by omega
            subst ej
            rw [hv] at h2
            cases h2
            have eb := h3.det sb.1
            subst eb
            exact hcm3 k (List.getElem?_eq_some_iff.mp h4).1 h4
      · rintro σ' H4 ⟨RS, xs, o3, o4, o5, o6, rfl, e4, k4, hT4, d4, hRl, hsd, hcm, hcm2⟩
        refine ⟨RS, xs, _, _, _, _, _, rfl, e4, hT4, d4, ?_, hsd, fun s' v k b h1 h2 h3 => ?_⟩
        · rw [hwxl] at hRl
          have : WL.length * 13 ≤ 2743 := by omega
          have : (s + 1) * 2743 = s * 2743 + 2743 := by omega
          omega
        · by_cases hss : s' < s
          · exact hcm s' v k b hss h2 h3
          · have es : s' = s := by omega
            subst es
            obtain ⟨j, hj⟩ := List.getElem?_of_mem (hWc v b h2)
            have hjl := (List.getElem?_eq_some_iff.mp hj).1
            exact hcm2 j v k b (by omega) hj h2.1 h3
    · rintro σ' H2 ⟨RS, xs, o2, o3, o4, o5, o6, rfl, e2, hT2, d2, hRl, hsd, hcm⟩
      dsimp only
      have hall : ∀ r, r ∈ RS ↔ Ring ar r := fun r => by
        refine ⟨hsd r, fun hr => ?_⟩
        obtain ⟨s, v, k, b, rfl, sb, e⟩ := ring_iff.mp hr
        have hs : s < costs.length := (gc.arr _ (List.mem_of_getElem? e)).2
        exact hcm s v k b hs sb e
      have hRl2 : RS.length ≤ 30000 := by
        have : costs.length * 2743 ≤ 9 * 2743 := Nat.mul_le_mul_right _ n2
        omega
      obtain ⟨l', hp', hso, hpw⟩ := sort_enc encR RS
      walk_at "go"
      refine l_seq ?_
      walk_at "go"
      refine ⟨TL, xs, RS.map encR, rfl, .of hT2, d2, PySem.W.AllAlike.of fun a b => alike_encR a b, .inl fun d hd => ?_, fun d hd => ?_, fun sp zs nsp hzl hzd => ?_⟩
      · obtain ⟨r, hr, rfl⟩ := List.mem_map.mp hd
        exact ⟨_, _, rfl⟩
      · obtain ⟨r, hr, rfl⟩ := List.mem_map.mp hd
        exact depth_encR r
      · rw [hso] at hzd
        have e3 : Same H2 (upd H2 sp (.lst zs)) := Same.new nsp
        have hsp : (upd H2 sp (.lst zs)) sp = some (.lst zs) := upd_same
        have hzd3 := hzd.mono e3
        generalize upd H2 sp (.lst zs) = H3 at *
        have hzl2 : zs.length = l'.length := by rw [hzd.len, List.length_map]
        have hl'l : l'.length = RS.length := hp'.length_eq
        refine ovL (.of hsp) (lg walk_list (fun D k acc Hx => Same H3 Hx ∧ DpAll K Hx acc ((l'.take k).map tN)) (fun D nD => ⟨Same.new nD, .nil⟩) (fun D k acc Hx _ _ _ p => .of (p.1 _ _ hsp)) ?_ ?_)
        · rintro D i y acc H4 H4' nD hi hla hD ⟨e4, hacc⟩ ⟨rfl, hy⟩
          obtain ⟨r, hr⟩ := getElem_some (l := l') (k := i) (by omega)
          obtain ⟨y', hy', hyd⟩ := (hzd3.mono e4).get (i := i) (d := encR r) (by rw [List.getElem?_map, hr]; rfl)
          rw [hy'] at hy
          cases hy
          obtain ⟨ya, ys, rfl, u1, u2⟩ := hyd.tupE
          cases u2 with
          | cons q1 q2 =>
            cases q2 with
            | @cons v2 _ _ _ q3 q4 =>
              cases q4
              cases q1
              have g1 : SqA K H4' ya [.int (r.length : Nat), v2] := .inr u1
              have g2 : atI ([.int (r.length : Nat), v2] : List V) 1 = some v2 := atI_nat (j := 1) rfl
              walk_at "go"
              refine ⟨rfl, ?_⟩
              walk_at "go"
              refine Lc.add hD hla (by omega) ⟨Same.mut e4 nD, ?_⟩
              rw [List.take_add_one, hr, List.map_append]
              have tU : Tk K H4' (upd H4' D (.lst (acc ++ [v2]))) := Tk.lst hD
              exact (DpAll.tk tU (nol_map nol_tN _) hacc).append (.cons (Dp.tk tU (nol_tN _) q3) .nil)
        · rintro D acc H4 nD hD hla ⟨e4, hacc⟩
          rw [hzl2, List.take_length] at hacc
          refine q D acc l' _ ((e2.trans e3).trans e4) ((e2.trans e3).free nD) hD hacc (by omega) (fun r => (hp'.mem_iff).trans (hall r)) (hpw.imp fun h => le_encR h)
end
end
section
/-! paths, first_ring, behind_leads. -/
section
variable {P : Program} {w : World} {K : PySem.W.Frag} {mg : Str → Option Value} {base : Heap}
def encQ (p : List Nat × Nat) : PyData := .tuple [tN p.1, dN p.2]
theorem nol_encQ (p : List Nat × Nat) : nol (encQ p) = true := by
  unfold encQ
  rw [nol, nolAll, nolAll, nolAll, nol_tN]
  simp [nol]
theorem nol_encP (p : List Nat × Nat) : nol (encP p) = true := by
  unfold encP
  rw [nol, nolAll, nolAll, nolAll, nolAll, nol_tN]
  simp [nol]
def spPaths (K : PySem.W.Frag) : Sp := fun vs H Q _ => ∃ (x : Addr) (costs : List Int) (ar : List (Nat × Nat)), vs = [.ref x] ∧ CD K H x costs ar ∧ GoodC costs ar ∧
  ∀ (a : Addr) (xs : List V) (PS : List (List Nat × Nat)) H', Same H H' → H a = none → H' a = some (.lst xs) → DpAll K H' xs (PS.map encQ) → PS.length ≤ 211 → (∀ p, p ∈ PS ↔ Path ar p.1 p.2) → PS.Pairwise (fun p q => OrdLe p.1 q.1) → Q (.ref a) H'
theorem sc_L_paths : FnScope ["_law_chart_here", "_law_told_here", "_law_walk", "_law_places", "_law_one_here"] ["_law_chart_here"] (defScope s_L_paths) := ⟨rfl, rfl, rfl, by decide +kernel, rfl, by decide +kernel, by decide +kernel⟩
theorem ok_L_paths (T : Tx K mg) (G_L_walks : Fn P w K mg base 1 "_law_walks" ["_law_chart_here", "_law_start", "_law_lowest"] (spWalks K)) : Fn P w K mg base 2 "_law_paths" ["_law_chart_here"] (spPaths K) := by
  refine fn_mk (st := s_L_paths) T.f_L_paths T.g__law_paths sc_L_paths (fun _ _ _ _ _ _ us hl => match us, hl with | [_], _ => rfl) ?len (fun cdv A outer s H vs Q E hr h => ?body)
  case len => exact fun vs H Q E ⟨x, costs, ar, e, _⟩ => by rw [e]; rfl
  case body =>
    obtain ⟨x, costs, ar, rfl, hc, gc, q⟩ := h
    refine ⟨_, (pss_cons (ps_setLc (i := 1) (own := [("_law_walk", 2), ("_law_places", 3)]) rfl sc_L_paths.nd rfl rfl (sw_true rfl rfl rfl (by decide +kernel)) (kSeq K (pe_fn G_L_walks hr rfl (pa_cons (pv 0) (pa_cons pe_int (pa_cons pe_int pa_nil))))) (blkOk_by (own := [("_law_walk", 2), ("_law_places", 3)]) (N := ["_law_chart_here", "_law_told_here", "_law_walk", "_law_places", "_law_one_here"]) (sc := defScope s_L_paths) (by decide +kernel)) (fun _ _ _ _ _ => (kGTup K (n := 2) (pgs_cons (pg_name (i := 2) sc_L_paths.nd rfl (by first | exact Or.inl rfl | exact Or.inr rfl)) (pgs_cons (pg_name (i := 3) sc_L_paths.nd rfl (by first | exact Or.inl rfl | exact Or.inr rfl)) pgs_nil)))) (fun _ _ _ _ _ => pts_nil) (fun _ _ _ _ _ => (pe_tup (pa_cons (pe_callB (kLen K) rfl T.z_len bt_len (pa_cons (pv 2) pa_nil)) (pa_cons (pv 2) (pa_cons (pe_ix (kIx K) (pv 3) (pe_un un_neg pe_int) (fun _ _ => rfl)) pa_nil))))))
      (pss_one (ps_ret (pe_lc (own := [("_law_one_here", 4)]) rfl sc_L_paths.nd (kSeq K (pe_callB (kSort K hr) rfl T.z_sorted bt_sorted (pa_cons (pv 1) pa_nil))) (blkOk_by (own := [("_law_one_here", 4)]) (N := ["_law_chart_here", "_law_told_here", "_law_walk", "_law_places", "_law_one_here"]) (sc := defScope s_L_paths) (by decide +kernel)) (fun _ _ _ _ _ => (pg_name (i := 4) sc_L_paths.nd rfl (by first | exact Or.inl rfl | exact Or.inr rfl))) (fun _ _ _ _ _ => pts_nil) (fun _ _ _ _ _ => (pe_tup (pa_cons (pe_ix (kIx K) (pv 4) pe_int (fun _ _ => rfl)) (pa_cons (pe_ix (kIx K) (pv 4) pe_int (fun _ _ => rfl)) pa_nil)))))))), ?_⟩
    show (_ : TS) { nx := fun _ H' => Q .non H', rt := Q } ([some (.ref x), none, none, none, none] : L2.St) H
    walk_at "go"
    refine l_seq ?_
    walk_at "go"
    refine ⟨x, costs, ar, 0, 0, rfl, hc, gc, Nat.le_refl _, gc.n1, fun WA wxs WL H1 e1 nWA hWA dW hWl hWs hWc => ?_⟩
    have hwxl : wxs.length = WL.length := by rw [dW.len, List.length_map]
    refine ovL (.of hWA) (lg walk_list (fun D k acc Hx => Same H1 Hx ∧ ∃ PS : List (List Nat × Nat), DpAll K Hx acc (PS.map encP) ∧ PS.map (·.1) = WL.take k ∧ ∀ p ∈ PS, Path ar p.1 p.2) (fun D nD => ⟨Same.new nD, [], .nil, rfl, fun p hp => by cases hp⟩) (fun D k acc Hx _ _ _ p => .of (p.1 _ _ hWA)) ?_ ?_)
    · rintro D i z acc H2 H2' nD hi hla hD ⟨e2, PS, hacc, hpm, hpp⟩ ⟨rfl, hz⟩
      obtain ⟨v, hv⟩ := getElem_some (l := WL) (k := i) (by omega)
      obtain ⟨b, sb⟩ := hWs v (List.mem_of_getElem? hv)
      obtain ⟨y, hy, hyd⟩ := (dW.mono e2).get (i := i) (d := encW ar 0 v) (by rw [List.getElem?_map, hv]; rfl)
      rw [hy] at hz
      cases hz
      obtain ⟨ya, t1, t2, rfl, u1, u2, u3⟩ := Dp.encW hyd
      have g7 : SqA K H2' t2 ((pls ar 0 v).map vN) := .inr u3
      have g8 : atI ((pls ar 0 v).map vN) (-1) = some (vN b) := by
        rw [pls_last sb.1, List.map_append]
        exact atI_last _ _
      walk_at "go"
      refine ⟨rfl, ?_⟩
      walk_at "go"
      refine c_len (.inr u2) ?_
      walk_at "go"
      refine ⟨by show 3 ≤ sizeLine; decide, fun p3 np3 => ?_⟩
      rw [List.length_map]
      have e3 : Same H2' (upd H2' p3 (.tup [vN v.length, .ref t1, vN b])) := Same.new np3
      have s3 : SqT K (upd H2' p3 (.tup [vN v.length, .ref t1, vN b])) p3 [vN v.length, .ref t1, vN b] := .of upd_same
      have u23 := e3.tup u2
      generalize upd H2' p3 (.tup [vN v.length, .ref t1, vN b]) = H3 at *
      have hD3 := e3 _ _ hD
      refine Lc.add hD3 hla (by omega) ⟨Same.mut (e2.trans e3) nD, PS ++ [(v, b)], ?_, ?_, fun p hp => ?_⟩
      · have tU : Tk K H3 (upd H3 D (.lst (acc ++ [.ref p3]))) := Tk.lst hD3
        have dn : Dp K H3 (.ref p3) (encP (v, b)) := .tup s3 (.cons (.int _) (.cons (.tup u23 (DpAll.of_nats v)) (.cons (.int _) .nil)))
        rw [List.map_append]
        exact (DpAll.tk tU (nol_map nol_encP _) (hacc.mono e3)).append (.cons (Dp.tk tU (nol_encP _) dn) .nil)
      · rw [List.map_append, hpm, List.take_add_one, hv]
        rfl
      · rcases List.mem_append.mp hp with z | z
        · exact hpp p z
        · rw [List.mem_singleton.mp z]
          exact path_iff.mpr sb
    · rintro D acc H2 nD hD hla ⟨e2, PS, hacc, hpm, hpp⟩
      rw [hwxl, List.take_length] at hpm
      have hPl : PS.length = WL.length := by rw [← hpm, List.length_map]
      have hall : ∀ p, p ∈ PS ↔ Path ar p.1 p.2 := fun p => by
        refine ⟨hpp p, fun hp => ?_⟩
        have h1 := hWc p.1 p.2 (path_iff.mp hp)
        rw [← hpm] at h1
        obtain ⟨q', hq', e⟩ := List.mem_map.mp h1
        have h2 := hpp q' hq'
        rw [e] at h2
        have e2 := h2.1.det hp.1
        have : q' = p := Prod.ext e e2
        rw [← this]
        exact hq'
      obtain ⟨l', hp', hso, hpw⟩ := sort_enc encP PS
      walk_at "go"
      refine l_seq ?_
      walk_at "go"
      refine ⟨D, acc, PS.map encP, rfl, .of hD, hacc, PySem.W.AllAlike.of fun a b => alike_encP a b, .inl fun d hd => ?_, fun d hd => ?_, fun sp zs nsp hzl hzd => ?_⟩
      · obtain ⟨r, hr, rfl⟩ := List.mem_map.mp hd
        exact ⟨_, _, rfl⟩
      · obtain ⟨r, hr, rfl⟩ := List.mem_map.mp hd
        exact depth_encP r
      · rw [hso] at hzd
        have e3 : Same H2 (upd H2 sp (.lst zs)) := Same.new nsp
        have hsp : (upd H2 sp (.lst zs)) sp = some (.lst zs) := upd_same
        have hzd3 := hzd.mono e3
        generalize upd H2 sp (.lst zs) = H3 at *
        have hzl2 : zs.length = l'.length := by rw [hzd.len, List.length_map]
        have hl'l : l'.length = PS.length := hp'.length_eq
        refine ovL (.of hsp) (lg walk_list (fun D k acc Hx => Same H3 Hx ∧ DpAll K Hx acc ((l'.take k).map encQ)) (fun D nD => ⟨Same.new nD, .nil⟩) (fun D k acc Hx _ _ _ p => .of (p.1 _ _ hsp)) ?_ ?_)
        · rintro D2 i y acc2 H4 H4' nD2 hi hla2 hD2 ⟨e4, hacc2⟩ ⟨rfl, hy⟩
          obtain ⟨r, hr⟩ := getElem_some (l := l') (k := i) (by omega)
          obtain ⟨y', hy', hyd⟩ := (hzd3.mono e4).get (i := i) (d := encP r) (by rw [List.getElem?_map, hr]; rfl)
          rw [hy'] at hy
          cases hy
          obtain ⟨ya, ys, rfl, u1, u2⟩ := hyd.tupE
          cases u2 with
          | cons q1 q2 =>
            cases q2 with
            | @cons v2 _ _ _ q3 q4 =>
              cases q4 with
              | cons q5 q6 =>
                cases q6
                cases q5
                cases q1
                have g1 : SqA K H4' ya [.int (r.1.length : Nat), v2, .int (r.2 : Nat)] := .inr u1
                have g2 : atI ([.int (r.1.length : Nat), v2, .int (r.2 : Nat)] : List V) 1 = some v2 := atI_nat (j := 1) rfl
                have g3 : atI ([.int (r.1.length : Nat), v2, .int (r.2 : Nat)] : List V) 2 = some (.int (r.2 : Nat)) := atI_nat (j := 2) rfl
                walk_at "go"
                refine ⟨rfl, ?_⟩
                walk_at "go"
                refine ⟨by show 2 ≤ sizeLine; decide, fun p3 np3 => ?_⟩
                have e5 : Same H4' (upd H4' p3 (.tup [v2, .int (r.2 : Nat)])) := Same.new np3
                have s5 : SqT K (upd H4' p3 (.tup [v2, .int (r.2 : Nat)])) p3 [v2, .int (r.2 : Nat)] := .of upd_same
                have q35 := Dp.mono e5 q3
                generalize upd H4' p3 (.tup [v2, .int (r.2 : Nat)]) = H5 at *
                have hD5 := e5 _ _ hD2
                refine Lc.add hD5 hla2 (by omega) ⟨Same.mut (e4.trans e5) nD2, ?_⟩
                rw [List.take_add_one, hr, List.map_append]
                have tU : Tk K H5 (upd H5 D2 (.lst (acc2 ++ [.ref p3]))) := Tk.lst hD5
                have dn : Dp K H5 (.ref p3) (encQ r) := .tup s5 (.cons q35 (.cons (.int _) .nil))
                exact (DpAll.tk tU (nol_map nol_encQ _) (hacc2.mono e5)).append (.cons (Dp.tk tU (nol_encQ _) dn) .nil)
        · rintro D2 acc2 H4 nD2 hD2 hla2 ⟨e4, hacc2⟩
          rw [hzl2, List.take_length] at hacc2
          have e04 := ((e1.trans e2).trans e3).trans e4
          refine q D2 acc2 l' _ e04 (((e1.trans e2).trans e3).free nD2) hD2 hacc2 (by omega) (fun p => (hp'.mem_iff).trans (hall p)) (hpw.imp fun h => le_encP h)
/-! ### the first falling ring -/
/-- (ring, by) -/
def RingP (K : PySem.W.Frag) (H : Hp) (a : Addr) (r : List Nat) (g : Int) : Prop := ∃ t, SqT K H a [.ref t, .int g] ∧ SqT K H t (r.map vN)
theorem RingP.mono {H H' : Hp} {a : Addr} {r : List Nat} {g : Int} (h : RingP K H a r g) (e : Same H H') : RingP K H' a r g := by
  obtain ⟨t, h1, h2⟩ := h
  exact ⟨t, e.tup h1, e.tup h2⟩
theorem RingP.tk {H H' : Hp} {a : Addr} {r : List Nat} {g : Int} (h : RingP K H a r g) (e : Tk K H H') : RingP K H' a r g := by
  obtain ⟨t, h1, h2⟩ := h
  exact ⟨t, e _ _ h1, e _ _ h2⟩
def RingsAt (K : PySem.W.Frag) (H : Hp) (a : Addr) (ar : List (Nat × Nat)) : Prop := ∃ (xs : List V) (RS : List (List Nat)), H a = some (.lst xs) ∧ DpAll K H xs (RS.map tN) ∧ RS.length ≤ 30000 ∧ (∀ r, r ∈ RS ↔ Ring ar r) ∧ RS.Pairwise OrdLe
theorem RingsAt.mono {H H' : Hp} {a : Addr} {ar : List (Nat × Nat)} (h : RingsAt K H a ar) (e : Same H H') : RingsAt K H' a ar := by
  obtain ⟨xs, RS, h1, h2, h3⟩ := h
  exact ⟨xs, RS, e _ _ h1, h2.mono e, h3⟩
def PathsAt (K : PySem.W.Frag) (H : Hp) (a : Addr) (ar : List (Nat × Nat)) : Prop := ∃ (xs : List V) (PS : List (List Nat × Nat)), H a = some (.lst xs) ∧ DpAll K H xs (PS.map encQ) ∧ PS.length ≤ 211 ∧ (∀ p, p ∈ PS ↔ Path ar p.1 p.2) ∧ PS.Pairwise (fun p q => OrdLe p.1 q.1)
theorem PathsAt.mono {H H' : Hp} {a : Addr} {ar : List (Nat × Nat)} (h : PathsAt K H a ar) (e : Same H H') : PathsAt K H' a ar := by
  obtain ⟨xs, RS, h1, h2, h3⟩ := h
  exact ⟨xs, RS, e _ _ h1, h2.mono e, h3⟩
theorem ring_max {M : MD} (g : GoodM M) {r : List Nat} (h : Ring M.ar r) : r.length ≤ 9 ∧ ∀ k ∈ r, k < M.ar.length := by
  obtain ⟨hn, s, hw, nd⟩ := h
  have h1 := ring_short g.gc.arr hw nd hn
  have := g.gc.n2
  exact ⟨by omega, hw.lt⟩
def spFirstRing (K : PySem.W.Frag) : Sp := fun vs H Q _ => ∃ (x rg : Addr) (M : MD), vs = [.ref x, .ref rg, .int (-1)] ∧ LM K H x M ∧ GoodM M ∧ RingsAt K H rg M.ar ∧
  (NoFall M → ∀ H', Same H H' → Q .non H') ∧ (∀ r a H', MinFall M.ar M.g r → Same H H' → H' a ≠ none → RingP K H' a r (gs M.g r) → Q (.ref a) H')
theorem ordle_refl (x : List Nat) : OrdLe x x := .inr ⟨rfl, LexLe.refl x⟩
theorem sc_L_first_ring : FnScope ["_law_meter_here", "_law_rings_here", "_law_sense", "_law_ring", "_law_by"] ["_law_meter_here", "_law_rings_here", "_law_sense"] (defScope s_L_first_ring) := ⟨rfl, rfl, rfl, by decide +kernel, rfl, by decide +kernel, by decide +kernel⟩
theorem ok_L_first_ring (T : Tx K mg) (G_L_sum : Fn P w K mg base 2 "_law_sum" ["_law_meter_here", "_law_arrows"] (spLSum K)) : Fn P w K mg base 3 "_law_first_ring" ["_law_meter_here", "_law_rings_here", "_law_sense"] (spFirstRing K) := by
  refine fn_mk (st := s_L_first_ring) T.f_L_first_ring T.g__law_first_ring sc_L_first_ring (fun _ _ _ _ _ _ us hl => match us, hl with | [_, _, _], _ => rfl) ?len (fun cdv A outer s H vs Q E hr h => ?body)
  case len => exact fun vs H Q E ⟨x, rg, M, e, _⟩ => by rw [e]; rfl
  case body =>
    obtain ⟨x, rg, M, rfl, hM, gm, ⟨xs, RS, hrg, dR, hRl, hRi, hRp⟩, qn, qf⟩ := h
    refine ⟨_, (pss_cons (ps_for PassesOwn.never rfl (kSeq K (pv 1)) (pg_name (i := 3) sc_L_first_ring.nd rfl (Or.inl rfl)) (pss_cons (ps_set (i := 4) sc_L_first_ring.nd rfl (Or.inl rfl) (pe_fn G_L_sum hr rfl (pa_cons (pv 0) (pa_cons (pv 3) pa_nil))))
      (pss_one (ps_if (PW.pt (pw_or (PW.pt (pw_and (pt_cmpR op_eq (pv 2) pe_int (nomark _)) (pw_and1 (pt_cmpR op_ne (pv 4) pe_int (nomark _))))) (pw_or1 (pt_cmpR op_gt (pe_op op_mul (pv 2) (pv 4)) pe_int (nomark _))))) (pss_one (ps_ret (pe_tup (pa_cons (pv 3) (pa_cons (pv 4) pa_nil))))) pss_nil))))
      (pss_one (ps_ret pe_non))), ?_⟩
    show (_ : TS) { nx := fun _ H' => Q .non H', rt := Q } ([some (.ref x), some (.ref rg), some (.int (-1)), none, none] : L2.St) H
    have hxl : xs.length = RS.length := by rw [dR.len, List.length_map]
    refine c_seq (f_seq ?_)
    walk_at "go"
    refine ovL (.of hrg) (fo walk_list (fun i σ' H' => ∃ (o3 o4 : Option V), σ' = [some (.ref x), some (.ref rg), some (.int (-1)), o3, o4] ∧ Same H H' ∧ ∀ (j : Nat) (r : List Nat), j < i → RS[j]? = some r → 0 ≤ gs M.g r) ⟨_, _, rfl, Same.refl _, fun j r h => absurd h (Nat.not_lt_zero _)⟩ (fun i σ' H' _ ⟨_, _, _, e, _⟩ => .of (e _ _ hrg)) ?_ ?_)
    · rintro i z σ' H1 H1' hi ⟨o3, o4, rfl, e1, hno⟩ ⟨rfl, hz⟩
      obtain ⟨r, hri⟩ := getElem_some (l := RS) (k := i) (by omega)
      obtain ⟨y, hy, hyd⟩ := (dR.mono e1).get (i := i) (d := tN r) (by rw [List.getElem?_map, hri]; rfl)
      rw [hy] at hz
      cases hz
      obtain ⟨ya, ys, rfl, u1, u2⟩ := hyd.tupE
      have e : ys = r.map vN := DpAll.nats u2
      subst e
      have hring := (hRi r).mp (List.mem_of_getElem? hri)
      have hb := ring_max gm hring
      walk_at "go"
      refine ⟨x, ya, M, r, rfl, hM.mono e1, gm.ok, u1, hb.2, by omega, fun H2 e2 => ?_⟩
      walk_at "go"
      refine c_df (by omega) ?_
      walk_at "go"
      refine c_I (m := -1) (n := gs M.g r) (.inl ⟨by omega, by omega⟩) ?_
      walk_at "go"
      refine d2 (fun hf => ?_) fun hf => ?_
      · walk_at "go"
        refine ⟨by show 2 ≤ sizeLine; decide, fun p np => ?_⟩
        have e3 : Same H2 (upd H2 p (.tup [.ref ya, .int (gs M.g r)])) := Same.new np
        refine qf r p _ ⟨hring, by omega, fun r' h' f' => ?_⟩ ((e1.trans e2).trans e3) (by rw [upd_same]; simp) ⟨ya, .of upd_same, e3.tup (e2.tup u1)⟩
        obtain ⟨j, hj⟩ := List.getElem?_of_mem ((hRi r').mpr h')
        by_cases hji : j < i
        · have := hno j r' hji hj
          omega
        · by_cases ej : j = i
          · subst ej
            rw [hri] at hj
            cases hj
            exact ordle_refl r
          · have hil := (List.getElem?_eq_some_iff.mp hri)
            have hjl := (List.getElem?_eq_some_iff.mp hj)
            have := List.pairwise_iff_getElem.mp hRp i j hil.1 hjl.1 (by omega)
            rw [hil.2, hjl.2] at this
            exact this
      · walk_at "go"
        refine ⟨_, _, rfl, e1.trans e2, fun j r' hj hr' => ?_⟩
        by_cases hji : j < i
        · exact hno j r' hji hr'
        · have ej : j = i := by omega
          subst ej
          rw [hri] at hr'
          cases hr'
          omega
    · rintro σ' H1 ⟨o3, o4, rfl, e1, hno⟩
      dsimp only
      walk_at "go"
      refine qn (fun r hr' => ?_) _ e1
      obtain ⟨j, hj⟩ := List.getElem?_of_mem ((hRi r).mpr hr')
      have hjl := (List.getElem?_eq_some_iff.mp hj).1
      exact hno j r (by omega) hj
end
end
section
/-! behind_leads, due. -/
section
variable {P : Program} {w : World} {K : PySem.W.Frag} {mg : Str → Option Value} {base : Heap}
def encL (M : MD) (p : List Nat × Nat) : PyData := .tuple [tN p.1, .int (lead M p.1 p.2)]
theorem nol_encL (M : MD) (p : List Nat × Nat) : nol (encL M p) = true := by
  unfold encL
  rw [nol, nolAll, nolAll, nolAll, nol_tN]
  simp [nol]
theorem path_max {M : MD} (g : GoodM M) {r : List Nat} {b : Nat} (h : Path M.ar r b) : r.length ≤ 9 ∧ (∀ k ∈ r, k < M.ar.length) ∧ b < M.costs.length := by
  have h1 := Path.short g.gc.arr g.gc.n1 h
  have := g.gc.n2
  exact ⟨by omega, h.1.lt, h.1.end_lt g.ok⟩
def spBL (K : PySem.W.Frag) : Sp := fun vs H Q _ => ∃ (x pa : Addr) (M : MD) (pxs : List V) (PS : List (List Nat × Nat)), vs = [.ref x, .ref pa] ∧ LM K H x M ∧ GoodM M ∧ H pa = some (.lst pxs) ∧ DpAll K H pxs (PS.map encQ) ∧ PS.length ≤ 211 ∧ (∀ p ∈ PS, Path M.ar p.1 p.2) ∧
  ∀ (a : Addr) (xs : List V) H', Same H H' → H a = none → H' a = some (.lst xs) → DpAll K H' xs (PS.map (encL M)) → Q (.ref a) H'
theorem sc_L_behind_leads : FnScope ["_law_meter_here", "_law_paths_here", "_law_run", "_law_place"] ["_law_meter_here", "_law_paths_here"] (defScope s_L_behind_leads) := ⟨rfl, rfl, rfl, by decide +kernel, rfl, by decide +kernel, by decide +kernel⟩
theorem ok_L_behind_leads (T : Tx K mg) (G_L_sum : Fn P w K mg base 2 "_law_sum" ["_law_meter_here", "_law_arrows"] (spLSum K)) : Fn P w K mg base 3 "_law_behind_leads" ["_law_meter_here", "_law_paths_here"] (spBL K) := by
  refine fn_mk (st := s_L_behind_leads) T.f_L_behind_leads T.g__law_behind_leads sc_L_behind_leads (fun _ _ _ _ _ _ us hl => match us, hl with | [_, _], _ => rfl) ?len (fun cdv A outer s H vs Q E hr h => ?body)
  case len => exact fun vs H Q E ⟨x, pa, M, pxs, PS, e, _⟩ => by rw [e]; rfl
  case body =>
    obtain ⟨x, pa, M, pxs, PS, rfl, hM, gm, hpa, dP, hPl, hPP, q⟩ := h
    refine ⟨_, (pss_one (ps_ret (pe_lc (own := [("_law_run", 2), ("_law_place", 3)]) rfl sc_L_behind_leads.nd (kSeq K (pv 1)) (blkOk_by (own := [("_law_run", 2), ("_law_place", 3)]) (N := ["_law_meter_here", "_law_paths_here", "_law_run", "_law_place"]) (sc := defScope s_L_behind_leads) (by decide +kernel)) (fun _ _ _ _ _ => (kGTup K (n := 2) (pgs_cons (pg_name (i := 2) sc_L_behind_leads.nd rfl (by first | exact Or.inl rfl | exact Or.inr rfl)) (pgs_cons (pg_name (i := 3) sc_L_behind_leads.nd rfl (by first | exact Or.inl rfl | exact Or.inr rfl)) pgs_nil)))) (fun _ _ _ _ _ => pts_nil) (fun _ _ _ _ _ => (pe_tup (pa_cons (pv 2) (pa_cons (pe_op op_sub (pe_op op_add (pe_ix (kIx K) (pv 0) pe_int (fun _ _ => rfl)) (pe_fn G_L_sum hr rfl (pa_cons (pv 0) (pa_cons (pv 2) pa_nil)))) (pe_ix (kIx K) (pe_ix (kIx K) (pv 0) pe_int (fun _ _ => rfl)) (pv 3) (fun _ _ => rfl))) pa_nil))))))), ?_⟩
    show (_ : TS) { nx := fun _ H' => Q .non H', rt := Q } ([some (.ref x), some (.ref pa), none, none] : L2.St) H
    have hxl : pxs.length = PS.length := by rw [dP.len, List.length_map]
    walk_at "go"
    refine l_seq ?_
    walk_at "go"
    refine ovL (.of hpa) (lg walk_list (fun D k acc Hx => Same H Hx ∧ DpAll K Hx acc ((PS.take k).map (encL M))) (fun D nD => ⟨Same.new nD, .nil⟩) (fun D k acc Hx _ _ _ p => .of (p.1 _ _ hpa)) ?_ ?_)
    · rintro D i z acc H1 H1' nD hi hla hD ⟨e1, hacc⟩ ⟨rfl, hz⟩
      obtain ⟨p, hp⟩ := getElem_some (l := PS) (k := i) (by omega)
      obtain ⟨y, hy, hyd⟩ := (dP.mono e1).get (i := i) (d := encQ p) (by rw [List.getElem?_map, hp]; rfl)
      rw [hy] at hz
      cases hz
      obtain ⟨ya, ys, rfl, u1, u2⟩ := hyd.tupE
      cases u2 with
      | cons q1 q2 =>
        cases q2 with
        | cons q3 q4 =>
          cases q4
          cases q3
          obtain ⟨t1, y1, rfl, u3, u4⟩ := q1.tupE
          have e : y1 = p.1.map vN := DpAll.nats u4
          subst e
          have hpp := hPP p (List.mem_of_getElem? hp)
          have hmx := path_max gm hpp
          obtain ⟨tc, ta, tch, xs, h1, h2, h3, h4, h5⟩ := hM.mono e1
          have g1 : SqA K H1' x [.ref tc, .ref ta, .int M.first, .ref tch] := .lst h1
          have a2 : atI ([.ref tc, .ref ta, .int M.first, .ref tch] : List V) 2 = some (.int M.first) := atI_nat (j := 2) rfl
          have a0 : atI ([.ref tc, .ref ta, .int M.first, .ref tch] : List V) 0 = some (.ref tc) := atI_nat (j := 0) rfl
          walk_at "go"
          refine ⟨rfl, ?_⟩
          walk_at "go"
          refine ⟨x, t1, M, p.1, rfl, hM.mono e1, gm.ok, u3, hmx.2.1, by omega, fun H2 e2 => ?_⟩
          obtain ⟨cv, hcv⟩ := getElem_some hmx.2.2
          have g2 : SqA K H2 x [.ref tc, .ref ta, .int M.first, .ref tch] := .lst (e2 _ _ h1)
          have g3 : SqA K H2 tc (M.costs.map V.int) := .inr (e2.tup h2)
          have g4 : atI (M.costs.map V.int) (p.2 : Int) = some (.int cv) := atI_map hcv
          clear g1
          walk_at "go"
          refine ⟨by show 2 ≤ sizeLine; decide, fun p3 np3 => ?_⟩
          have e3 : Same H2 (upd H2 p3 (.tup [.ref t1, .int (M.first + gs M.g p.1 - cv)])) := Same.new np3
          have s3 : SqT K (upd H2 p3 (.tup [.ref t1, .int (M.first + gs M.g p.1 - cv)])) p3 [.ref t1, .int (M.first + gs M.g p.1 - cv)] := .of upd_same
          have u33 := e3.tup (e2.tup u3)
          generalize upd H2 p3 (.tup [.ref t1, .int (M.first + gs M.g p.1 - cv)]) = H3 at *
          have e13 := e2.trans e3
          have hD3 := e13 _ _ hD
          refine Lc.add hD3 hla (by omega) ⟨Same.mut (e1.trans e13) nD, ?_⟩
          rw [List.take_add_one, hp, List.map_append]
          have tU : Tk K H3 (upd H3 D (.lst (acc ++ [.ref p3]))) := Tk.lst hD3
          have eL : lead M p.1 p.2 = M.first + gs M.g p.1 - cv := by unfold lead; rw [costAt_of hcv]
          have dn : Dp K H3 (.ref p3) (encL M p) := by
            unfold encL
            rw [eL]
            exact .tup s3 (.cons (.tup u33 (DpAll.of_nats _)) (.cons (.int _) .nil))
          exact (DpAll.tk tU (nol_map (nol_encL M) _) (hacc.mono e13)).append (.cons (Dp.tk tU (nol_encL M _) dn) .nil)
    · rintro D acc H1 nD hD hla ⟨e1, hacc⟩
      rw [hxl, List.take_length] at hacc
      exact q D acc _ e1 nD hD hacc
/-! ### the due answer -/
def kindS (b : Bool) : Str := if b then "falls" else "short"
def resD : Option (Bool × List Nat × Int) → PyData
  | none => .none
  | some (b, r, g) => .tuple [.str (kindS b), tN r, .int g]
def IsAns (M : MD) : Option (Bool × List Nat × Int) → Prop
  | none => NoFall M ∧ ∀ r b, Path M.ar r b → 0 ≤ lead M r b
  | some (true, r, g) => MinFall M.ar M.g r ∧ g = gs M.g r
  | some (false, r, g) => NoFall M ∧ ∃ b, MinShort M r b ∧ g = -lead M r b
theorem IsAns.unique {M : MD} : ∀ {a b : Option (Bool × List Nat × Int)}, IsAns M a → IsAns M b → a = b
  | none, none, _, _ => rfl
  | none, some (true, r, g), h, k => by
    have h1 := h.1 r k.1.1
    have h2 := k.1.2.1
    omega
  | none, some (false, r, g), h, k => by
    obtain ⟨_, b, k1, _⟩ := k
    have h1 := h.2 r b k1.1
    have h2 := k1.2.1
    omega
  | some (true, r, g), none, k, h => by
    have h1 := h.1 r k.1.1
    have h2 := k.1.2.1
    omega
  | some (false, r, g), none, k, h => by
    obtain ⟨_, b, k1, _⟩ := k
    have h1 := h.2 r b k1.1
    have h2 := k1.2.1
    omega
  | some (true, r, g), some (true, r', g'), h, k => by
    obtain ⟨h1, rfl⟩ := h
    obtain ⟨k1, rfl⟩ := k
    have e := h1.unique k1
    subst e
    rfl
  | some (true, r, g), some (false, r', g'), h, k => by
    have h1 := k.1 r h.1.1
    have h2 := h.1.2.1
    omega
  | some (false, r, g), some (true, r', g'), k, h => by
    have h1 := k.1 r' h.1.1
    have h2 := h.1.2.1
    omega
  | some (false, r, g), some (false, r', g'), h, k => by
    obtain ⟨_, b, h1, rfl⟩ := h
    obtain ⟨_, b', k1, rfl⟩ := k
    obtain ⟨e1, e2⟩ := h1.unique k1
    subst e1 e2
    rfl
theorem fall_or {M : MD} (g : GoodM M) : NoFall M ∨ ∃ r, Ring M.ar r ∧ gs M.g r < 0 := by
  by_cases h : ∃ r, Ring M.ar r ∧ gs M.g r < 0
  · exact .inr h
  · exact .inl fun r hr => by
      by_cases h2 : gs M.g r < 0
      · exact absurd ⟨r, hr, h2⟩ h
      · omega
def spDue (K : PySem.W.Frag) : Sp := fun vs H Q _ => ∃ (x pa rg : Addr) (M : MD), vs = [.ref x, .ref pa, .ref rg] ∧ LM K H x M ∧ GoodM M ∧ PathsAt K H pa M.ar ∧ RingsAt K H rg M.ar ∧
  ∀ (v : V) (ans : Option (Bool × List Nat × Int)) H', Same H H' → Dp K H' v (resD ans) → IsAns M ans → Q v H'
theorem sc_L_due : FnScope ["_law_meter_here", "_law_paths_here", "_law_rings_here", "_law_fall", "_law_run", "_law_lead"] ["_law_meter_here", "_law_paths_here", "_law_rings_here"] (defScope s_L_due) := ⟨rfl, rfl, rfl, by decide +kernel, rfl, by decide +kernel, by decide +kernel⟩
theorem ok_L_due (T : Tx K mg) (G_L_first_ring : Fn P w K mg base 3 "_law_first_ring" ["_law_meter_here", "_law_rings_here", "_law_sense"] (spFirstRing K)) (G_L_behind_leads : Fn P w K mg base 3 "_law_behind_leads" ["_law_meter_here", "_law_paths_here"] (spBL K)) : Fn P w K mg base 4 "_law_due" ["_law_meter_here", "_law_paths_here", "_law_rings_here"] (spDue K) := by
  refine fn_mk (st := s_L_due) T.f_L_due T.g__law_due sc_L_due (fun _ _ _ _ _ _ us hl => match us, hl with | [_, _, _], _ => rfl) ?len (fun cdv A outer s H vs Q E hr h => ?body)
  case len => exact fun vs H Q E ⟨x, pa, rg, M, e, _⟩ => by rw [e]; rfl
  case body =>
    obtain ⟨x, pa, rg, M, rfl, hM, gm, hpa, hrg, q⟩ := h
    refine ⟨_, (pss_cons (ps_set (i := 3) sc_L_due.nd rfl (Or.inl rfl) (pe_fn G_L_first_ring hr rfl (pa_cons (pv 0) (pa_cons (pv 2) (pa_cons (pe_un un_neg pe_int) pa_nil)))))
      (pss_cons (ps_if (pt_cmpR op_notN1 (pv 3) pe_non (nomark _)) (pss_one (ps_ret (pe_tup (pa_cons pe_str (pa_cons (pe_ix (kIx K) (pv 3) pe_int (fun _ _ => rfl)) (pa_cons (pe_ix (kIx K) (pv 3) pe_int (fun _ _ => rfl)) pa_nil)))))) pss_nil)
      (pss_cons (ps_for PassesOwn.never rfl (kSeq K (pe_fn G_L_behind_leads hr rfl (pa_cons (pv 0) (pa_cons (pv 1) pa_nil)))) (kGTup K (n := 2) (pgs_cons (pg_name (i := 4) sc_L_due.nd rfl (Or.inl rfl)) (pgs_cons (pg_name (i := 5) sc_L_due.nd rfl (Or.inl rfl)) pgs_nil))) (pss_one (ps_if (pt_cmpR op_lt (pv 5) pe_int (nomark _)) (pss_one (ps_ret (pe_tup (pa_cons pe_str (pa_cons (pv 4) (pa_cons (pe_un un_neg (pv 5)) pa_nil)))))) pss_nil)))
      (pss_one (ps_ret pe_non))))), ?_⟩
    show (_ : TS) { nx := fun _ H' => Q .non H', rt := Q } ([some (.ref x), some (.ref pa), some (.ref rg), none, none, none] : L2.St) H
    walk_at "go"
    refine ⟨x, rg, M, rfl, hM, gm, hrg, fun nf H1 e1 => ?_, fun r a H1 hmf e1 na hrp => ?_⟩
    · walk_at "go"
      refine c_ndt rfl ?_
      walk_at "go"
      obtain ⟨pxs, PS, h1, h2, h3, h4, h5⟩ := hpa.mono e1
      dsimp only
      refine c_seq (f_seq ?_)
      walk_at "go"
      refine ⟨x, pa, M, pxs, PS, rfl, hM.mono e1, gm, h1, h2, h3, fun p hp => (h4 p).mp hp, fun la xs H2 e2 nla hla dL => ?_⟩
      have hxl : xs.length = PS.length := by rw [dL.len, List.length_map]
      refine ovL (.of hla) (fo walk_list (fun i σ' H' => ∃ (o4 o5 : Option V), σ' = [some (.ref x), some (.ref pa), some (.ref rg), some .non, o4, o5] ∧ Same H2 H' ∧ ∀ (j : Nat) (p : List Nat × Nat), j < i → PS[j]? = some p → 0 ≤ lead M p.1 p.2) ⟨_, _, rfl, Same.refl _, fun j r h => absurd h (Nat.not_lt_zero _)⟩ (fun i σ' H' _ ⟨_, _, _, e, _⟩ => .of (e _ _ hla)) ?_ ?_)
      · rintro i z σ' H3 H3' hi ⟨o4, o5, rfl, e3, hno⟩ ⟨rfl, hz⟩
        obtain ⟨p, hp⟩ := getElem_some (l := PS) (k := i) (by omega)
        obtain ⟨y, hy, hyd⟩ := (dL.mono e3).get (i := i) (d := encL M p) (by rw [List.getElem?_map, hp]; rfl)
        rw [hy] at hz
        cases hz
        obtain ⟨ya, ys, rfl, u1, u2⟩ := hyd.tupE
        cases u2 with
        | @cons v1 _ _ _ q1 q2 =>
          cases q2 with
          | cons q3 q4 =>
            cases q4
            cases q3
            walk_at "go"
            refine d2 (fun hf => ?_) fun hf => ?_
            · walk_at "go"
              refine ⟨by show 3 ≤ sizeLine; decide, fun p3 np3 => ?_⟩
              have e4 : Same H3' (upd H3' p3 (.tup [.str "short", v1, .int (-lead M p.1 p.2)])) := Same.new np3
              refine q _ (some (false, p.1, -lead M p.1 p.2)) _ (((e1.trans e2).trans e3).trans e4) (.tup (.of upd_same) (.cons (.str _) (.cons (Dp.mono e4 q1) (.cons (.int _) .nil)))) ⟨nf, p.2, ⟨(h4 p).mp (List.mem_of_getElem? hp), by omega, fun r' b' h' s' => ?_⟩, rfl⟩
              obtain ⟨j, hj⟩ := List.getElem?_of_mem ((h4 (r', b')).mpr h')
              by_cases hji : j < i
              · have := hno j (r', b') hji hj
                dsimp only at this
                omega
              · by_cases ej : j = i
                · subst ej
                  rw [hp] at hj
                  cases hj
                  exact ordle_refl _
                · have hil := (List.getElem?_eq_some_iff.mp hp)
                  have hjl := (List.getElem?_eq_some_iff.mp hj)
                  have := List.pairwise_iff_getElem.mp h5 i j hil.1 hjl.1 (by omega)
                  rw [hil.2, hjl.2] at this
                  exact this
            · walk_at "go"
              refine ⟨_, _, rfl, e3, fun j p' hj hp' => ?_⟩
              by_cases hji : j < i
              · exact hno j p' hji hp'
              · have ej : j = i := by omega
                subst ej
                rw [hp] at hp'
                cases hp'
                omega
      · rintro σ' H3 ⟨o4, o5, rfl, e3, hno⟩
        dsimp only
        walk_at "go"
        refine q .non none _ ((e1.trans e2).trans e3) .non ⟨nf, fun r b hp => ?_⟩
        obtain ⟨j, hj⟩ := List.getElem?_of_mem ((h4 (r, b)).mpr hp)
        have hjl := (List.getElem?_eq_some_iff.mp hj).1
        exact hno j (r, b) (by omega) hj
    · walk_at "go"
      refine c_ndf (by simp) ?_
      obtain ⟨t, t1, t2⟩ := hrp
      have g1 : SqA K H1 a [.ref t, .int (gs M.g r)] := .inr t1
      have a0 : atI ([.ref t, .int (gs M.g r)] : List V) 0 = some (.ref t) := atI_nat (j := 0) rfl
      have a1 : atI ([.ref t, .int (gs M.g r)] : List V) 1 = some (.int (gs M.g r)) := atI_nat (j := 1) rfl
      walk_at "go"
      refine ⟨by show 3 ≤ sizeLine; decide, fun p3 np3 => ?_⟩
      have e4 : Same H1 (upd H1 p3 (.tup [.str "falls", .ref t, .int (gs M.g r)])) := Same.new np3
      exact q _ (some (true, r, gs M.g r)) _ (e1.trans e4) (.tup (.of upd_same) (.cons (.str _) (.cons (.tup (e4.tup t2) (DpAll.of_nats r)) (.cons (.int _) .nil)))) ⟨hmf, rfl⟩
end
end
section
/-! exact. -/
section
variable {P : Program} {w : World} {K : PySem.W.Frag} {mg : Str → Option Value} {base : Heap}
/-- what is held against one another: depth at most n -/
def exD : Nat → PyData → Prop
  | _, .none => True
  | _, .bool _ => True
  | _, .int _ => True
  | _, .str _ => True
  | 0, _ => False
  | n + 1, .tuple ds => ds.length ≤ 1000 ∧ ∀ d ∈ ds, exD n d
  | _, _ => False
def spEx (K : PySem.W.Frag) (n : Nat) : Sp := fun vs H Q _ => ∃ (x y : V) (d : PyData), vs = [x, y] ∧ Dp K H x d ∧ Dp K H y d ∧ exD n d ∧ ∀ H', Same H H' → Q (.bl true) H'
theorem kb_nt : kitB "NoneType" "tuple" = some false := by decide +kernel
theorem kb_bt : kitB "bool" "tuple" = some false := by decide +kernel
theorem kb_it : kitB "int" "tuple" = some false := by decide +kernel
theorem kb_st : kitB "str" "tuple" = some false := by decide +kernel
theorem kb_bb : kitB "bool" "bool" = some true := by decide +kernel
theorem kb_sb : kitB "str" "bool" = some false := by decide +kernel
theorem kb_ss : kitB "str" "str" = some true := by decide +kernel
theorem kb_is : kitB "int" "str" = some false := by decide +kernel
theorem sc_L_exact : FnScope ["_law_told_here", "_law_due_here", "_law_k"] ["_law_told_here", "_law_due_here"] (defScope s_L_exact) := ⟨rfl, rfl, rfl, by decide +kernel, rfl, by decide +kernel, by decide +kernel⟩
theorem ok_exact0 (T : Tx K mg) : Fn P w K mg base 1 "_law_exact" ["_law_told_here", "_law_due_here"] (spEx K 0) := by
  refine fn_mk (st := s_L_exact) T.f_L_exact T.g__law_exact sc_L_exact (fun _ _ _ _ _ _ us hl => match us, hl with | [_, _], _ => rfl) ?len (fun cdv A outer s H vs Q E hr h => ?body)
  case len => exact fun vs H Q E ⟨x, y, d, e, _⟩ => by rw [e]; rfl
  case body =>
    obtain ⟨x, y, d, rfl, hx, hy, hd, q⟩ := h
    refine ⟨_, (pss_cons (ps_if (pt_val (pe_callB (kIsi K) rfl T.z_isinstance bt_isinstance (pa_cons (pv 1) (pa_cons (pe_bltn (v := .ty "tuple") rfl T.z_tuple bt_tuple rfl) pa_nil)))) (pss_cons (ps_if (PW.pt (pw_or (pt_not (pt_val (pe_callB (kIsi K) rfl T.z_isinstance bt_isinstance (pa_cons (pv 0) (pa_cons (pe_bltn (v := .ty "tuple") rfl T.z_tuple bt_tuple rfl) pa_nil))))) (pw_or1 (pt_cmpR op_ne (pe_callB (kLen K) rfl T.z_len bt_len (pa_cons (pv 0) pa_nil)) (pe_callB (kLen K) rfl T.z_len bt_len (pa_cons (pv 1) pa_nil)) (nomark _))))) (pss_one (ps_ret pe_bl)) pss_nil)
      (pss_one (ps_ret (pe_cmpR (kEqD K hr) (pe_lc (own := [("_law_k", 2)]) rfl sc_L_exact.nd (pi_range1 rfl T.z_range (pa_cons (pe_callB (kLen K) rfl T.z_len bt_len (pa_cons (pv 1) pa_nil)) pa_nil)) (blkOk_by (own := [("_law_k", 2)]) (N := ["_law_told_here", "_law_due_here", "_law_k"]) (sc := defScope s_L_exact) (by decide +kernel)) (fun _ _ _ _ _ => (pg_name (i := 2) sc_L_exact.nd rfl (by first | exact Or.inl rfl | exact Or.inr rfl))) (fun _ _ _ _ _ => (pts_one (pt_not (pt_val pe_never)))) (fun _ _ _ _ _ => (pv 2))) (pe_lst pa_nil) (nomark _))))) pss_nil)
      (pss_cons (ps_if (pt_cmpR op_isN1 (pv 1) pe_non (nomark _)) (pss_one (ps_ret (pe_cmpR op_isN1 (pv 0) pe_non (nomark _)))) pss_nil)
      (pss_cons (ps_if (pt_val (pe_callB (kIsi K) rfl T.z_isinstance bt_isinstance (pa_cons (pv 1) (pa_cons (pe_bltn (v := .ty "bool") rfl T.z_bool bt_bool rfl) pa_nil)))) (pss_one (ps_ret (pe_ifExp (pt_val (pv 1)) (pe_cmpR op_isBl (pv 0) pe_bl (nomark _)) (pe_cmpR op_isBl (pv 0) pe_bl (nomark _))))) pss_nil)
      (pss_cons (ps_if (pt_val (pe_callB (kIsi K) rfl T.z_isinstance bt_isinstance (pa_cons (pv 1) (pa_cons (pe_bltn (v := .ty "str") rfl T.z_str bt_str rfl) pa_nil)))) (pss_one (ps_ret (pe_and (pe_callB (kIsi K) rfl T.z_isinstance bt_isinstance (pa_cons (pv 0) (pa_cons (pe_bltn (v := .ty "str") rfl T.z_str bt_str rfl) pa_nil))) (pe_one (pe_cmpR op_eq (pv 0) (pv 1) (nomark _)))))) pss_nil)
      (pss_one (ps_ret (pe_and (pe_callB (kIsi K) rfl T.z_isinstance bt_isinstance (pa_cons (pv 0) (pa_cons (pe_bltn (v := .ty "int") rfl T.z_int bt_int rfl) pa_nil))) (pe_and (pe_not (pe_callB (kIsi K) rfl T.z_isinstance bt_isinstance (pa_cons (pv 0) (pa_cons (pe_bltn (v := .ty "bool") rfl T.z_bool bt_bool rfl) pa_nil)))) (pe_one (pe_cmpR op_eq (pv 0) (pv 1) (nomark _))))))))))), ?_⟩
    show (_ : TS) { nx := fun _ H' => Q .non H', rt := Q } ([some (x), some (y), none] : L2.St) H
    cases d with
    | none =>
      cases hx
      cases hy
      walk_at "go"
      refine c_isi (.base .non) kb_nt ?_
      walk_at "go"
      refine c_dt rfl ?_
      walk_at "go"
      have e : decide (V.non = V.non) = true := decide_eq_true rfl
      rw [e]
      exact q _ (Same.refl _)
    | bool b =>
      cases hx
      cases hy
      walk_at "go"
      refine c_isi (.base (.bl b)) kb_bt ?_
      walk_at "go"
      refine c_df (by simp) ?_
      walk_at "go"
      refine c_isi (.base (.bl b)) kb_bb ?_
      walk_at "go"
      cases b with
      | true =>
        walk_at "go"
        refine ⟨true, true, rfl, rfl, ?_⟩
        exact q _ (Same.refl _)
      | false =>
        walk_at "go"
        refine ⟨false, false, rfl, rfl, ?_⟩
        exact q _ (Same.refl _)
    | int i =>
      cases hx
      cases hy
      walk_at "go"
      refine c_isi (.base (.int i)) kb_it ?_
      walk_at "go"
      refine c_df (by simp) ?_
      walk_at "go"
      refine c_isi (.base (.int i)) kb_ib ?_
      walk_at "go"
      refine c_isi (.base (.int i)) kb_is ?_
      walk_at "go"
      refine c_isi (.base (.int i)) kb_ii ?_
      walk_at "go"
      refine c_isi (.base (.int i)) kb_ib ?_
      walk_at "go"
      have e : decide (i = i) = true := decide_eq_true rfl
      rw [e]
      exact q _ (Same.refl _)
    | str z =>
      cases hx
      cases hy
      walk_at "go"
      refine c_isi (.base (.str z)) kb_st ?_
      walk_at "go"
      refine c_df (by simp) ?_
      walk_at "go"
      refine c_isi (.base (.str z)) kb_sb ?_
      walk_at "go"
      refine c_isi (.base (.str z)) kb_ss ?_
      walk_at "go"
      refine c_isi (.base (.str z)) kb_ss ?_
      walk_at "go"
      refine ⟨rfl, ?_⟩
      have e : decide (V.str z = V.str z) = true := decide_eq_true rfl
      rw [e]
      exact q _ (Same.refl _)
    | list ds => exact hd.elim
    | dict ds => exact hd.elim
    | tuple ds => exact hd.elim

theorem ok_exact1 (T : Tx K mg) (G_L_exact : Fn P w K mg base 1 "_law_exact" ["_law_told_here", "_law_due_here"] (spEx K 0)) : Fn P w K mg base 2 "_law_exact" ["_law_told_here", "_law_due_here"] (spEx K 1) := by
  refine fn_mk (st := s_L_exact) T.f_L_exact T.g__law_exact sc_L_exact (fun _ _ _ _ _ _ us hl => match us, hl with | [_, _], _ => rfl) ?len (fun cdv A outer s H vs Q E hr h => ?body)
  case len => exact fun vs H Q E ⟨x, y, d, e, _⟩ => by rw [e]; rfl
  case body =>
    obtain ⟨x, y, d, rfl, hx, hy, hd, q⟩ := h
    refine ⟨_, (pss_cons (ps_if (pt_val (pe_callB (kIsi K) rfl T.z_isinstance bt_isinstance (pa_cons (pv 1) (pa_cons (pe_bltn (v := .ty "tuple") rfl T.z_tuple bt_tuple rfl) pa_nil)))) (pss_cons (ps_if (PW.pt (pw_or (pt_not (pt_val (pe_callB (kIsi K) rfl T.z_isinstance bt_isinstance (pa_cons (pv 0) (pa_cons (pe_bltn (v := .ty "tuple") rfl T.z_tuple bt_tuple rfl) pa_nil))))) (pw_or1 (pt_cmpR op_ne (pe_callB (kLen K) rfl T.z_len bt_len (pa_cons (pv 0) pa_nil)) (pe_callB (kLen K) rfl T.z_len bt_len (pa_cons (pv 1) pa_nil)) (nomark _))))) (pss_one (ps_ret pe_bl)) pss_nil)
      (pss_one (ps_ret (pe_cmpR (kEqD K hr) (pe_lc (own := [("_law_k", 2)]) rfl sc_L_exact.nd (pi_range1 rfl T.z_range (pa_cons (pe_callB (kLen K) rfl T.z_len bt_len (pa_cons (pv 1) pa_nil)) pa_nil)) (blkOk_by (own := [("_law_k", 2)]) (N := ["_law_told_here", "_law_due_here", "_law_k"]) (sc := defScope s_L_exact) (by decide +kernel)) (fun _ _ _ _ _ => (pg_name (i := 2) sc_L_exact.nd rfl (by first | exact Or.inl rfl | exact Or.inr rfl))) (fun _ _ _ _ _ => (pts_one (pt_not (pt_val (pe_fn G_L_exact hr rfl (pa_cons (pe_ix (kIx K) (pv 0) (pv 2) (fun _ _ => rfl)) (pa_cons (pe_ix (kIx K) (pv 1) (pv 2) (fun _ _ => rfl)) pa_nil))))))) (fun _ _ _ _ _ => (pv 2))) (pe_lst pa_nil) (nomark _))))) pss_nil)
      (pss_cons (ps_if (pt_cmpR op_isN1 (pv 1) pe_non (nomark _)) (pss_one (ps_ret (pe_cmpR op_isN1 (pv 0) pe_non (nomark _)))) pss_nil)
      (pss_cons (ps_if (pt_val (pe_callB (kIsi K) rfl T.z_isinstance bt_isinstance (pa_cons (pv 1) (pa_cons (pe_bltn (v := .ty "bool") rfl T.z_bool bt_bool rfl) pa_nil)))) (pss_one (ps_ret (pe_ifExp (pt_val (pv 1)) (pe_cmpR op_isBl (pv 0) pe_bl (nomark _)) (pe_cmpR op_isBl (pv 0) pe_bl (nomark _))))) pss_nil)
      (pss_cons (ps_if (pt_val (pe_callB (kIsi K) rfl T.z_isinstance bt_isinstance (pa_cons (pv 1) (pa_cons (pe_bltn (v := .ty "str") rfl T.z_str bt_str rfl) pa_nil)))) (pss_one (ps_ret (pe_and (pe_callB (kIsi K) rfl T.z_isinstance bt_isinstance (pa_cons (pv 0) (pa_cons (pe_bltn (v := .ty "str") rfl T.z_str bt_str rfl) pa_nil))) (pe_one (pe_cmpR op_eq (pv 0) (pv 1) (nomark _)))))) pss_nil)
      (pss_one (ps_ret (pe_and (pe_callB (kIsi K) rfl T.z_isinstance bt_isinstance (pa_cons (pv 0) (pa_cons (pe_bltn (v := .ty "int") rfl T.z_int bt_int rfl) pa_nil))) (pe_and (pe_not (pe_callB (kIsi K) rfl T.z_isinstance bt_isinstance (pa_cons (pv 0) (pa_cons (pe_bltn (v := .ty "bool") rfl T.z_bool bt_bool rfl) pa_nil)))) (pe_one (pe_cmpR op_eq (pv 0) (pv 1) (nomark _))))))))))), ?_⟩
    show (_ : TS) { nx := fun _ H' => Q .non H', rt := Q } ([some (x), some (y), none] : L2.St) H
    cases d with
    | none =>
      cases hx
      cases hy
      walk_at "go"
      refine c_isi (.base .non) kb_nt ?_
      walk_at "go"
      refine c_dt rfl ?_
      walk_at "go"
      have e : decide (V.non = V.non) = true := decide_eq_true rfl
      rw [e]
      exact q _ (Same.refl _)
    | bool b =>
      cases hx
      cases hy
      walk_at "go"
      refine c_isi (.base (.bl b)) kb_bt ?_
      walk_at "go"
      refine c_df (by simp) ?_
      walk_at "go"
      refine c_isi (.base (.bl b)) kb_bb ?_
      walk_at "go"
      cases b with
      | true =>
        walk_at "go"
        refine ⟨true, true, rfl, rfl, ?_⟩
        exact q _ (Same.refl _)
      | false =>
        walk_at "go"
        refine ⟨false, false, rfl, rfl, ?_⟩
        exact q _ (Same.refl _)
    | int i =>
      cases hx
      cases hy
      walk_at "go"
      refine c_isi (.base (.int i)) kb_it ?_
      walk_at "go"
      refine c_df (by simp) ?_
      walk_at "go"
      refine c_isi (.base (.int i)) kb_ib ?_
      walk_at "go"
      refine c_isi (.base (.int i)) kb_is ?_
      walk_at "go"
      refine c_isi (.base (.int i)) kb_ii ?_
      walk_at "go"
      refine c_isi (.base (.int i)) kb_ib ?_
      walk_at "go"
      have e : decide (i = i) = true := decide_eq_true rfl
      rw [e]
      exact q _ (Same.refl _)
    | str z =>
      cases hx
      cases hy
      walk_at "go"
      refine c_isi (.base (.str z)) kb_st ?_
      walk_at "go"
      refine c_df (by simp) ?_
      walk_at "go"
      refine c_isi (.base (.str z)) kb_sb ?_
      walk_at "go"
      refine c_isi (.base (.str z)) kb_ss ?_
      walk_at "go"
      refine c_isi (.base (.str z)) kb_ss ?_
      walk_at "go"
      refine ⟨rfl, ?_⟩
      have e : decide (V.str z = V.str z) = true := decide_eq_true rfl
      rw [e]
      exact q _ (Same.refl _)
    | list ds => exact hd.elim
    | dict ds => exact hd.elim
    | tuple ds =>
      obtain ⟨hdl, hda⟩ := hd
      obtain ⟨ta, xs, rfl, hs, hda1⟩ := hx.tupE
      obtain ⟨tb, ys, rfl, hs2, hda2⟩ := hy.tupE
      have hl1 := hda1.len
      have hl2 := hda2.len
      walk_at "go"
      refine c_isi (tyx_T hs2) kb_tt ?_
      walk_at "go"
      refine c_isi (tyx_T hs) kb_tt ?_
      walk_at "go"
      refine c_len (.inr hs) ?_
      walk_at "go"
      refine c_len (.inr hs2) ?_
      walk_at "go"
      refine c_ndt (by omega) ?_
      walk_at "go"
      refine l_r1 ?_
      walk_at "go"
      refine c_len (.inr hs2) ?_
      walk_at "go"
      refine ovR1 (by omega) ?_
      rw [show ((ys.length : Nat) : Int).toNat = ds.length by omega]
      refine lp walk_range (fun _ _ => trivial) (fun k acc => acc = []) rfl ?_ ?_
      · rintro D k z acc H1 H1' nD hk hla hD e1 hR ⟨rfl, rfl⟩
        simp only [Int.zero_add]
        obtain ⟨d', hd'⟩ := getElem_some (l := ds) (k := k) hk
        obtain ⟨v1, q1, q2⟩ := (hda1.mono e1).get hd'
        obtain ⟨v2, q3, q4⟩ := (hda2.mono e1).get hd'
        have g1 : SqA K H1' ta xs := .inr (e1.tup hs)
        have g2 : SqA K H1' tb ys := .inr (e1.tup hs2)
        have g3 : atI xs (k : Int) = some v1 := atI_nat q1
        have g4 : atI ys (k : Int) = some v2 := atI_nat q3
        walk_at "go"
        refine ⟨rfl, ?_⟩
        walk_at "go"
        refine ⟨v1, v2, d', rfl, q2, q4, hda d' (List.mem_of_getElem? hd'), fun H2 e2 => ?_⟩
        walk_at "go"
        exact Lp.skip hD e1 e2 hla hR
      · intro D acc H1 nD e1 hD hla hR
        subst hR
        walk_at "go"
        refine ⟨Nat.zero_le _, fun p np => ?_⟩
        have e2 : Same H1 (upd H1 p (.lst [])) := Same.new np
        refine ⟨.list [], .list [], .lst (.of (e2 _ _ hD)) .nil, .lst (.of upd_same) .nil, by decide +kernel, by decide +kernel, ?_⟩
        have e : PyData.eqv (.list []) (.list []) = true := by decide +kernel
        rw [e]
        exact q _ (e1.trans e2)

theorem ok_exact2 (T : Tx K mg) (G_L_exact : Fn P w K mg base 2 "_law_exact" ["_law_told_here", "_law_due_here"] (spEx K 1)) : Fn P w K mg base 3 "_law_exact" ["_law_told_here", "_law_due_here"] (spEx K 2) := by
  refine fn_mk (st := s_L_exact) T.f_L_exact T.g__law_exact sc_L_exact (fun _ _ _ _ _ _ us hl => match us, hl with | [_, _], _ => rfl) ?len (fun cdv A outer s H vs Q E hr h => ?body)
  case len => exact fun vs H Q E ⟨x, y, d, e, _⟩ => by rw [e]; rfl
  case body =>
    obtain ⟨x, y, d, rfl, hx, hy, hd, q⟩ := h
    refine ⟨_, (pss_cons (ps_if (pt_val (pe_callB (kIsi K) rfl T.z_isinstance bt_isinstance (pa_cons (pv 1) (pa_cons (pe_bltn (v := .ty "tuple") rfl T.z_tuple bt_tuple rfl) pa_nil)))) (pss_cons (ps_if (PW.pt (pw_or (pt_not (pt_val (pe_callB (kIsi K) rfl T.z_isinstance bt_isinstance (pa_cons (pv 0) (pa_cons (pe_bltn (v := .ty "tuple") rfl T.z_tuple bt_tuple rfl) pa_nil))))) (pw_or1 (pt_cmpR op_ne (pe_callB (kLen K) rfl T.z_len bt_len (pa_cons (pv 0) pa_nil)) (pe_callB (kLen K) rfl T.z_len bt_len (pa_cons (pv 1) pa_nil)) (nomark _))))) (pss_one (ps_ret pe_bl)) pss_nil)
      (pss_one (ps_ret (pe_cmpR (kEqD K hr) (pe_lc (own := [("_law_k", 2)]) rfl sc_L_exact.nd (pi_range1 rfl T.z_range (pa_cons (pe_callB (kLen K) rfl T.z_len bt_len (pa_cons (pv 1) pa_nil)) pa_nil)) (blkOk_by (own := [("_law_k", 2)]) (N := ["_law_told_here", "_law_due_here", "_law_k"]) (sc := defScope s_L_exact) (by decide +kernel)) (fun _ _ _ _ _ => (pg_name (i := 2) sc_L_exact.nd rfl (by first | exact Or.inl rfl | exact Or.inr rfl))) (fun _ _ _ _ _ => (pts_one (pt_not (pt_val (pe_fn G_L_exact hr rfl (pa_cons (pe_ix (kIx K) (pv 0) (pv 2) (fun _ _ => rfl)) (pa_cons (pe_ix (kIx K) (pv 1) (pv 2) (fun _ _ => rfl)) pa_nil))))))) (fun _ _ _ _ _ => (pv 2))) (pe_lst pa_nil) (nomark _))))) pss_nil)
      (pss_cons (ps_if (pt_cmpR op_isN1 (pv 1) pe_non (nomark _)) (pss_one (ps_ret (pe_cmpR op_isN1 (pv 0) pe_non (nomark _)))) pss_nil)
      (pss_cons (ps_if (pt_val (pe_callB (kIsi K) rfl T.z_isinstance bt_isinstance (pa_cons (pv 1) (pa_cons (pe_bltn (v := .ty "bool") rfl T.z_bool bt_bool rfl) pa_nil)))) (pss_one (ps_ret (pe_ifExp (pt_val (pv 1)) (pe_cmpR op_isBl (pv 0) pe_bl (nomark _)) (pe_cmpR op_isBl (pv 0) pe_bl (nomark _))))) pss_nil)
      (pss_cons (ps_if (pt_val (pe_callB (kIsi K) rfl T.z_isinstance bt_isinstance (pa_cons (pv 1) (pa_cons (pe_bltn (v := .ty "str") rfl T.z_str bt_str rfl) pa_nil)))) (pss_one (ps_ret (pe_and (pe_callB (kIsi K) rfl T.z_isinstance bt_isinstance (pa_cons (pv 0) (pa_cons (pe_bltn (v := .ty "str") rfl T.z_str bt_str rfl) pa_nil))) (pe_one (pe_cmpR op_eq (pv 0) (pv 1) (nomark _)))))) pss_nil)
      (pss_one (ps_ret (pe_and (pe_callB (kIsi K) rfl T.z_isinstance bt_isinstance (pa_cons (pv 0) (pa_cons (pe_bltn (v := .ty "int") rfl T.z_int bt_int rfl) pa_nil))) (pe_and (pe_not (pe_callB (kIsi K) rfl T.z_isinstance bt_isinstance (pa_cons (pv 0) (pa_cons (pe_bltn (v := .ty "bool") rfl T.z_bool bt_bool rfl) pa_nil)))) (pe_one (pe_cmpR op_eq (pv 0) (pv 1) (nomark _))))))))))), ?_⟩
    show (_ : TS) { nx := fun _ H' => Q .non H', rt := Q } ([some (x), some (y), none] : L2.St) H
    cases d with
    | none =>
      cases hx
      cases hy
      walk_at "go"
      refine c_isi (.base .non) kb_nt ?_
      walk_at "go"
      refine c_dt rfl ?_
      walk_at "go"
      have e : decide (V.non = V.non) = true := decide_eq_true rfl
      rw [e]
      exact q _ (Same.refl _)
    | bool b =>
      cases hx
      cases hy
      walk_at "go"
      refine c_isi (.base (.bl b)) kb_bt ?_
      walk_at "go"
      refine c_df (by simp) ?_
      walk_at "go"
      refine c_isi (.base (.bl b)) kb_bb ?_
      walk_at "go"
      cases b with
      | true =>
        walk_at "go"
        refine ⟨true, true, rfl, rfl, ?_⟩
        exact q _ (Same.refl _)
      | false =>
        walk_at "go"
        refine ⟨false, false, rfl, rfl, ?_⟩
        exact q _ (Same.refl _)
    | int i =>
      cases hx
      cases hy
      walk_at "go"
      refine c_isi (.base (.int i)) kb_it ?_
      walk_at "go"
      refine c_df (by simp) ?_
      walk_at "go"
      refine c_isi (.base (.int i)) kb_ib ?_
      walk_at "go"
      refine c_isi (.base (.int i)) kb_is ?_
      walk_at "go"
      refine c_isi (.base (.int i)) kb_ii ?_
      walk_at "go"
      refine c_isi (.base (.int i)) kb_ib ?_
      walk_at "go"
      have e : decide (i = i) = true := decide_eq_true rfl
      rw [e]
      exact q _ (Same.refl _)
    | str z =>
      cases hx
      cases hy
      walk_at "go"
      refine c_isi (.base (.str z)) kb_st ?_
      walk_at "go"
      refine c_df (by simp) ?_
      walk_at "go"
      refine c_isi (.base (.str z)) kb_sb ?_
      walk_at "go"
      refine c_isi (.base (.str z)) kb_ss ?_
      walk_at "go"
      refine c_isi (.base (.str z)) kb_ss ?_
      walk_at "go"
      refine ⟨rfl, ?_⟩
      have e : decide (V.str z = V.str z) = true := decide_eq_true rfl
      rw [e]
      exact q _ (Same.refl _)
    | list ds => exact hd.elim
    | dict ds => exact hd.elim
    | tuple ds =>
      obtain ⟨hdl, hda⟩ := hd
      obtain ⟨ta, xs, rfl, hs, hda1⟩ := hx.tupE
      obtain ⟨tb, ys, rfl, hs2, hda2⟩ := hy.tupE
      have hl1 := hda1.len
      have hl2 := hda2.len
      walk_at "go"
      refine c_isi (tyx_T hs2) kb_tt ?_
      walk_at "go"
      refine c_isi (tyx_T hs) kb_tt ?_
      walk_at "go"
      refine c_len (.inr hs) ?_
      walk_at "go"
      refine c_len (.inr hs2) ?_
      walk_at "go"
      refine c_ndt (by omega) ?_
      walk_at "go"
      refine l_r1 ?_
      walk_at "go"
      refine c_len (.inr hs2) ?_
      walk_at "go"
      refine ovR1 (by omega) ?_
      rw [show ((ys.length : Nat) : Int).toNat = ds.length by omega]
      refine lp walk_range (fun _ _ => trivial) (fun k acc => acc = []) rfl ?_ ?_
      · rintro D k z acc H1 H1' nD hk hla hD e1 hR ⟨rfl, rfl⟩
        simp only [Int.zero_add]
        obtain ⟨d', hd'⟩ := getElem_some (l := ds) (k := k) hk
        obtain ⟨v1, q1, q2⟩ := (hda1.mono e1).get hd'
        obtain ⟨v2, q3, q4⟩ := (hda2.mono e1).get hd'
        have g1 : SqA K H1' ta xs := .inr (e1.tup hs)
        have g2 : SqA K H1' tb ys := .inr (e1.tup hs2)
        have g3 : atI xs (k : Int) = some v1 := atI_nat q1
        have g4 : atI ys (k : Int) = some v2 := atI_nat q3
        walk_at "go"
        refine ⟨rfl, ?_⟩
        walk_at "go"
        refine ⟨v1, v2, d', rfl, q2, q4, hda d' (List.mem_of_getElem? hd'), fun H2 e2 => ?_⟩
        walk_at "go"
        exact Lp.skip hD e1 e2 hla hR
      · intro D acc H1 nD e1 hD hla hR
        subst hR
        walk_at "go"
        refine ⟨Nat.zero_le _, fun p np => ?_⟩
        have e2 : Same H1 (upd H1 p (.lst [])) := Same.new np
        refine ⟨.list [], .list [], .lst (.of (e2 _ _ hD)) .nil, .lst (.of upd_same) .nil, by decide +kernel, by decide +kernel, ?_⟩
        have e : PyData.eqv (.list []) (.list []) = true := by decide +kernel
        rw [e]
        exact q _ (e1.trans e2)
theorem exD_res (a : Option (Bool × List Nat × Int)) (h : ∀ b r g, a = some (b, r, g) → r.length ≤ 1000) : exD 2 (resD a) := by
  match a, h with
  | none, _ => exact trivial
  | some (b, r, g), h =>
    refine ⟨by show 3 ≤ 1000; omega, fun d hd => ?_⟩
    have hd' : d = .str (kindS b) ∨ d = tN r ∨ d = .int g := by simpa using hd
    rcases hd' with rfl | rfl | rfl
    · exact trivial
    · refine ⟨by rw [List.length_map]; exact h b r g rfl, fun d hd => ?_⟩
      obtain ⟨k, hk, rfl⟩ := List.mem_map.mp hd
      exact trivial
    · exact trivial
end
end
section
/-! told, asked, one. -/
section
variable {P : Program} {w : World} {K : PySem.W.Frag} {mg : Str → Option Value} {base : Heap}
theorem DriftAt.flds (T : Tx K mg) {H : Hp} {a : Addr} {xs : List V} {b : Int} (h : DriftAt K H a xs b) : ∃ t dx fs, H a = some (.ins (He.ga K "Drift") dx fs) ∧ FldAt K H a "ring" (.ref t) ∧ FldAt K H a "by" (.int b) ∧ SqT K H t xs := by
  obtain ⟨dx, fs, t, h1, h2, h3, h4⟩ := h
  exact ⟨t, dx, fs, h1, ⟨_, _, _, h1, T.c_Drift, T.n_Drift_ring, h2⟩, ⟨_, _, _, h1, T.c_Drift, T.n_Drift_by, h3⟩, h4⟩
def spTold (K : PySem.W.Frag) : Sp := fun vs H Q _ => ∃ (me : Addr) (M : MD), vs = [.ref me] ∧ MeterAt K H me M ∧ M.Ok ∧ ∀ (v : V) (ans : Option (Bool × List Nat × Int)) H', Same H H' → Dp K H' v (resD ans) → IsAns M ans → Q v H'
theorem sc_L_told : FnScope ["_law_made_here", "_law_told_here"] ["_law_made_here"] (defScope s_L_told) := ⟨rfl, rfl, rfl, by decide +kernel, rfl, by decide +kernel, by decide +kernel⟩
theorem ok_L_told (T : Tx K mg) (G_find_short : Fn P w K mg base 7 "find_short" ["meter"] (spFind K)) : Fn P w K mg base 8 "_law_told" ["_law_made_here"] (spTold K) := by
  refine fn_mk (st := s_L_told) T.f_L_told T.g__law_told sc_L_told (fun _ _ _ _ _ _ us hl => match us, hl with | [_], _ => rfl) ?len (fun cdv A outer s H vs Q E hr h => ?body)
  case len => exact fun vs H Q E ⟨me, M, e, _⟩ => by rw [e]; rfl
  case body =>
    obtain ⟨me, M, rfl, hM, ok, q⟩ := h
    refine ⟨_, (pss_cons (ps_set (i := 1) sc_L_told.nd rfl (Or.inl rfl) (pe_fn G_find_short hr rfl (pa_cons (pv 0) pa_nil)))
      (pss_cons (ps_if (pt_cmpR op_isN1 (pv 1) pe_non (nomark _)) (pss_one (ps_ret pe_non)) pss_nil)
      (pss_cons (ps_if (pt_val (pe_callB (kIsi K) rfl T.z_isinstance bt_isinstance (pa_cons (pv 1) (pa_cons (pe_glob (v := .ref (He.ga K "Drift")) rfl T.g_Drift rfl) pa_nil)))) (pss_one (ps_ret (pe_tup (pa_cons pe_str (pa_cons (kFld K (pv 1)) (pa_cons (kFld K (pv 1)) pa_nil)))))) pss_nil)
      (pss_one (ps_ret (pe_ifExp (pt_val (pe_callB (kIsi K) rfl T.z_isinstance bt_isinstance (pa_cons (pv 1) (pa_cons (pe_glob (v := .ref (He.ga K "Short")) rfl T.g_Short rfl) pa_nil)))) (pe_tup (pa_cons pe_str (pa_cons (kFld K (pv 1)) (pa_cons (kFld K (pv 1)) pa_nil)))) pe_str)))))), ?_⟩
    show (_ : TS) { nx := fun _ H' => Q .non H', rt := Q } ([some (.ref me), none] : L2.St) H
    obtain ⟨x1, x2, x3, x4, x5, x6, x7⟩ := ex_parts T.x
    walk_at "go"
    refine ⟨me, M, rfl, hM, ok, fun r hmf a H1 e1 na hd => ?_, fun nf => ⟨fun r b hms a H1 e1 na hs => ?_, fun hall H1 e1 => ?_⟩⟩
    · walk_at "go"
      refine c_df (by simp) ?_
      obtain ⟨t, dx, fs, i1, f1, f2, s1⟩ := hd.flds T
      walk_at "go"
      refine c_isO x1 T.c_Drift i1 kit_self ?_
      walk_at "go"
      refine ⟨by show 3 ≤ sizeLine; decide, fun p3 np3 => ?_⟩
      have e4 : Same H1 (upd H1 p3 (.tup [.str "falls", .ref t, .int (gs M.g r)])) := Same.new np3
      exact q _ (some (true, r, gs M.g r)) _ (e1.trans e4) (.tup (.of upd_same) (.cons (.str _) (.cons (.tup (e4.tup s1) (DpAll.of_nats r)) (.cons (.int _) .nil)))) ⟨hmf, rfl⟩
    · walk_at "go"
      refine c_df (by simp) ?_
      obtain ⟨t, dx, fs, i1, f1, f2, s1⟩ := hs.flds T
      walk_at "go"
      refine c_isO x2 T.c_Short i1 x6 ?_
      walk_at "go"
      refine c_isO x2 T.c_Short i1 kit_self ?_
      walk_at "go"
      refine ⟨by show 3 ≤ sizeLine; decide, fun p3 np3 => ?_⟩
      have e4 : Same H1 (upd H1 p3 (.tup [.str "short", .ref t, .int (-lead M r b)])) := Same.new np3
      exact q _ (some (false, r, -lead M r b)) _ (e1.trans e4) (.tup (.of upd_same) (.cons (.str _) (.cons (.tup (e4.tup s1) (DpAll.of_nats r)) (.cons (.int _) .nil)))) ⟨nf, b, hms, rfl⟩
    · walk_at "go"
      refine c_dt rfl ?_
      walk_at "go"
      exact q .non none _ e1 .non ⟨nf, hall⟩
/-! ### one -/
def spOne (K : PySem.W.Frag) : Sp := fun vs H Q _ => ∃ (me x pa rg : Addr) (M : MD), vs = [.ref me, .ref x, .ref pa, .ref rg] ∧ MeterAt K H me M ∧ LM K H x M ∧ GoodM M ∧ PathsAt K H pa M.ar ∧ RingsAt K H rg M.ar ∧ ∀ H', Same H H' → Q (.bl true) H'
theorem ans_len {M : MD} (g : GoodM M) : ∀ {a : Option (Bool × List Nat × Int)}, IsAns M a → ∀ b r k, a = some (b, r, k) → r.length ≤ 9
  | none, _, _, _, _, e => by cases e
  | some (true, r, k), h, _, _, _, e => by
    cases e
    exact (ring_max g h.1.1).1
  | some (false, r, k), h, _, _, _, e => by
    cases e
    obtain ⟨_, b, h1, _⟩ := h
    exact (path_max g h1.1).1
theorem ans_cov {M : MD} : ∀ {a : Option (Bool × List Nat × Int)}, IsAns M a → (Covered M ↔ a = none)
  | none, h => ⟨fun _ => rfl, fun _ => h⟩
  | some (true, r, k), h => ⟨fun c => by
      have h1 := c.1 r h.1.1
      have h2 := h.1.2.1
      omega, fun e => by cases e⟩
  | some (false, r, k), h => ⟨fun c => by
      obtain ⟨_, b, h1, _⟩ := h
      have h2 := c.2 r b h1.1
      have h3 := h1.2.1
      omega, fun e => by cases e⟩
theorem ans_dec {M : MD} : ∀ {a : Option (Bool × List Nat × Int)}, IsAns M a → (∃ r, MinFall M.ar M.g r) ∨ NoFall M ∧ ((∃ r b, MinShort M r b) ∨ ∀ r b, Path M.ar r b → 0 ≤ lead M r b)
  | none, h => .inr ⟨h.1, .inr h.2⟩
  | some (true, r, k), h => .inl ⟨r, h.1⟩
  | some (false, r, k), h => by
    obtain ⟨nf, b, h1, _⟩ := h
    exact .inr ⟨nf, .inl ⟨r, b, h1⟩⟩
theorem sc_L_one : FnScope ["_law_made_here", "_law_meter_here", "_law_paths_here", "_law_rings_here", "_law_due_here"] ["_law_made_here", "_law_meter_here", "_law_paths_here", "_law_rings_here"] (defScope s_L_one) := ⟨rfl, rfl, rfl, by decide +kernel, rfl, by decide +kernel, by decide +kernel⟩
theorem ok_L_one (T : Tx K mg) (G_find_short : Fn P w K mg base 7 "find_short" ["meter"] (spFind K)) (G_L_due : Fn P w K mg base 4 "_law_due" ["_law_meter_here", "_law_paths_here", "_law_rings_here"] (spDue K)) (G_L_told : Fn P w K mg base 8 "_law_told" ["_law_made_here"] (spTold K)) (G_L_exact : Fn P w K mg base 3 "_law_exact" ["_law_told_here", "_law_due_here"] (spEx K 2)) (G_is_covered : Fn P w K mg base 8 "is_covered" ["meter"] (spCov K)) (G_Short : Mt P w K mg base 1 "Short" "__init__" ["self", "run", "by"] (spShort K)) (G_Eq : Mt P w K mg base 1 "Short" "__eq__" ["self", "other"] (spSeq K)) (G_Meter_lead_behind : Mt P w K mg base 5 "Meter" "lead_behind" ["self", "run"] (spLead K)) : Fn P w K mg base 9 "_law_one" ["_law_made_here", "_law_meter_here", "_law_paths_here", "_law_rings_here"] (spOne K) := by
  obtain ⟨fdE, bE, GE⟩ := G_Eq
  have mE := T.m_Short___eq__
  refine fn_mk (st := s_L_one) T.f_L_one T.g__law_one sc_L_one (fun _ _ _ _ _ _ us hl => match us, hl with | [_, _, _, _], _ => rfl) ?len (fun cdv A outer s H vs Q E hr h => ?body)
  case len => exact fun vs H Q E ⟨me, x, pa, rg, M, e, _⟩ => by rw [e]; rfl
  case body =>
    obtain ⟨me, x, pa, rg, M, rfl, hM, hL, gm, hpa, hrg, q⟩ := h
    refine ⟨_, (pss_cons (ps_set (i := 4) sc_L_one.nd rfl (Or.inl rfl) (pe_fn G_L_due hr rfl (pa_cons (pv 1) (pa_cons (pv 2) (pa_cons (pv 3) pa_nil)))))
      (pss_cons (ps_if (PW.pt (pw_or (pt_not (pt_val (pe_fn G_L_exact hr rfl (pa_cons (pe_fn G_L_told hr rfl (pa_cons (pv 0) pa_nil)) (pa_cons (pv 4) pa_nil))))) (pw_or1 (pt_not (pt_val (pe_fn G_L_exact hr rfl (pa_cons (pe_fn G_is_covered hr rfl (pa_cons (pv 0) pa_nil)) (pa_cons (pe_cmpR op_isN1 (pv 4) pe_non (nomark _)) pa_nil)))))))) (pss_one (ps_ret pe_bl)) pss_nil)
      (pss_cons (ps_if (PW.pt (pw_and (pt_cmpR op_notN1 (pv 4) pe_non (nomark _)) (pw_and1 (pt_cmpR op_eq (pe_ix (kIx K) (pv 4) pe_int (fun _ _ => rfl)) pe_str (nomark _))))) (pss_cons (ps_if (PW.pt (pw_or (pt_not (pt_cmpR (op_eqOwn GE mE.at_ mE.fn bE (hr.mono (by decide))) (pe_fn G_find_short hr rfl (pa_cons (pv 0) pa_nil)) (kMk K T.k_Short G_Short hr rfl T.g_Short (pa_cons (pe_ix (kIx K) (pv 4) pe_int (fun _ _ => rfl)) (pa_cons (pe_ix (kIx K) (pv 4) pe_int (fun _ _ => rfl)) pa_nil))) (nomark _))) (pw_or1 (pt_cmpR (op_eqOwn GE mE.at_ mE.fn bE (hr.mono (by decide))) (pe_fn G_find_short hr rfl (pa_cons (pv 0) pa_nil)) (kMk K T.k_Short G_Short hr rfl T.g_Short (pa_cons (pe_ix (kIx K) (pv 4) pe_int (fun _ _ => rfl)) (pa_cons (pe_op op_add (pe_ix (kIx K) (pv 4) pe_int (fun _ _ => rfl)) pe_int) pa_nil))) (nomark _))))) (pss_one (ps_ret pe_bl)) pss_nil)
      (pss_one (ps_ret (pe_cmpR op_eq (kMt K (pv 0) T.c_Meter T.m_Meter_lead_behind G_Meter_lead_behind hr (pa_cons (pe_ix (kIx K) (pv 4) pe_int (fun _ _ => rfl)) pa_nil)) (pe_un un_neg (pe_ix (kIx K) (pv 4) pe_int (fun _ _ => rfl))) (nomark _))))) pss_nil)
      (pss_one (ps_ret pe_bl))))), ?_⟩
    show (_ : TS) { nx := fun _ H' => Q .non H', rt := Q } ([some (.ref me), some (.ref x), some (.ref pa), some (.ref rg), none] : L2.St) H
    walk_at "go"
    refine ⟨x, pa, rg, M, rfl, hL, gm, hpa, hrg, fun v ans H1 e1 hv ha => ?_⟩
    walk_at "go"
    refine ⟨me, M, rfl, hM.mono e1, gm.ok, fun v2 ans2 H2 e2 hv2 ha2 => ?_⟩
    have ea := ha2.unique ha
    subst ea
    have hlen := ans_len gm ha
    walk_at "go"
    refine ⟨v2, v, resD ans2, rfl, hv2, Dp.mono e2 hv, exD_res _ fun b r g e => by have := hlen b r g e; omega, fun H3 e3 => ?_⟩
    walk_at "go"
    have hM3 := hM.mono ((e1.trans e2).trans e3)
    have hcov := ans_cov ha
    refine ⟨me, M, rfl, hM3, gm.ok, ans_dec ha, fun hc H4 e4 => ?_, fun hc H4 e4 => ?_⟩
    · have en := hcov.mp hc
      subst en
      cases hv
      walk_at "go"
      refine ⟨.bl true, .bl (decide (V.non = V.non)), .bool true, rfl, .bl _, ?_, trivial, fun H5 e5 => ?_⟩
      · have e : decide (V.non = V.non) = true := decide_eq_true rfl
        rw [e]
        exact .bl _
      · walk_at "go"
        refine c_ndt rfl ?_
        walk_at "go"
        exact q _ ((((e1.trans e2).trans e3).trans e4).trans e5)
    · obtain ⟨bb, r, g, rfl⟩ : ∃ bb r g, ans2 = some (bb, r, g) := by
        match ans2, hcov with
        | none, hcov => exact absurd (hcov.mpr rfl) hc
        | some (bb, r, g), _ => exact ⟨bb, r, g, rfl⟩
      obtain ⟨va, ys, rfl, s1, s2⟩ := hv.tupE
      walk_at "go"
      have e : decide (V.ref va = V.non) = false := decide_eq_false (by simp)
      rw [e]
      refine ⟨.bl false, .bl false, .bool false, rfl, .bl _, .bl _, trivial, fun H5 e5 => ?_⟩
      have e05 := (((e1.trans e2).trans e3).trans e4).trans e5
      have e15 := ((e2.trans e3).trans e4).trans e5
      have hM5 := hM.mono e05
      replace s1 := e15.tup s1
      replace s2 := s2.mono e15
      cases s2 with
      | cons q1 q2 =>
        cases q2 with
        | cons q3 q4 =>
          cases q4 with
          | cons q5 q6 =>
            cases q6
            cases q5
            cases q1
            obtain ⟨t, y1, rfl, u1, u2⟩ := q3.tupE
            have ey : y1 = r.map vN := DpAll.nats u2
            subst ey
            have g1 : SqA K H5 va [.str (kindS bb), .ref t, .int g] := .inr s1
            have a0 : atI ([.str (kindS bb), .ref t, .int g] : List V) 0 = some (.str (kindS bb)) := atI_nat (j := 0) rfl
            have a1 : atI ([.str (kindS bb), .ref t, .int g] : List V) 1 = some (.ref t) := atI_nat (j := 1) rfl
            have a2 : atI ([.str (kindS bb), .ref t, .int g] : List V) 2 = some (.int g) := atI_nat (j := 2) rfl
            walk_at "go"
            refine c_ndf (by simp) ?_
            walk_at "go"
            refine ⟨rfl, ?_⟩
            cases bb with
            | true =>
              have e : decide (V.str (kindS true) = V.str "short") = false := by decide +kernel
              rw [e]
              walk_at "go"
              exact q _ e05
            | false =>
              have e : decide (V.str (kindS false) = V.str "short") = true := by decide +kernel
              rw [e]
              obtain ⟨nf, b, hms, rfl⟩ := ha
              have absF : ∀ r, MinFall M.ar M.g r → False := fun r h => by
                have h1 := nf r h.1
                have h2 := h.2.1
                omega
              have absN : ¬ ∀ r b, Path M.ar r b → 0 ≤ lead M r b := fun h => by
                have h1 := h r b hms.1
                have h2 := hms.2.1
                omega
              walk_at "go"
              refine ⟨me, M, rfl, hM5, gm.ok, fun r h => (absF r h).elim, fun _ => ⟨fun r' b' hms' a H6 e6 na hs => ?_, fun h => absurd h absN⟩⟩
              obtain ⟨er, eb⟩ := hms'.unique hms
              subst er eb
              have g6 := g1.mono e6
              clear g1
              walk_at "go"
              refine mk_short (e6.tup u1) fun a2 H7 e7 na2 hs2 => ?_
              have hs7 := hs.mono e7
              have hs7' := hs7
              obtain ⟨dx1, fs1, _, i1, _⟩ := hs7
              have hs2' := hs2
              obtain ⟨dx2, fs2, _, i2, _⟩ := hs2
              refine ⟨a, a2, dx1, dx2, fs1, fs2, rfl, rfl, i1, i2, ⟨a, a2, r', _, _, rfl, hs7', hs2', ⟨_, rfl⟩, ?_⟩⟩
              walk_at "go"
              refine c_ndt rfl ?_
              have e57 := e6.trans e7
              walk_at "go"
              refine ⟨me, M, rfl, hM5.mono e57, gm.ok, fun r h => (absF r h).elim, fun _ => ⟨fun r b hms2 b1 H8 e8 nb hs8 => ?_, fun h => absurd h absN⟩⟩
              obtain ⟨er, eb⟩ := hms2.unique hms'
              subst er eb
              have e58 := e57.trans e8
              clear g6
              have g8 : SqA K H8 va [.str (kindS false), .ref t, .int (-lead M r b)] := .inr (e58.tup s1)
              walk_at "go"
              refine mk_short (e58.tup u1) fun b2 H9 e9 nb2 hs9 => ?_
              have hs8' := hs8.mono e9
              have hs8'' := hs8'
              obtain ⟨dx3, fs3, _, i3, _⟩ := hs8'
              have hs9' := hs9
              obtain ⟨dx4, fs4, _, i4, _⟩ := hs9
              refine ⟨b1, b2, dx3, dx4, fs3, fs4, rfl, rfl, i3, i4, ⟨b1, b2, r, _, _, rfl, hs8'', hs9', ⟨_, rfl⟩, ?_⟩⟩
              walk_at "go"
              refine c_df (by omega) ?_
              have e59 := e58.trans e9
              clear g8
              have g9 : SqA K H9 va [.str (kindS false), .ref t, .int (-lead M r b)] := .inr (e59.tup s1)
              obtain ⟨c, tc, ta, tch, xs, mo⟩ := hM5.mono e59
              have mls1 : ∃ dx fs, H9 me = some (.ins (He.ga K "Meter") dx fs) ∧ fs.lookup ("lead_behind" : Str) = none := by
                obtain ⟨dx, fs, h1, _, h2, _⟩ := mo.mls
                exact ⟨dx, fs, h1, h2⟩
              have hpm := path_max gm hms2.1
              walk_at "go"
              refine ⟨me, t, M, r, b, rfl, ⟨c, tc, ta, tch, xs, mo⟩, gm.ok, e59.tup u1, hms2.1.1, by omega, fun H10 e10 => ?_⟩
              have g10 := g9.mono e10
              clear g9
              walk_at "go"
              have e : decide (M.first + gs M.g r - costAt M.costs b = - -lead M r b) = true := decide_eq_true (by unfold lead; omega)
              rw [e]
              exact q _ ((e05.trans e59).trans e10)
end
end
section
/-! asked. -/
section
variable {P : Program} {w : World} {K : PySem.W.Frag} {mg : Str → Option Value} {base : Heap}
def spAsked (K : PySem.W.Frag) : Sp := fun vs H Q _ => ∃ (me : Addr) (M : MD), vs = [.ref me] ∧ MeterAt K H me M ∧ M.Ok ∧ Reach M ∧ (NoFall M → ∀ x H', LeastOf M x → Same H H' → Q (.int x) H') ∧
  (∀ r, MinFall M.ar M.g r → ∀ (v : V) H', Same H H' → Dp K H' v (resD (some (true, r, gs M.g r))) → Q v H')
theorem sc_L_asked : FnScope ["_law_made_here", "raised"] ["_law_made_here"] (defScope s_L_asked) := ⟨rfl, rfl, rfl, by decide +kernel, rfl, by decide +kernel, by decide +kernel⟩
def t_suite (K : PySem.W.Frag) : Addr → Value → Option Addr → TS := fun a cls d => tRet (tIf (tTest (tCB (rIsX K cls d (He.ga K "Drifting") a) (tCons (tVar 1) (tCons (tC (.ref (He.ga K "Drifting"))) tNil))))
  (tTup (tCons (tC (.str "falls")) (tCons (tXf a cls d (He.ga K "Drifting") "ring" (tVar 1)) (tCons (tXf a cls d (He.ga K "Drifting") "by" (tVar 1)) tNil)))) (tC (.str "other")))
theorem ok_L_asked (T : Tx K mg) (G_least_first : FnX P w K mg base 9 "least_first" ["meter"] (spLeast K)) : Fn P w K mg base 10 "_law_asked" ["_law_made_here"] (spAsked K) := by
  obtain ⟨x1, x2, x3, x4, x5, x6, x7⟩ := ex_parts T.x
  have XF := xfB_ok x5
  obtain ⟨fdL, gL, kL, bL, GL⟩ := G_least_first
  have I1 : PySem.W.findIn K (.ref (He.ga K "Drifting")) "__class__" = some (some (.builtin "object.__class__")) ∧ PySem.W.specialIn K (.builtin "object.__class__") "__get__" = some (some (.builtin "getset_descriptor.__get__")) ∧ PySem.W.takesIn K (.builtin "object.__class__") = some true ∧ PySem.W.mroIn K (He.ga K "Drifting") (.type "object") = some true := by
    obtain ⟨h1, hb⟩ := Bool.and_eq_true_iff.mp x3
    obtain ⟨h2, hb⟩ := Bool.and_eq_true_iff.mp hb
    obtain ⟨h3, h4⟩ := Bool.and_eq_true_iff.mp hb
    exact ⟨b1_ok h1, b1_ok h2, of_decide_eq_true h3, of_decide_eq_true h4⟩
  obtain ⟨i1, i2, i3, i4⟩ := I1
  refine fn_mk (st := s_L_asked) T.f_L_asked T.g__law_asked sc_L_asked (fun _ _ _ _ _ _ us hl => match us, hl with | [_], _ => rfl) (fun vs H Q E ⟨me, M, e, _⟩ => by rw [e]; rfl) (fun cdv A outer s H vs Q E hr h => ?_)
  obtain ⟨me, M, rfl, hM, ok, re, qn, qf⟩ := h
  have hr1 : Room 9 _ := hr
  refine ⟨_, pss_one (ps_try_as (i := 1) (tb := fun W => tRet (tCallS (spLeast K) (WE W) (tCons (tVar 0) tNil))) (ts := t_suite K) (Wout := fun _ _ _ _ => False) rfl rfl sc_L_asked.nd rfl rfl ⟨rfl, by decide, Or.inl T.g_MeterError⟩ takes0
    (fun W pn xe tk _ => pss_one (ps_ret (by exact (pe_callS GL hr1 rfl gL kL bL (fun σ => passAt tk σ) (by exact (pa_cons (pv 0) pa_nil))))))
    (fun a oe cls d pn hz hf => pss_one (ps_ret (by exact (pe_ifExp (pt_val (pe_callB (call_isX XF i1 i2 i3 i4 hz hf) rfl T.z_isinstance bt_isinstance (pa_cons (pv 1) (pa_cons (pe_glob (v := .ref (He.ga K "Drifting")) rfl T.g_Drifting rfl) pa_nil)))) (pe_tup (pa_cons pe_str (pa_cons (pe_xf XF T.n_Drifting_ring hz hf (pv 1)) (pa_cons (pe_xf XF T.n_Drifting_by hz hf (pv 1)) pa_nil)))) pe_str))))), ?_⟩
  refine c_ret ?_
  show tVar 0 _ _ _
  refine c_var rfl ?_
  refine ⟨me, M, rfl, hM, ok, re, fun nf x H' hx e => qn nf x H' hx e, fun r hmf d t fs H' e hd l1 l2 ht => ?_⟩
  refine ⟨true, T.e_Drifting_MeterError, fun _ a0 na => ?_, fun q => Bool.noConfusion q⟩
  unfold t_suite
  walk_at "go"
  refine ⟨_, d, fs, true, rfl, rfl, rfl, hd, kit_self, ?_⟩
  walk_at "go"
  refine ⟨.ref a0, rfl, rfl, rfl, d, fs, .ref t, rfl, hd, l1, ?_⟩
  walk_at "go"
  refine ⟨.ref a0, rfl, rfl, rfl, d, fs, _, rfl, hd, l2, ?_⟩
  walk_at "go"
  refine ⟨by show 3 ≤ sizeLine; decide, fun p3 np3 => ?_⟩
  have e4 : Same H' (upd H' p3 (.tup [.str "falls", .ref t, .int (gs M.g r)])) := Same.new np3
  exact qf r hmf _ _ (e.trans e4) (.tup (.of upd_same) (.cons (.str _) (.cons (.tup (e4.tup ht) (DpAll.of_nats r)) (.cons (.int _) .nil))))
end
end
section
/-! What law leans on. -/
section
variable {K : PySem.W.Frag}
theorem g_low {M : MD} (gm : GoodM M) (k : Nat) : -1000000000 ≤ M.g k := by
  have h1 := costAt_ge gm.gc.co (tlOf M.ar k)
  have h2 : 0 ≤ chAt M.ch k := by
    unfold chAt
    cases e : M.ch[k]? with
    | none => simp
    | some c => exact (gm.ch c (List.mem_of_getElem? e)).1
  have e : M.g k = chAt M.ch k - costAt M.costs (tlOf M.ar k) := rfl
  omega
theorem gs_low {M : MD} (gm : GoodM M) : ∀ r : List Nat, -(1000000000 * (r.length : Int)) ≤ gs M.g r
  | [] => by simp [gs]
  | k :: r => by
    have h1 := gs_low gm r
    have h2 := g_low gm k
    simp only [gs, List.length_cons]
    omega
theorem path_nil {ar : List (Nat × Nat)} : Path ar [] 0 := ⟨rfl, by simp [pls]⟩
theorem LeastOf.range {M : MD} (gm : GoodM M) {x : Int} (h : LeastOf M x) : 0 ≤ x ∧ x ≤ 10000000000 := by
  obtain ⟨⟨r, b, hp, e⟩, h2⟩ := h
  have h3 := h2 [] 0 path_nil
  have h4 := costAt_ge gm.gc.co 0
  have h5 := costAt_ge gm.gc.co b
  have h6 := gs_low gm r
  have h7 := (path_max gm hp).1
  simp only [gs] at h3
  omega
theorem cov_iff {M : MD} (nf : NoFall M) {x : Int} (h : LeastOf M x) (f : Int) : Covered (M.withF f) ↔ x ≤ f := by
  obtain ⟨⟨r, b, hp, e⟩, h2⟩ := h
  have key : ∀ r b, lead (M.withF f) r b = f + gs M.g r - costAt M.costs b := fun _ _ => rfl
  constructor
  · intro c
    have h3 := c.2 r b hp
    rw [key] at h3
    omega
  · intro hx
    refine ⟨nf, fun r' b' hp' => ?_⟩
    have h3 := h2 r' b' hp'
    rw [key]
    omega
theorem first_of {α : Type} {R : α → α → Prop} {p : α → Prop} : ∀ {l : List α}, l.Pairwise R → (∀ x ∈ l, ¬ p x) ∨ ∃ x ∈ l, p x ∧ ∀ y ∈ l, p y → y = x ∨ R x y
  | [], _ => .inl fun x hx => by cases hx
  | a :: l, h => by
    obtain ⟨h1, h2⟩ := List.pairwise_cons.mp h
    by_cases ha : p a
    · refine .inr ⟨a, List.mem_cons_self, ha, fun y hy _ => ?_⟩
      rcases List.mem_cons.mp hy with z | z
      · exact .inl z
      · exact .inr (h1 y z)
    · rcases first_of (p := p) h2 with h3 | ⟨x, hx, px, hm⟩
      · refine .inl fun x hx => ?_
        rcases List.mem_cons.mp hx with z | z
        · rw [z]
          exact ha
        · exact h3 x z
      · refine .inr ⟨x, List.mem_cons_of_mem _ hx, px, fun y hy py => ?_⟩
        rcases List.mem_cons.mp hy with z | z
        · rw [z] at py
          exact absurd py ha
        · exact hm y z py
theorem short_dec {M : MD} {H : Hp} {pa : Addr} (h : PathsAt K H pa M.ar) : (∃ r b, MinShort M r b) ∨ ∀ r b, Path M.ar r b → 0 ≤ lead M r b := by
  obtain ⟨xs, PS, _, _, _, h4, h5⟩ := h
  rcases first_of (p := fun p : List Nat × Nat => lead M p.1 p.2 < 0) h5 with h6 | ⟨p, hp, hl, hm⟩
  · refine .inr fun r b hp => ?_
    have := h6 (r, b) ((h4 (r, b)).mpr hp)
    dsimp only at this
    omega
  · refine .inl ⟨p.1, p.2, (h4 p).mp hp, hl, fun r' b' h' s' => ?_⟩
    rcases hm (r', b') ((h4 (r', b')).mpr h') s' with z | z
    · rw [← z]
      exact ordle_refl _
    · exact z
/-! ### kept over draws -/
theorem FldAt.ek {H H' : Hp} {a h cl : Addr} {f : Str} {v : V} (hh : HandAt H h cl) (e : Ek h H H') (k : FldAt K H a f v) : FldAt K H' a f v := by
  obtain ⟨C, dx, fs, h1, h2⟩ := k
  obtain ⟨l, hl⟩ := hh.is
  exact ⟨C, dx, fs, e.at (fun z => by rw [z, hl] at h1; cases h1) h1, h2⟩
theorem MeterAt.ek {H H' : Hp} {me h cl : Addr} {M : MD} (k : MeterAt K H me M) (hh : HandAt H h cl) (e : Ek h H H') : MeterAt K H' me M := by
  obtain ⟨c, tc, ta, tch, xs, m⟩ := k
  have t : Tk K H H' := hh.tk e
  obtain ⟨l, hl⟩ := hh.is
  have ins : ∀ {a C dx : Addr} {fs : List (Str × V)}, H a = some (.ins C dx fs) → H' a = some (.ins C dx fs) := fun h1 => e.at (fun z => by rw [z, hl] at h1; cases h1) h1
  refine ⟨c, tc, ta, tch, xs, {
    chart := m.chart.ek hh e
    first := m.first.ek hh e
    charges := m.charges.ek hh e
    costs := m.costs.ek hh e
    arrows := m.arrows.ek hh e
    tcosts := .inr (t _ _ m.scosts)
    tar := .inr (t _ _ m.star)
    tchs := .inr (t _ _ m.schs)
    star := t _ _ m.star
    scosts := t _ _ m.scosts
    schs := t _ _ m.schs
    dar := Tk.ar t m.dar
    cls := ?_
    mls := ?_
    chat := m.chat.ek hh e }⟩
  · obtain ⟨dx, fs, h1, h2⟩ := m.cls
    exact ⟨dx, fs, ins h1, h2⟩
  · obtain ⟨dx, fs, h1, h2⟩ := m.mls
    exact ⟨dx, fs, ins h1, h2⟩
theorem RingsAt.ek {H H' : Hp} {a h cl : Addr} {ar : List (Nat × Nat)} (k : RingsAt K H a ar) (hh : HandAt H h cl) (n : a ≠ h) (e : Ek h H H') : RingsAt K H' a ar := by
  obtain ⟨xs, RS, h1, h2, h3⟩ := k
  exact ⟨xs, RS, e.at n h1, DpAll.tk (hh.tk e) (nol_map nol_tN _) h2, h3⟩
theorem PathsAt.ek {H H' : Hp} {a h cl : Addr} {ar : List (Nat × Nat)} (k : PathsAt K H a ar) (hh : HandAt H h cl) (n : a ≠ h) (e : Ek h H H') : PathsAt K H' a ar := by
  obtain ⟨xs, RS, h1, h2, h3⟩ := k
  exact ⟨xs, RS, e.at n h1, DpAll.tk (hh.tk e) (nol_map nol_encQ _) h2, h3⟩
/-- the first falling ring, as the law holds it -/
def FallV (K : PySem.W.Frag) (H : Hp) (v : V) (M : MD) : Prop := (v = .non ∧ NoFall M) ∨ ∃ a r, v = .ref a ∧ MinFall M.ar M.g r ∧ RingP K H a r (gs M.g r)
theorem FallV.mono {H H' : Hp} {v : V} {M : MD} (k : FallV K H v M) (e : Same H H') : FallV K H' v M := by
  rcases k with k | ⟨a, r, h1, h2, h3⟩
  · exact .inl k
  · exact .inr ⟨a, r, h1, h2, h3.mono e⟩
theorem FallV.tk {H H' : Hp} {v : V} {M : MD} (k : FallV K H v M) (e : Tk K H H') : FallV K H' v M := by
  rcases k with k | ⟨a, r, h1, h2, h3⟩
  · exact .inl k
  · exact .inr ⟨a, r, h1, h2, h3.tk e⟩
theorem first_ring_use {H : Hp} {x rg : Addr} {M : MD} {Q : VK} {E : XK} (h1 : LM K H x M) (h2 : GoodM M) (h3 : RingsAt K H rg M.ar) (key : ∀ v H', Same H H' → FallV K H' v M → Q v H') : spFirstRing K [.ref x, .ref rg, .int (-1)] H Q E :=
  ⟨x, rg, M, rfl, h1, h2, h3, fun nf H' e => key _ _ e (.inl ⟨rfl, nf⟩), fun r a H' hmf e _ hrp => key _ _ e (.inr ⟨a, r, rfl, hmf, hrp⟩)⟩
theorem GoodM.withF {M : MD} (g : GoodM M) {f : Int} (hf : 0 ≤ f ∧ f ≤ 1000000000000) : GoodM (M.withF f) := ⟨g.gc, g.cl, g.ch, hf⟩
/-- the least first charge, from the leads -/
theorem least_min {M : MD} {PS : List (List Nat × Nat)} (hP : ∀ p, p ∈ PS ↔ Path M.ar p.1 p.2) {m : Int} (hm : m ∈ PS.map fun p => lead M p.1 p.2) (hmin : ∀ y, y ∈ (PS.map fun p => lead M p.1 p.2) → m ≤ y) : LeastOf M (M.first - m) := by
  obtain ⟨p, hp, e⟩ := List.mem_map.mp hm
  refine ⟨⟨p.1, p.2, (hP p).mp hp, by unfold lead at e; omega⟩, fun r b hr => ?_⟩
  have h1 := hmin _ (List.mem_map.mpr ⟨(r, b), (hP (r, b)).mpr hr, rfl⟩)
  unfold lead at h1
  dsimp only at h1
  omega
theorem LeastOf.withF {M : MD} {x : Int} (h : LeastOf M x) (f : Int) : LeastOf (M.withF f) x := h
theorem lm_new {H : Hp} {y tc ta tch : Addr} {M : MD} {xs : List V} {f : Int} (h1 : H y = some (.lst [.ref tc, .ref ta, .int f, .ref tch])) (h2 : SqT K H tc (M.costs.map V.int)) (h3 : SqT K H ta xs) (h4 : DpAll K H xs (M.ar.map arD)) (h5 : SqT K H tch (M.ch.map V.int)) : LM K H y (M.withF f) :=
  ⟨tc, ta, tch, xs, h1, h2, h3, h4, h5⟩
end
end
section
/-! law. -/
section
variable {P : Program} {w : World} {K : PySem.W.Frag} {mg : Str → Option Value} {base : Heap}
theorem fd_mk {x qual : Str} {st : Stmt} {N ps : List Str} {k : Nat} {sp : Sp} {f : Addr} {fd : FuncData} (F : FunD K x qual (defArgs st) (defBody st) (defScope st) [] [] f fd) (S : FnScope N ps (defScope st))
    (len : ∀ vs H Q E, sp vs H Q E → vs.length = ps.length)
    (body : ∀ (cdv : Value) (A : Around) (outer : List Env) (s : Shared) (H : Hp) (vs : List V) (Q : VK) (E : XK), Room k (A.deeper (envOfC qual (defScope st) s.heap.objs.size f cdv)) → sp vs H Q E →
      ∃ t, PSs (cxOf CX0 P w K mg base N qual (defScope st) f cdv A outer s H E).nox (defBody st) t ∧ t { nx := fun _ H' => Q .non H', rt := Q } (start N vs) H) : FnOk P w K mg base CX0 (k + 1) f fd ps sp :=
  F.ok S len fun cdv A outer s H vs Q E hr hs => by
    obtain ⟨t, h1, h2⟩ := body cdv A outer s H vs Q E hr hs
    exact ⟨t, h1.nox, h2⟩
theorem c_ifE {σ : L2.St} {H : Hp} {Q : VK} {t : TT} {ta tb : TE} (N : V → Hp → Prop) (h : ∀ F : VK, (∀ v H', N v H' → F v H') → t σ H fun c H1 => if c = true then ta σ H1 F else tb σ H1 F) (hN : ∀ v H', N v H' → Q v H') : tIf t ta tb σ H Q := h Q hN
theorem asked_use {H : Hp} {me : Addr} {M : MD} {Q : VK} {E : XK} (h1 : MeterAt K H me M) (h2 : M.Ok) (h3 : Reach M) (key : ∀ v H', Same H H' → ((NoFall M ∧ ∃ x, v = .int x ∧ LeastOf M x) ∨ ∃ r, MinFall M.ar M.g r ∧ Dp K H' v (resD (some (true, r, gs M.g r)))) → Q v H') : spAsked K [.ref me] H Q E :=
  ⟨me, M, rfl, h1, h2, h3, fun nf x H' hx e => key _ _ e (.inl ⟨nf, x, rfl, hx⟩), fun r hmf v H' e hv => key _ _ e (.inr ⟨r, hmf, hv⟩)⟩
def spLaw (K : PySem.W.Frag) : Sp := fun vs H Q _ => ∃ (s : Addr) (cells : List Int), vs = [.ref s] ∧ SqL K H s (cells.map V.int) ∧ cells.length ≤ 1000 ∧ ∀ H', Q (.bl true) H'
theorem sc_L_main : FnScope ["_law_script", "_law_hand_here", "_law_turn", "_law_chart_here", "_law_meter_here", "_law_rings_here", "_law_paths_here", "_law_fall", "_law_least", "_law_made_here", "_law_first", "_law_other", "_law_pair"] ["_law_script"] (defScope s_L_main) := ⟨rfl, rfl, rfl, by decide +kernel, rfl, by decide +kernel, by decide +kernel⟩
theorem ok_L_main (T : Tx K mg) {fd : FuncData} (F : FunD K "law" "law" (defArgs s_L_main) (defBody s_L_main) (defScope s_L_main) [] [] (He.ga K "law") fd) (G_L_hand : Fn P w K mg base 1 "_law_hand" ["_law_script"] (spHand K)) (G_L_draw : Fn P w K mg base 2 "_law_draw" ["_law_hand_here", "_law_many"] spDraw) (G_L_chart : Fn P w K mg base 4 "_law_chart" ["_law_hand_here"] (spCh K)) (G_L_meter : Fn P w K mg base 4 "_law_meter" ["_law_hand_here", "_law_chart_here"] (spLMeter K)) (G_L_rings : Fn P w K mg base 2 "_law_rings" ["_law_chart_here"] (spRings K)) (G_L_paths : Fn P w K mg base 2 "_law_paths" ["_law_chart_here"] (spPaths K)) (G_L_first_ring : Fn P w K mg base 3 "_law_first_ring" ["_law_meter_here", "_law_rings_here", "_law_sense"] (spFirstRing K)) (G_L_behind_leads : Fn P w K mg base 3 "_law_behind_leads" ["_law_meter_here", "_law_paths_here"] (spBL K)) (G_L_made : Fn P w K mg base 4 "_law_made" ["_law_hand_here", "_law_meter_here"] (spMade K)) (G_L_one : Fn P w K mg base 9 "_law_one" ["_law_made_here", "_law_meter_here", "_law_paths_here", "_law_rings_here"] (spOne K)) (G_L_exact : Fn P w K mg base 3 "_law_exact" ["_law_told_here", "_law_due_here"] (spEx K 2)) (G_L_asked : Fn P w K mg base 10 "_law_asked" ["_law_made_here"] (spAsked K)) (G_is_covered : Fn P w K mg base 8 "is_covered" ["meter"] (spCov K)) (G_Meter_with_first : Mt P w K mg base 4 "Meter" "with_first" ["self", "first"] (spWith K)) : FnOk P w K mg base CX0 11 (He.ga K "law") fd ["_law_script"] (spLaw K) := by
  refine fd_mk F sc_L_main ?len (fun cdv A outer s H vs Q E hr h => ?body)
  case len => exact fun vs H Q E ⟨s, cells, e, _⟩ => by rw [e]; rfl
  case body =>
    obtain ⟨sc, cells, rfl, hsc, hcl, q⟩ := h
    refine ⟨_, (pss_cons (ps_set (i := 1) sc_L_main.nd rfl (Or.inl rfl) (pe_fn G_L_hand hr rfl (pa_cons (pv 0) pa_nil)))
      (pss_cons (ps_for PassesOwn.never rfl (pi_range1 rfl T.z_range (pa_cons pe_int pa_nil)) (pg_name (i := 2) sc_L_main.nd rfl (Or.inl rfl)) (pss_cons (ps_set (i := 3) sc_L_main.nd rfl (Or.inl rfl) (pe_fn G_L_chart hr rfl (pa_cons (pv 1) pa_nil)))
      (pss_cons (ps_set (i := 4) sc_L_main.nd rfl (Or.inl rfl) (pe_fn G_L_meter hr rfl (pa_cons (pv 1) (pa_cons (pv 3) pa_nil))))
      (pss_cons (ps_set (i := 5) sc_L_main.nd rfl (Or.inl rfl) (pe_fn G_L_rings hr rfl (pa_cons (pv 3) pa_nil)))
      (pss_cons (ps_set (i := 6) sc_L_main.nd rfl (Or.inl rfl) (pe_fn G_L_paths hr rfl (pa_cons (pv 3) pa_nil)))
      (pss_cons (ps_set (i := 7) sc_L_main.nd rfl (Or.inl rfl) (pe_fn G_L_first_ring hr rfl (pa_cons (pv 4) (pa_cons (pv 5) (pa_cons (pe_un un_neg pe_int) pa_nil)))))
      (pss_cons (ps_set (i := 8) sc_L_main.nd rfl (Or.inl rfl) (pe_op op_sub (pe_ix (kIx K) (pv 4) pe_int (fun _ _ => rfl)) (pe_callB (kMin K) rfl T.z_min bt_min (pa_cons (pe_lc (own := [("_law_pair", 12)]) rfl sc_L_main.nd (kSeq K (pe_fn G_L_behind_leads hr rfl (pa_cons (pv 4) (pa_cons (pv 6) pa_nil)))) (blkOk_by (own := [("_law_pair", 12)]) (N := ["_law_script", "_law_hand_here", "_law_turn", "_law_chart_here", "_law_meter_here", "_law_rings_here", "_law_paths_here", "_law_fall", "_law_least", "_law_made_here", "_law_first", "_law_other", "_law_pair"]) (sc := defScope s_L_main) (by decide +kernel)) (fun _ _ _ _ _ => (pg_name (i := 12) sc_L_main.nd rfl (by first | exact Or.inl rfl | exact Or.inr rfl))) (fun _ _ _ _ _ => pts_nil) (fun _ _ _ _ _ => (pe_ix (kIx K) (pv 12) pe_int (fun _ _ => rfl)))) pa_nil))))
      (pss_cons (ps_if (pt_cmpR op_eq (pe_fn G_L_draw hr rfl (pa_cons (pv 1) (pa_cons pe_int pa_nil))) pe_int (nomark _)) (pss_one (ps_set (i := 4) sc_L_main.nd rfl (Or.inl rfl) (pe_lst (pa_cons (pe_ix (kIx K) (pv 4) pe_int (fun _ _ => rfl)) (pa_cons (pe_ix (kIx K) (pv 4) pe_int (fun _ _ => rfl)) (pa_cons (pe_callB kMax2 rfl T.z_max bt_max (pa_cons pe_int (pa_cons (pe_op op_sub (pe_op op_add (pv 8) (pe_fn G_L_draw hr rfl (pa_cons (pv 1) (pa_cons pe_int pa_nil)))) pe_int) pa_nil))) (pa_cons (pe_ix (kIx K) (pv 4) pe_int (fun _ _ => rfl)) pa_nil))))))) pss_nil)
      (pss_cons (ps_set (i := 9) sc_L_main.nd rfl (Or.inl rfl) (pe_fn G_L_made hr rfl (pa_cons (pv 1) (pa_cons (pv 4) pa_nil))))
      (pss_cons (ps_if (pt_not (pt_val (pe_fn G_L_one hr rfl (pa_cons (pv 9) (pa_cons (pv 4) (pa_cons (pv 6) (pa_cons (pv 5) pa_nil))))))) (pss_one (ps_ret pe_bl)) pss_nil)
      (pss_cons (ps_if (pt_not (pt_val (pe_fn G_L_exact hr rfl (pa_cons (pe_fn G_L_asked hr rfl (pa_cons (pv 9) pa_nil)) (pa_cons (pe_ifExp (pt_cmpR op_isN1 (pv 7) pe_non (nomark _)) (pv 8) (pe_tup (pa_cons pe_str (pa_cons (pe_ix (kIx K) (pv 7) pe_int (fun _ _ => rfl)) (pa_cons (pe_ix (kIx K) (pv 7) pe_int (fun _ _ => rfl)) pa_nil))))) pa_nil))))) (pss_one (ps_ret pe_bl)) pss_nil)
      (pss_one (ps_for PassesOwn.never rfl (kSeq K (pe_lst (pa_cons (pv 8) (pa_cons (pe_callB kMax2 rfl T.z_max bt_max (pa_cons pe_int (pa_cons (pe_op op_sub (pv 8) pe_int) pa_nil))) (pa_cons (pe_fn G_L_draw hr rfl (pa_cons (pv 1) (pa_cons pe_int pa_nil))) (pa_cons (pe_op op_add (pv 8) (pe_fn G_L_draw hr rfl (pa_cons (pv 1) (pa_cons (pe_op op_pow pe_int pe_int) pa_nil)))) pa_nil)))))) (pg_name (i := 10) sc_L_main.nd rfl (Or.inl rfl)) (pss_cons (ps_set (i := 11) sc_L_main.nd rfl (Or.inl rfl) (pe_lst (pa_cons (pe_ix (kIx K) (pv 4) pe_int (fun _ _ => rfl)) (pa_cons (pe_ix (kIx K) (pv 4) pe_int (fun _ _ => rfl)) (pa_cons (pv 10) (pa_cons (pe_ix (kIx K) (pv 4) pe_int (fun _ _ => rfl)) pa_nil))))))
      (pss_cons (ps_if (pt_not (pt_val (pe_fn G_L_one hr rfl (pa_cons (kMt K (pv 9) T.c_Meter T.m_Meter_with_first G_Meter_with_first hr (pa_cons (pv 10) pa_nil)) (pa_cons (pv 11) (pa_cons (pv 6) (pa_cons (pv 5) pa_nil))))))) (pss_one (ps_ret pe_bl)) pss_nil)
      (pss_one (ps_if (PW.pt (pw_and (pt_cmpR op_isN1 (pv 7) pe_non (nomark _)) (pw_and1 (pt_cmpR op_ne (pe_fn G_is_covered hr rfl (pa_cons (kMt K (pv 9) T.c_Meter T.m_Meter_with_first G_Meter_with_first hr (pa_cons (pv 10) pa_nil)) pa_nil)) (pe_cmpR op_ge (pv 10) (pv 8) (nomark _)) (nomark _))))) (pss_one (ps_ret pe_bl)) pss_nil)))))))))))))))))
      (pss_one (ps_ret pe_bl)))), ?_⟩
    show (_ : TS) { nx := fun _ H' => Q .non H', rt := Q } ([some (.ref sc), none, none, none, none, none, none, none, none, none, none, none, none] : L2.St) H
    walk_at "go"
    refine ⟨sc, cells, rfl, hsc, hcl, fun h cl H1 e1 nh hh1 => ?_⟩
    walk_at "go"
    refine c_seq (f_r1 ?_)
    walk_at "go"
    refine ovR1 (by omega) ?_
    refine fo walk_range (fun i σ' H' => ∃ (o2 o3 o4 o5 o6 o7 o8 o9 o10 o11 o12 : Option V), σ' = [some (.ref sc), some (.ref h), o2, o3, o4, o5, o6, o7, o8, o9, o10, o11, o12] ∧ HandAt H' h cl) ⟨_, _, _, _, _, _, _, _, _, _, _, rfl, hh1⟩ (fun _ _ _ _ _ => trivial) ?_ ?_
    · rintro i x σ' H2 H2' hi ⟨o2, o3, o4, o5, o6, o7, o8, o9, o10, o11, o12, rfl, hh2⟩ ⟨rfl, rfl⟩
      walk_at "go"
      refine ⟨h, cl, rfl, hh2, fun x costs ar H3 nx e3 hh3 hc3 gc => ?_⟩
      have nxh := (hh2.ne nx).1
      walk_at "go"
      refine ⟨h, cl, x, costs, ar, rfl, hh3, nxh, hc3, gc, fun y M H4 ny e4 hh4 hM4 gm eMc eMa => ?_⟩
      subst eMc eMa
      have nyh := (hh3.ne ny).1
      have hc4 := hc3.ek hh3 nxh e4
      walk_at "go"
      refine ⟨x, M.costs, M.ar, rfl, hc4, gc, fun rg rxs RS H5 e5 nrg hrg dR hRl hRi hRp => ?_⟩
      have nrgh := (hh4.ne nrg).1
      have hR5 : RingsAt K H5 rg M.ar := ⟨rxs, RS, hrg, dR, hRl, hRi, hRp⟩
      have hh5 := hh4.same e5
      walk_at "go"
      refine ⟨x, M.costs, M.ar, rfl, hc4.mono e5, gc, fun pa pxs PS H6 e6 npa hpa dP hPl hPi hPp => ?_⟩
      have npah := (hh5.ne npa).1
      have hP6 : PathsAt K H6 pa M.ar := ⟨pxs, PS, hpa, dP, hPl, hPi, hPp⟩
      have hh6 := hh5.same e6
      have hM6 := (hM4.mono e5).mono e6
      have hR6 := hR5.mono e6
      walk_at "go"
      refine first_ring_use hM6 gm hR6 fun fv H7 e7 hF7 => ?_
      obtain ⟨tc, ta, tch, xs, y1, y2, y3, y4, y5⟩ := id (hM6.mono e7)
      have g1 : SqA K H7 y [.ref tc, .ref ta, .int M.first, .ref tch] := .lst y1
      have a0 : ∀ f : Int, atI ([.ref tc, .ref ta, .int f, .ref tch] : List V) 0 = some (.ref tc) := fun f => atI_nat (j := 0) rfl
      have a1 : ∀ f : Int, atI ([.ref tc, .ref ta, .int f, .ref tch] : List V) 1 = some (.ref ta) := fun f => atI_nat (j := 1) rfl
      have a2 : ∀ f : Int, atI ([.ref tc, .ref ta, .int f, .ref tch] : List V) 2 = some (.int f) := fun f => atI_nat (j := 2) rfl
      have a3 : ∀ f : Int, atI ([.ref tc, .ref ta, .int f, .ref tch] : List V) 3 = some (.ref tch) := fun f => atI_nat (j := 3) rfl
      have b0 := a0 M.first
      have b1 := a1 M.first
      have b2' := a2 M.first
      have b3 := a3 M.first
      walk_at "go"
      refine l_seq ?_
      walk_at "go"
      refine ⟨y, pa, M, pxs, PS, rfl, hM6.mono e7, gm, e7 _ _ hpa, dP.mono e7, hPl, fun p hp => (hPi p).mp hp, fun la lxs H8 e8 nla hla dL => ?_⟩
      have hll : lxs.length = PS.length := by rw [dL.len, List.length_map]
      refine ovL (.of hla) (lp walk_list (fun Hx e => .of (e _ _ hla)) (fun k acc => acc = ((PS.take k).map fun p => lead M p.1 p.2).map V.int) rfl ?_ ?_)
      · rintro D j z acc H9 H9' nD hj hlx hD e9 hR ⟨rfl, hz⟩
        obtain ⟨p, hp⟩ := getElem_some (l := PS) (k := j) (by omega)
        obtain ⟨yv, hy, hyd⟩ := (dL.mono e9).get (i := j) (d := encL M p) (by rw [List.getElem?_map, hp]; rfl)
        rw [hy] at hz
        cases hz
        obtain ⟨ya, ys, rfl, u1, u2⟩ := hyd.tupE
        cases u2 with
        | @cons v1 _ _ _ q1 q2 =>
          cases q2 with
          | cons q3 q4 =>
            cases q4
            cases q3
            have g2 : SqA K H9' ya [v1, .int (lead M p.1 p.2)] := .inr u1
            have g3 : atI ([v1, .int (lead M p.1 p.2)] : List V) 1 = some (.int (lead M p.1 p.2)) := atI_nat (j := 1) rfl
            walk_at "go"
            refine ⟨rfl, ?_⟩
            walk_at "go"
            refine Lp.add nD hD e9 (Same.refl _) hlx ?_ (by omega)
            rw [hR, List.take_add_one, hp]
            simp
      · intro D acc H9 nD e9 hD hlx hR
        rw [hll, List.take_length] at hR
        have hPn : 0 < PS.length := List.length_pos_of_mem ((hPi ([], 0)).mpr path_nil)
        walk_at "go"
        refine ⟨D, PS.map fun p => lead M p.1 p.2, rfl, .of (by rw [hD, hR]), by rw [List.length_map]; exact hPn, fun m hm hmin => ?_⟩
        have hLe := least_min hPi hm hmin
        have hLr := hLe.range gm
        have e69 := (e7.trans e8).trans e9
        have hh9 := hh6.same e69
        have hF9 := (hF7.mono e8).mono e9
        have hR9 := hR6.mono e69
        have hP9 := hP6.mono e69
        have hM9 := hM6.mono e69
        clear hm hmin hR hlx hla dL dP dR hF7 hR6 hP6 hM6 g1 hc3 hc4 hR5 hpa hrg
        refine c_I0 ?_
        show tSeq (tIfS _ _ _) _ _ _ _
        generalize M.first - m = least at *
        refine c_ifJ (fun σ' H' => ∃ (y' : Addr) (f : Int) (o2 o9 o10 o11 o12 : Option V), σ' = [some (.ref sc), some (.ref h), o2, some (.ref x), some (.ref y'), some (.ref rg), some (.ref pa), some fv, some (.int least), o9, o10, o11, o12] ∧ y' ≠ h ∧ LM K H' y' (M.withF f) ∧ (0 ≤ f ∧ f ≤ 1000000000000) ∧ HandAt H' h cl ∧ RingsAt K H' rg M.ar ∧ PathsAt K H' pa M.ar ∧ FallV K H' fv M) (fun F hF => ?_) ?_
        · walk_at "go"
          refine ⟨h, cl, 2, rfl, hh9, by omega, by omega, fun r10 H10 e10 hh10 r100 r101 => ?_⟩
          have hM10 := hM9.ek hh9 nyh e10
          have hR10 := hR9.ek hh9 nrgh e10
          have hP10 := hP9.ek hh9 npah e10
          have hF10 := hF9.tk (hh9.tk e10)
          walk_at "go"
          refine d2 (fun h1 => ?_) fun h1 => ?_
          · obtain ⟨tc, ta, tch, xs, y1, y2, y3, y4, y5⟩ := id hM10
            have g1 : SqA K H10 y [.ref tc, .ref ta, .int M.first, .ref tch] := .lst y1
            have b0 : atI ([.ref tc, .ref ta, .int M.first, .ref tch] : List V) 0 = some (.ref tc) := atI_nat (j := 0) rfl
            have b1 : atI ([.ref tc, .ref ta, .int M.first, .ref tch] : List V) 1 = some (.ref ta) := atI_nat (j := 1) rfl
            have b3 : atI ([.ref tc, .ref ta, .int M.first, .ref tch] : List V) 3 = some (.ref tch) := atI_nat (j := 3) rfl
            walk_at "go"
            refine ⟨h, cl, 5, rfl, hh10, by omega, by omega, fun r11 H11 e11 hh11 r110 r111 => ?_⟩
            have g2 : SqA K H11 y [.ref tc, .ref ta, .int M.first, .ref tch] := .lst (e11.at nyh y1)
            have t11 := hh10.tk (K := K) e11
            clear g1
            walk_at "go"
            refine ⟨by show 4 ≤ sizeLine; decide, fun p np => ?_⟩
            generalize hf : (if least + r11 - 2 > 0 then least + r11 - 2 else 0) = f at *
            have e12 : Same H11 (upd H11 p (.lst [.ref tc, .ref ta, .int f, .ref tch])) := Same.new np
            have t12 := Same.tk (K := K) e12
            refine hF _ _ ⟨p, f, _, _, _, _, _, rfl, (hh11.ne np).1, lm_new upd_same (t12 _ _ (t11 _ _ y2)) (t12 _ _ (t11 _ _ y3)) (Tk.ar (t11.trans t12) y4) (t12 _ _ (t11 _ _ y5)), ?_, hh11.same e12, (hR10.ek hh10 nrgh e11).mono e12, (hP10.ek hh10 npah e11).mono e12, (hF10.tk t11).mono e12⟩
            rw [← hf]
            split <;> omega
          · walk_at "go"
            exact hF _ _ ⟨y, M.first, _, _, _, _, _, rfl, nyh, hM10, gm.f, hh10, hR10, hP10, hF10⟩
        · rintro σ' H10 ⟨y', f, o2, o9, o10, o11, o12, rfl, ny', hM10, hf, hh10, hR10, hP10, hF10⟩
          have gm' : GoodM (M.withF f) := gm.withF hf
          walk_at "go"
          refine ⟨h, cl, y', M.withF f, rfl, hh10, ny', hM10, gm', fun me H11 e11 hh11 _ hMe => ?_⟩
          have hM11 := hM10.ek hh10 ny' e11
          have hR11 := hR10.ek hh10 nrgh e11
          have hP11 := hP10.ek hh10 npah e11
          have hF11 := hF10.tk (hh10.tk e11)
          walk_at "go"
          refine ⟨me, y', pa, rg, M.withF f, rfl, hMe, hM11, gm', hP11, hR11, fun H12 e12 => ?_⟩
          walk_at "go"
          refine asked_use (hMe.mono e12) gm'.ok gm'.re fun v H13 e13 hv => ?_
          have hF13 := (hF11.mono e12).mono e13
          have e113 := e12.trans e13
          refine c_cons ?_
          refine c_ifE (fun v2 H' => Same H13 H' ∧ ∃ d, Dp K H' v d ∧ Dp K H' v2 d ∧ exD 2 d) (fun F hF => ?_) ?_
          · rcases hF13 with ⟨rfl, nf⟩ | ⟨a, r, rfl, hmf, hrp⟩
            · walk_at "go"
              refine c_dt rfl ?_
              walk_at "go"
              rcases hv with ⟨_, z, rfl, hz⟩ | ⟨r, hmf, _⟩
              · have ez : z = least := hz.unique (hLe.withF f)
                subst ez
                exact hF _ _ ⟨Same.refl _, .int z, .int z, .int z, trivial⟩
              · have h1 := nf r hmf.1
                have h2 : gs M.g r < 0 := hmf.2.1
                omega
            · walk_at "go"
              refine c_df (by simp) ?_
              obtain ⟨t, t1, t2⟩ := hrp
              have g1 : SqA K H13 a [.ref t, .int (gs M.g r)] := .inr t1
              have a0 : atI ([.ref t, .int (gs M.g r)] : List V) 0 = some (.ref t) := atI_nat (j := 0) rfl
              have a1 : atI ([.ref t, .int (gs M.g r)] : List V) 1 = some (.int (gs M.g r)) := atI_nat (j := 1) rfl
              walk_at "go"
              refine ⟨by show 3 ≤ sizeLine; decide, fun p3 np3 => ?_⟩
              have e14 : Same H13 (upd H13 p3 (.tup [.str "falls", .ref t, .int (gs M.g r)])) := Same.new np3
              rcases hv with ⟨nf, _⟩ | ⟨r', hmf', hv⟩
              · have h1 : 0 ≤ gs M.g r := nf r hmf.1
                have h2 := hmf.2.1
                omega
              · have er : r' = r := MinFall.unique (ar := M.ar) (g := M.g) hmf' hmf
                subst er
                refine hF _ _ ⟨e14, resD (some (true, r', gs M.g r')), Dp.mono e14 hv, .tup (.of upd_same) (.cons (.str _) (.cons (.tup (e14.tup t2) (DpAll.of_nats r')) (.cons (.int _) .nil))), exD_res _ fun b k g e => ?_⟩
                cases e
                have := (ring_max gm hmf.1).1
                omega
          · rintro v2 H14 ⟨e14, d, hd1, hd2, hd3⟩
            have e114 := e113.trans e14
            walk_at "go"
            refine ⟨v, v2, d, rfl, hd1, hd2, hd3, fun H15 e15 => ?_⟩
            have e115 := e114.trans e15
            have hh15 := hh11.same e115
            have hMe15 := hMe.mono e115
            have hM15 := hM11.mono e115
            have hR15 := hR11.mono e115
            have hP15 := hP11.mono e115
            have hF15 := hF11.mono e115
            clear hF13 hd1 hd2 hv
            walk_at "go"
            dsimp only
            refine f_seq ?_
            walk_at "go"
            refine ⟨h, cl, 12, rfl, hh15, by omega, by omega, fun r16 H16 e16 hh16 r160 r161 => ?_⟩
            walk_at "go"
            refine ⟨h, cl, _, rfl, hh16, by decide, by decide, fun r17 H17 e17 hh17 r170 r171 => ?_⟩
            replace r171 : r17 < 1000000000 := r171
            walk_at "go"
            refine ⟨by show 4 ≤ sizeLine; decide, fun Fa nFa => ?_⟩
            obtain ⟨fs, efs⟩ : ∃ fs : List Int, fs = [least, (if least - 1 > 0 then least - 1 else 0), r16, least + r17] := ⟨_, rfl⟩
            have efv : ([.int least, .int (if least - 1 > 0 then least - 1 else 0), .int r16, .int (least + r17)] : List V) = fs.map V.int := by rw [efs]; rfl
            rw [efv]
            have hfs : ∀ z ∈ fs, 0 ≤ z ∧ z ≤ 1000000000000 := fun z hz => by
              rw [efs] at hz
              have hz' : z = least ∨ z = (if least - 1 > 0 then least - 1 else 0) ∨ z = r16 ∨ z = least + r17 := by simpa using hz
              rcases hz' with rfl | rfl | rfl | rfl
              · omega
              · split <;> omega
              · omega
              · omega
            have e18 : Same H17 (upd H17 Fa (.lst (fs.map V.int))) := Same.new nFa
            have hFa : (upd H17 Fa (.lst (fs.map V.int))) Fa = some (.lst (fs.map V.int)) := upd_same
            have e1517 : Ek h H15 H17 := e16.trans e17
            have hMe18 := (hMe15.ek hh15 e1517).mono e18
            have hM18 := (hM15.ek hh15 ny' e1517).mono e18
            have hR18 := (hR15.ek hh15 nrgh e1517).mono e18
            have hP18 := (hP15.ek hh15 npah e1517).mono e18
            have hF18 := (hF15.tk (hh15.tk e1517)).mono e18
            have hh18 := hh17.same e18
            clear efv efs hMe15 hM15 hR15 hP15 hF15 hMe hM11 hR11 hP11 hF11
            generalize upd H17 Fa (.lst (fs.map V.int)) = H18 at *
            refine ovL (.of hFa) (fo walk_list (fun j σ' H' => ∃ (u10 u11 : Option V), σ' = [some (.ref sc), some (.ref h), o2, some (.ref x), some (.ref y'), some (.ref rg), some (.ref pa), some fv, some (.int least), some (.ref me), u10, u11, o12] ∧ Same H18 H') ⟨_, _, rfl, Same.refl _⟩ (fun j σ' H' _ ⟨_, _, _, e⟩ => .of (e _ _ hFa)) ?_ ?_)
            · rintro j z σ' H19 H19' hj ⟨u10, u11, rfl, e19⟩ ⟨rfl, hz⟩
              rw [List.length_map] at hj
              obtain ⟨ff, hff⟩ := getElem_some hj
              rw [List.getElem?_map, hff] at hz
              cases hz
              have hffr := hfs ff (List.mem_of_getElem? hff)
              have hMe19 := hMe18.mono e19
              obtain ⟨tc, ta, tch, xs, y1, y2, y3, y4, y5⟩ := id (hM18.mono e19)
              have g1 : SqA K H19' y' [.ref tc, .ref ta, .int (M.withF f).first, .ref tch] := .lst y1
              have b0 : atI ([.ref tc, .ref ta, .int (M.withF f).first, .ref tch] : List V) 0 = some (.ref tc) := atI_nat (j := 0) rfl
              have b1 : atI ([.ref tc, .ref ta, .int (M.withF f).first, .ref tch] : List V) 1 = some (.ref ta) := atI_nat (j := 1) rfl
              have b3 : atI ([.ref tc, .ref ta, .int (M.withF f).first, .ref tch] : List V) 3 = some (.ref tch) := atI_nat (j := 3) rfl
              walk_at "go"
              refine ⟨by show 4 ≤ sizeLine; decide, fun Oa nOa => ?_⟩
              have e20 : Same H19' (upd H19' Oa (.lst [.ref tc, .ref ta, .int ff, .ref tch])) := Same.new nOa
              have hO20 : LM K (upd H19' Oa (.lst [.ref tc, .ref ta, .int ff, .ref tch])) Oa (M.withF ff) := lm_new upd_same (e20.tup y2) (e20.tup y3) (y4.mono e20) (e20.tup y5)
              generalize upd H19' Oa (.lst [.ref tc, .ref ta, .int ff, .ref tch]) = H20 at *
              have hMe20 := hMe19.mono e20
              obtain ⟨c, tc2, ta2, tch2, xs2, mo⟩ := hMe20
              have mls1 : ∃ dx fs, H20 me = some (.ins (He.ga K "Meter") dx fs) ∧ fs.lookup ("with_first" : Str) = none := by
                obtain ⟨dx, fs, h1, _, _, h2⟩ := mo.mls
                exact ⟨dx, fs, h1, h2⟩
              walk_at "go"
              refine ⟨me, M.withF f, ff, rfl, ⟨c, tc2, ta2, tch2, xs2, mo⟩, gm'.ok, hffr, gm'.ch, fun me2 H21 e21 hMe2 => ?_⟩
              have gm2 : GoodM (M.withF ff) := gm.withF hffr
              have e1821 := (e19.trans e20).trans e21
              walk_at "go"
              refine ⟨me2, Oa, pa, rg, M.withF ff, rfl, hMe2, hO20.mono e21, gm2, hP18.mono e1821, hR18.mono e1821, fun H22 e22 => ?_⟩
              have e1822 := e1821.trans e22
              walk_at "go"
              dsimp only
              rcases hF18 with ⟨rfl, nf⟩ | ⟨a, r, rfl, _, _⟩
              · walk_at "go"
                refine c_dt rfl ?_
                obtain ⟨c, tc2, ta2, tch2, xs2, mo⟩ := hMe18.mono e1822
                have mls2 : ∃ dx fs, H22 me = some (.ins (He.ga K "Meter") dx fs) ∧ fs.lookup ("with_first" : Str) = none := by
                  obtain ⟨dx, fs, h1, _, _, h2⟩ := mo.mls
                  exact ⟨dx, fs, h1, h2⟩
                walk_at "go"
                refine ⟨me, M.withF f, ff, rfl, ⟨c, tc2, ta2, tch2, xs2, mo⟩, gm'.ok, hffr, gm'.ch, fun me3 H23 e23 hMe3 => ?_⟩
                have hcv := cov_iff nf hLe ff
                have hdec : (∃ r, MinFall M.ar M.g r) ∨ NoFall M ∧ ((∃ r b, MinShort (M.withF ff) r b) ∨ ∀ r b, Path M.ar r b → 0 ≤ lead (M.withF ff) r b) := .inr ⟨nf, short_dec (M := M.withF ff) (hP18.mono e1822)⟩
                walk_at "go"
                refine ⟨me3, M.withF ff, rfl, hMe3, gm2.ok, hdec, fun hc H24 e24 => ?_, fun hc H24 e24 => ?_⟩
                · have hle := hcv.mp hc
                  walk_at "go"
                  refine ⟨rfl, ?_⟩
                  have e : decide (least ≤ ff) = true := decide_eq_true hle
                  rw [e]
                  walk_at "go"
                  exact ⟨_, _, rfl, (e1822.trans e23).trans e24⟩
                · have hle : ¬ least ≤ ff := fun z => hc (hcv.mpr z)
                  walk_at "go"
                  refine ⟨rfl, ?_⟩
                  have e : decide (least ≤ ff) = false := decide_eq_false hle
                  rw [e]
                  walk_at "go"
                  exact ⟨_, _, rfl, (e1822.trans e23).trans e24⟩
              · walk_at "go"
                refine c_df (by simp) ?_
                walk_at "go"
                exact ⟨_, _, rfl, e1822⟩
            · rintro σ' H19 ⟨u10, u11, rfl, e19⟩
              exact ⟨_, _, _, _, _, _, _, _, _, _, _, rfl, hh18.same e19⟩
    · rintro σ' H2 ⟨o2, o3, o4, o5, o6, o7, o8, o9, o10, o11, o12, rfl, hh2⟩
      dsimp only
      walk_at "go"
      exact q _
end
end
end Pa
end
set_option Elab.async false
set_option linter.all false
set_option maxRecDepth 100000
set_option maxHeartbeats 0
/-! The end. -/
namespace Pa
open PySem PySem.Spec PyProof.Rows L2
theorem ok_law {P : Program} {w : World} {K : PySem.W.Frag} {mg : Str → Option Value} {base : Heap} (T : Tx K mg) {fd : FuncData} (F : FunD K "law" "law" (defArgs s_L_main) (defBody s_L_main) (defScope s_L_main) [] [] (He.ga K "law") fd) : FnOk P w K mg base CX0 11 (He.ga K "law") fd ["_law_script"] (spLaw K) := by
  have h_is_whole := ok_is_whole (P := P) (w := w) (base := base) T 
  have h_is_row := ok_is_row (P := P) (w := w) (base := base) T 
  have h_arrow_gain := ok_arrow_gain (P := P) (w := w) (base := base) T 
  have h_check_place := ok_check_place (P := P) (w := w) (base := base) T h_is_whole
  have h_Chart_outs := ok_Chart_outs (P := P) (w := w) (base := base) T h_check_place
  have h_rest_rows := ok_rest_rows (P := P) (w := w) (base := base) T h_arrow_gain
  have h_lead_rows := ok_lead_rows (P := P) (w := w) (base := base) T h_arrow_gain
  have h_can_drift := ok_can_drift (P := P) (w := w) (base := base) T 
  have h_least_ring := ok_least_ring (P := P) (w := w) (base := base) T h_arrow_gain h_can_drift h_Chart_outs
  have h_least_walk := ok_least_walk (P := P) (w := w) (base := base) T h_arrow_gain h_Chart_outs
  have h_Drift_init := ok_Drift_init (P := P) (w := w) (base := base) T 
  have h_first_drift := ok_first_drift (P := P) (w := w) (base := base) T h_arrow_gain h_rest_rows h_least_ring h_Drift_init
  have h_find_fall := ok_find_fall (P := P) (w := w) (base := base) T h_first_drift
  have h_check_run := ok_check_run (P := P) (w := w) (base := base) T h_is_whole h_is_row
  have h_places_of := ok_places_of (P := P) (w := w) (base := base) T h_check_run
  have h_used_by := ok_used_by (P := P) (w := w) (base := base) T h_places_of
  have h_Meter_charged := ok_Meter_charged (P := P) (w := w) (base := base) T h_check_run
  have h_Meter_lead_behind := ok_Meter_lead_behind (P := P) (w := w) (base := base) T h_used_by h_Meter_charged
  have h_extreme_worths := ok_extreme_worths (P := P) (w := w) (base := base) T h_find_fall h_lead_rows
  have h_low_leads := ok_low_leads (P := P) (w := w) (base := base) T h_extreme_worths
  have h_Short_init := ok_Short_init (P := P) (w := w) (base := base) T 
  have h_find_short := ok_find_short (P := P) (w := w) (base := base) T h_find_fall h_lead_rows h_rest_rows h_least_walk h_Meter_lead_behind h_Short_init
  have h_is_covered := ok_is_covered (P := P) (w := w) (base := base) T h_find_short
  have h_Short_eq := ok_Short_eq (P := P) (w := w) (base := base) T 
  have h_Drifting_init := ok_Drifting_init (P := P) (w := w) (base := base) T 
  have h_least_first := ok_least_first (P := P) (w := w) (base := base) T h_find_fall h_low_leads h_Drifting_init
  have h_reached_places := ok_reached_places (P := P) (w := w) (base := base) T 
  have h_Chart_init := ok_Chart_init (P := P) (w := w) (base := base) T h_is_whole h_is_row h_reached_places
  have h_Meter_init := ok_Meter_init (P := P) (w := w) (base := base) T h_is_whole h_is_row
  have h_Meter_with_first := ok_Meter_with_first (P := P) (w := w) (base := base) T h_Meter_init
  have h_L_mix := ok_L_mix (P := P) (w := w) (base := base) T 
  have h_L_draw := ok_L_draw (P := P) (w := w) (base := base) T h_L_mix
  have h_L_take := ok_L_take (P := P) (w := w) (base := base) T h_L_draw
  have h_L_cost := ok_L_cost (P := P) (w := w) (base := base) T h_L_draw
  have h_L_order := ok_L_order (P := P) (w := w) (base := base) T h_L_draw
  have h_L_chart := ok_L_chart (P := P) (w := w) (base := base) T h_L_draw h_L_order h_L_cost
  have h_L_behind := ok_L_behind (P := P) (w := w) (base := base) T 
  have h_L_inner := ok_L_inner (P := P) (w := w) (base := base) T h_L_behind
  have h_L_gain := ok_L_gain (P := P) (w := w) (base := base) T 
  have h_L_sum := ok_L_sum (P := P) (w := w) (base := base) T h_L_gain
  have h_L_even_row := ok_L_even_row (P := P) (w := w) (base := base) T h_L_draw
  have h_L_meter := ok_L_meter (P := P) (w := w) (base := base) T h_L_draw h_L_even_row h_L_inner
  have h_L_made := ok_L_made (P := P) (w := w) (base := base) T h_L_take h_Chart_init h_Meter_init
  have h_L_hand := ok_L_hand (P := P) (w := w) (base := base) T 
  have h_L_walks := ok_L_walks (P := P) (w := w) (base := base) T 
  have h_L_rings := ok_L_rings (P := P) (w := w) (base := base) T h_L_walks
  have h_L_paths := ok_L_paths (P := P) (w := w) (base := base) T h_L_walks
  have h_L_first_ring := ok_L_first_ring (P := P) (w := w) (base := base) T h_L_sum
  have h_L_behind_leads := ok_L_behind_leads (P := P) (w := w) (base := base) T h_L_sum
  have h_L_due := ok_L_due (P := P) (w := w) (base := base) T h_L_first_ring h_L_behind_leads
  have h_exact0 := ok_exact0 (P := P) (w := w) (base := base) T 
  have h_exact1 := ok_exact1 (P := P) (w := w) (base := base) T h_exact0
  have h_exact2 := ok_exact2 (P := P) (w := w) (base := base) T h_exact1
  have h_L_told := ok_L_told (P := P) (w := w) (base := base) T h_find_short
  have h_L_one := ok_L_one (P := P) (w := w) (base := base) T h_find_short h_L_due h_L_told h_exact2 h_is_covered h_Short_init h_Short_eq h_Meter_lead_behind
  have h_L_asked := ok_L_asked (P := P) (w := w) (base := base) T h_least_first
  exact ok_L_main T F h_L_hand h_L_draw h_L_chart h_L_meter h_L_rings h_L_paths h_L_first_ring h_L_behind_leads h_L_made h_L_one h_exact2 h_L_asked h_is_covered h_Meter_with_first
theorem facts {P : Program} {w : World} {K : PySem.W.Frag} {h : Heap} {mg : Str → Option Value} {f : Addr} (X : K.In h) (G : h.Ns mainGlobals mg) (hfa : mg ("law" : Str) = some (.ref f)) (c : He.SaysX fa fn [] [] ex w h K) :
    ∃ fd : FuncData, (∀ (s : Shared) (v : Value), BindsTo s fd ⟨[v], []⟩ [("_law_script", v)]) ∧ ∀ base : Heap, K.In base → base.Ns mainGlobals mg → FnOk P w K mg base CX0 11 f fd ["_law_script"] (spLaw K) := by
  have T : Tx K mg := ⟨c.t.d, c.more, h, X, G⟩
  obtain ⟨fd, F⟩ := T.f_L_main
  have e := hfa.symm.trans T.g_law
  cases e
  have b := FunD.bindsA (ps := ["_law_script"]) F fun _ _ _ _ _ _ us hl => match us, hl with | [_], _ => rfl
  exact ⟨fd, fun s v => b s [v] rfl, fun base _ _ => ok_law T F⟩
end Pa
open PySem PySem.W PySem.Calls PyProof.Rows
theorem PySem.Challenge.cw_purseahead_k12_whole_covered_or_short_fo_holds : PySem.Challenge.rw_purseahead_k12_whole_covered_or_short_fo.Holds := by
  w_on; o_law
  refine HandSHeadRun.head_any (r := OpenLaw.row PySem.Challenge.rw_purseahead_k12_whole_covered_or_short_fo) (q := view (OpenLaw.row PySem.Challenge.rw_purseahead_k12_whole_covered_or_short_fo).prog [67]) (H := Pa.hk) (ob := Pa.ob) (M := 12000) (loose := Pa.names) (d := HandSHeadRun.topDef (OpenLaw.row PySem.Challenge.rw_purseahead_k12_whole_covered_or_short_fo).prog 67) (kwd := []) Pa.ob_eq
    (by kernel_rfl) (fun s => by kernel_rfl) Pa.run (by kernel_rfl) (by kernel_rfl) (by kernel_rfl) (by rfl) (by first | assumption | decide +kernel) (by decide +kernel) ⟨rfl, rfl, rfl, rfl, rfl, by decide +kernel⟩ ?hw ?hc
  case hw => w_witness2
  case hc =>
    refine L2.walk_ofE (l := PySem.Challenge.rw_purseahead_k12_whole_covered_or_short_fo) (n := 63) (k := 11) (x := "_law_script") (CX := L2.CX0) rfl (by decide) (by kernel_rfl) ⟨rfl, by decide, by decide⟩ ?F (fun _ _ _ _ z => z)
    intro w mg fa h Y G hmg0
    obtain ⟨K, KX, c⟩ := Y
    have hmg : mg ("law" : PySem.Str) = some (.ref fa) := by
      have e : (HandSHeadRun.topDef (OpenLaw.row PySem.Challenge.rw_purseahead_k12_whole_covered_or_short_fo).prog 67).name = ("law" : PySem.Str) := by kernel_rfl
      rw [← e]
      exact hmg0
    obtain ⟨fd, hb, hF⟩ := Pa.facts (P := (PySem.Challenge.rw_purseahead_k12_whole_covered_or_short_fo).prog) (w := w) KX G hmg c
    exact ⟨K, fd, Pa.spLaw K, KX, hb, fun H a ns hl _ hS => ⟨a, ns, rfl, hS, by omega, fun _ => rfl⟩, hF⟩
