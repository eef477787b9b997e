import PyProof.Rows.All
import Wide.All
import OpenK.AllK
import Wide.FinOn
import KE.KStateDown
import HandS.ForMost
import HandS.Defaults
import HandS.Lambda
import HandS.EndTab
import HandS.HeadWalk
import HandS.ClsMeth
import HandS.Head0
import HandS.Head1
import HandS.Head2
import HandS.HeadEnd
import HandS.HeadHook1
import HandS.HeadHook2
import HandS.HeadHook3
import HandS.HeadHook4
import HandS.HeadNt
import HandS.Exc
import HandS.More
import HandS.Nested
import HandS.Finally
import HandS.SortKw
import HandS.Dict
import KE.SortKeyHeap
import PyProof.DictUpdate
import KE.KMinKey
import HandS.Wide
import HandS.WideBits
import HandS.IsInst
import HandS.MakeKwOnly
import HandS.NoneIn
import HandS.WordsList
import PySem.Challenge.RW_oncebuilt_k15_whole_counts_and_lines
set_option Elab.async false
set_option linter.all false
set_option maxRecDepth 100000
set_option maxHeartbeats 0
namespace OB
/-! ### lines: an address, a slope, an intercept -/
abbrev Ln := Nat × Int × Int
def val (l : Ln) (x : Int) : Int := l.2.1 * x + l.2.2
/-- (b3 - b1) * (a1 - a2) <= (b2 - b1) * (a1 - a3) -/
def hid (l1 l2 l3 : Ln) : Prop := (l3.2.2 - l1.2.2) * (l1.2.1 - l2.2.1) ≤ (l2.2.2 - l1.2.2) * (l1.2.1 - l3.2.1)
instance (a b c : Ln) : Decidable (hid a b c) := by unfold hid; infer_instance
theorem hid_core {p q u v : Int} (h : ¬ (u + v) * p ≤ u * (p + q)) : u * q < v * p := by
  have e1 : (u + v) * p = u * p + v * p := Int.add_mul ..
  have e2 : u * (p + q) = u * p + u * q := Int.mul_add ..
  omega
theorem hid_core' {p q u v : Int} (h : (u + v) * p ≤ u * (p + q)) : v * p ≤ u * q := by
  have e1 : (u + v) * p = u * p + v * p := Int.add_mul ..
  have e2 : u * (p + q) = u * p + u * q := Int.mul_add ..
  omega
theorem mul_lt_cancel {p a b : Int} (hp : 0 < p) (h : p * a < p * b) : a < b := Int.lt_of_mul_lt_mul_left h (Int.le_of_lt hp)
theorem hid_next {p q u v x : Int} (hp : 0 < p) (hq : 0 < q) (h : u * q < v * p) (hx : p * x < u) : q * x < v := by
  refine mul_lt_cancel hp ?_
  have e1 : p * (q * x) = (p * x) * q := by rw [Int.mul_comm q x, ← Int.mul_assoc]
  have e2 : p * v = v * p := Int.mul_comm ..
  have e3 : (p * x) * q < u * q := Int.mul_lt_mul_of_pos_right hx hq
  rw [e1, e2]
  omega
theorem sub_val (l1 l2 : Ln) (x : Int) : val l1 x - val l2 x = (l1.2.1 - l2.2.1) * x - (l2.2.2 - l1.2.2) := by
  unfold val
  rw [Int.sub_mul]
  omega
/-- two lines rise, the third lies further on: the values rise on -/
theorem nothid_up {a b c : Ln} (h : ¬ hid a b c) (s1 : b.2.1 < a.2.1) (s2 : c.2.1 < b.2.1) {x : Int} (hx : val a x < val b x) : val b x < val c x := by
  have e1 := sub_val a b x
  have e2 := sub_val b c x
  have h' : ¬ ((b.2.2 - a.2.2) + (c.2.2 - b.2.2)) * (a.2.1 - b.2.1) ≤ (b.2.2 - a.2.2) * ((a.2.1 - b.2.1) + (b.2.1 - c.2.1)) := by
    have z1 : (b.2.2 - a.2.2) + (c.2.2 - b.2.2) = c.2.2 - a.2.2 := by omega
    have z2 : (a.2.1 - b.2.1) + (b.2.1 - c.2.1) = a.2.1 - c.2.1 := by omega
    rw [z1, z2]
    exact h
  have k := hid_next (p := a.2.1 - b.2.1) (q := b.2.1 - c.2.1) (x := x) (by omega) (by omega) (hid_core h') (by omega)
  omega
/-- a hidden line is nowhere the least alone -/
theorem hid_cov {a b c : Ln} (h : hid a b c) (s1 : b.2.1 < a.2.1) (s2 : c.2.1 < b.2.1) (x : Int) : val a x ≤ val b x ∨ val c x ≤ val b x := by
  have e1 := sub_val a b x
  have e2 := sub_val b c x
  have h' : ((b.2.2 - a.2.2) + (c.2.2 - b.2.2)) * (a.2.1 - b.2.1) ≤ (b.2.2 - a.2.2) * ((a.2.1 - b.2.1) + (b.2.1 - c.2.1)) := by
    have z1 : (b.2.2 - a.2.2) + (c.2.2 - b.2.2) = c.2.2 - a.2.2 := by omega
    have z2 : (a.2.1 - b.2.1) + (b.2.1 - c.2.1) = a.2.1 - c.2.1 := by omega
    rw [z1, z2]
    exact h
  have k := hid_core' h'
  refine Classical.byContradiction fun n => ?_
  have n1 : val b x < val a x := by omega
  have n2 : val b x < val c x := by omega
  have m1 : (b.2.2 - a.2.2) < (a.2.1 - b.2.1) * x := by omega
  have m2 : (b.2.1 - c.2.1) * x < (c.2.2 - b.2.2) := by omega
  have p1 : 0 < a.2.1 - b.2.1 := by omega
  have p2 : 0 < b.2.1 - c.2.1 := by omega
  have t1 : (b.2.2 - a.2.2) * (b.2.1 - c.2.1) < ((a.2.1 - b.2.1) * x) * (b.2.1 - c.2.1) := Int.mul_lt_mul_of_pos_right m1 p2
  have t2 : ((b.2.1 - c.2.1) * x) * (a.2.1 - b.2.1) < (c.2.2 - b.2.2) * (a.2.1 - b.2.1) := Int.mul_lt_mul_of_pos_right m2 p1
  have e : ((a.2.1 - b.2.1) * x) * (b.2.1 - c.2.1) = ((b.2.1 - c.2.1) * x) * (a.2.1 - b.2.1) := by
    rw [Int.mul_assoc, Int.mul_assoc, Int.mul_comm x, Int.mul_comm x, ← Int.mul_assoc, ← Int.mul_assoc, Int.mul_comm (a.2.1 - b.2.1)]
  omega
/-! ### the stack of the hull, its top first -/
/-- slopes rise downwards; no line of the stack is hidden by its neighbours -/
def Good : List Ln → Prop
  | [] => True
  | [_] => True
  | [t, o] => t.2.1 < o.2.1
  | t :: o :: z :: r => t.2.1 < o.2.1 ∧ ¬ hid z o t ∧ Good (o :: z :: r)
theorem Good.tail {t : Ln} {r : List Ln} (h : Good (t :: r)) : Good r := by
  match r, h with
  | [], _ => trivial
  | [o], _ => trivial
  | o :: z :: r, h => exact h.2.2
theorem Good.slope {t o : Ln} {r : List Ln} (h : Good (t :: o :: r)) : t.2.1 < o.2.1 := by
  match r, h with
  | [], h => exact h
  | z :: r, h => exact h.1
theorem Good.push {l t : Ln} {r : List Ln} (h : Good (t :: r)) (s : l.2.1 < t.2.1) (n : ∀ o r', r = o :: r' → ¬ hid o t l) : Good (l :: t :: r) := by
  match r, h, n with
  | [], _, _ => exact s
  | o :: r', h, n => exact ⟨s, n o r' rfl, h⟩
/-- what covers: at each x some line of S is not above -/
def Cov (S L : List Ln) : Prop := ∀ x, ∀ l ∈ L, ∃ h ∈ S, val h x ≤ val l x
theorem Cov.pop {l t o : Ln} {r L : List Ln} (c : Cov (l :: t :: o :: r) L) (g : Good (t :: o :: r)) (s : l.2.1 < t.2.1) (h : hid o t l) : Cov (l :: o :: r) L := fun x y hy => by
  obtain ⟨z, hz, le⟩ := c x y hy
  rcases List.mem_cons.mp hz with e | hz
  · exact ⟨z, List.mem_cons.mpr (.inl e), le⟩
  · rcases List.mem_cons.mp hz with e | hz
    · subst e
      rcases hid_cov h g.slope s x with k | k
      · exact ⟨o, by simp, by omega⟩
      · exact ⟨l, by simp, by omega⟩
    · exact ⟨z, List.mem_cons.mpr (.inr hz), le⟩
/-- the whole of the loop over the sorted lines: S the stack, L what has been gone through -/
structure HullAt (S L : List Ln) : Prop where
  good : Good S
  sub : ∀ l ∈ S, l ∈ L
  cov : Cov S L
  ne : L ≠ [] → S ≠ []
/-- slopes fall, equal ones with rising intercepts -/
def ordL (a b : Ln) : Prop := b.2.1 < a.2.1 ∨ (a.2.1 = b.2.1 ∧ a.2.2 ≤ b.2.2)
theorem HullAt.nil : HullAt [] [] := ⟨trivial, fun _ h => h, fun _ _ h => absurd h List.not_mem_nil, fun h => absurd rfl h⟩
/-- a line of the same slope as the top is left out -/
theorem HullAt.skip {t l : Ln} {r L : List Ln} (h : HullAt (t :: r) L) (o : ∀ y ∈ L, ordL y l) (e : t.2.1 = l.2.1) : HullAt (t :: r) (L ++ [l]) := by
  have ht : ordL t l := o t (h.sub t (by simp))
  refine ⟨h.good, fun y hy => List.mem_append.mpr (.inl (h.sub y hy)), fun x y hy => ?_, fun _ => by simp⟩
  rcases List.mem_append.mp hy with hy | hy
  · exact h.cov x y hy
  · have ey : y = l := by simpa using hy
    subst ey
    refine ⟨t, by simp, ?_⟩
    unfold val
    rw [e]
    rcases ht with z | ⟨_, z⟩ <;> omega
/-- within the while loop -/
structure PopAt (l : Ln) (S L : List Ln) : Prop where
  good : Good S
  sub : ∀ y ∈ S, y ∈ L
  cov : Cov (l :: S) (L ++ [l])
  low : ∀ t r, S = t :: r → l.2.1 < t.2.1
theorem HullAt.enter {S L : List Ln} {l : Ln} (h : HullAt S L) (o : ∀ y ∈ L, ordL y l) (n : ∀ t r, S = t :: r → t.2.1 ≠ l.2.1) : PopAt l S L := by
  refine ⟨h.good, h.sub, fun x y hy => ?_, fun t r e => ?_⟩
  · rcases List.mem_append.mp hy with hy | hy
    · obtain ⟨z, hz, le⟩ := h.cov x y hy
      exact ⟨z, List.mem_cons.mpr (.inr hz), le⟩
    · have ey : y = l := by simpa using hy
      subst ey
      exact ⟨y, by simp, Int.le_refl _⟩
  · have ht : ordL t l := o t (h.sub t (by rw [e]; simp))
    have := n t r e
    rcases ht with z | ⟨z, _⟩
    · exact z
    · exact absurd z this
theorem PopAt.pop {l t o : Ln} {r L : List Ln} (h : PopAt l (t :: o :: r) L) (hh : hid o t l) : PopAt l (o :: r) L := by
  have s := h.low t _ rfl
  refine ⟨h.good.tail, fun y hy => h.sub y (List.mem_cons.mpr (.inr hy)), h.cov.pop h.good s hh, fun t' r' e => ?_⟩
  cases e
  have := h.good.slope
  omega
theorem PopAt.done {l : Ln} {S L : List Ln} (h : PopAt l S L) (n : ∀ t o r, S = t :: o :: r → ¬ hid o t l) : HullAt (l :: S) (L ++ [l]) := by
  refine ⟨?_, fun y hy => ?_, h.cov, fun _ => by simp⟩
  · match S, h, n with
    | [], _, _ => trivial
    | t :: r, h, n => exact h.good.push (h.low t r rfl) fun o r' e => n t o r' (by rw [e])
  · rcases List.mem_cons.mp hy with e | hy
    · subst e; simp
    · exact List.mem_append.mpr (.inl (h.sub y hy))
/-! ### the values along the hull, from its first line on -/
/-- once they rise they rise on -/
def Conv (F : Nat → Int) (n : Nat) : Prop := ∀ i, i + 2 < n → F i < F (i + 1) → F (i + 1) < F (i + 2)
theorem good_triple : ∀ {S : List Ln}, Good S → ∀ (j : Nat) (t o z : Ln), S[j]? = some t → S[j + 1]? = some o → S[j + 2]? = some z → t.2.1 < o.2.1 ∧ o.2.1 < z.2.1 ∧ ¬ hid z o t
  | [], _, j, t, o, z, h, _, _ => by simp at h
  | [a], _, j, t, o, z, _, h, _ => by simp at h
  | [a, b], _, j, t, o, z, _, _, h => by simp at h
  | a :: b :: c :: r, g, 0, t, o, z, h1, h2, h3 => by
    simp at h1 h2 h3
    subst h1 h2 h3
    exact ⟨g.1, g.2.2.slope, g.2.1⟩
  | a :: b :: c :: r, g, j + 1, t, o, z, h1, h2, h3 => good_triple g.tail j t o z (by simpa using h1) (by simpa using h2) (by simpa using h3)
theorem good_conv {S : List Ln} (g : Good S) (x : Int) (F : Nat → Int) (hF : ∀ i l, S.reverse[i]? = some l → F i = val l x) : Conv F S.length := fun i hi h => by
  have get : ∀ k, k < S.length → ∃ l, S.reverse[k]? = some l ∧ S[S.length - 1 - k]? = some l := fun k hk => by
    have e : S.reverse[k]? = S[S.length - 1 - k]? := List.getElem?_reverse hk
    refine ⟨S[S.length - 1 - k]'(by omega), ?_, ?_⟩
    · rw [e]; exact List.getElem?_eq_getElem _
    · exact List.getElem?_eq_getElem _
  obtain ⟨l0, a0, b0⟩ := get i (by omega)
  obtain ⟨l1, a1, b1⟩ := get (i + 1) (by omega)
  obtain ⟨l2, a2, b2⟩ := get (i + 2) (by omega)
  rw [hF _ _ a0, hF _ _ a1] at h
  rw [hF _ _ a1, hF _ _ a2]
  have e1 : S.length - 1 - i = S.length - 1 - (i + 2) + 2 := by omega
  have e2 : S.length - 1 - (i + 1) = S.length - 1 - (i + 2) + 1 := by omega
  rw [e1] at b0
  rw [e2] at b1
  obtain ⟨s1, s2, nh⟩ := good_triple g _ l2 l1 l0 b2 b1 b0
  exact nothid_up nh s2 s1 h
/-- the state of the search for the least value -/
structure Srch (F : Nat → Int) (n lo hi : Nat) : Prop where
  lt : hi < n
  le : lo ≤ hi
  below : ∀ i, i < lo → F (i + 1) ≤ F i
  above : ∀ i, hi ≤ i → i + 1 < n → F i < F (i + 1)
theorem Conv.on {F : Nat → Int} {n : Nat} (c : Conv F n) {i : Nat} (h : F i < F (i + 1)) : ∀ j, i ≤ j → j + 1 < n → F j < F (j + 1) := fun j hj hn => by
  induction j with
  | zero => have : i = 0 := by omega
            subst this; exact h
  | succ j ih =>
    by_cases e : i = j + 1
    · subst e; exact h
    · exact c j (by omega) (ih (by omega) (by omega))
theorem Srch.start {F : Nat → Int} {n : Nat} (h : 0 < n) : Srch F n 0 (n - 1) := ⟨by omega, by omega, fun i h => by omega, fun i h1 h2 => by omega⟩
theorem Srch.up {F : Nat → Int} {n lo hi m : Nat} (c : Conv F n) (s : Srch F n lo hi) (h1 : lo ≤ m) (h2 : m < hi) (h : F (m + 1) ≤ F m) : Srch F n (m + 1) hi :=
  ⟨s.lt, by omega, fun i hi' => Classical.byContradiction fun q => by
    have := c.on (i := i) (by omega) m (by omega) (by have := s.lt; omega)
    omega, s.above⟩
theorem Srch.down {F : Nat → Int} {n lo hi m : Nat} (c : Conv F n) (s : Srch F n lo hi) (h1 : lo ≤ m) (h2 : m < hi) (h : ¬ F (m + 1) ≤ F m) : Srch F n lo m :=
  ⟨by have := s.lt; omega, h1, s.below, fun i hi' hn => c.on (i := m) (by omega) i hi' hn⟩
theorem Srch.least {F : Nat → Int} {n lo : Nat} (s : Srch F n lo lo) : ∀ j, j < n → F lo ≤ F j := fun j hj => by
  by_cases h : j ≤ lo
  · have key : ∀ d, d ≤ lo → F lo ≤ F (lo - d) := fun d => by
      induction d with
      | zero => intro _; exact Int.le_refl _
      | succ d ih =>
        intro hd
        have h1 := ih (by omega)
        have h2 := s.below (lo - (d + 1)) (by omega)
        have e : lo - (d + 1) + 1 = lo - d := by omega
        rw [e] at h2
        omega
    have := key (lo - j) (by omega)
    have e : lo - (lo - j) = j := by omega
    rw [e] at this
    exact this
  · have key : ∀ d, lo + d < n → F lo ≤ F (lo + d) := fun d => by
      induction d with
      | zero => intro _; exact Int.le_refl _
      | succ d ih =>
        intro hd
        have h1 := ih (by omega)
        have h2 := s.above (lo + d) (by omega) (by omega)
        have e : lo + (d + 1) = lo + d + 1 := by omega
        rw [e]
        omega
    have := key (j - lo) (by omega)
    have e : lo + (j - lo) = j := by omega
    rw [e] at this
    exact this
/-! ### counting -/
def cnt (b : Int) (l : List Int) : Nat := (l.filter fun z => decide (z < b)).length
theorem cnt_append (b : Int) (l m : List Int) : cnt b (l ++ m) = cnt b l + cnt b m := by
  unfold cnt
  rw [List.filter_append, List.length_append]
theorem cnt_perm {b : Int} {l m : List Int} (h : l.Perm m) : cnt b l = cnt b m := (h.filter _).length_eq
theorem cnt_le (b : Int) (l : List Int) : cnt b l ≤ l.length := List.length_filter_le _ _
theorem cnt_split {b : Int} : ∀ {l : List Int} {k : Nat}, k ≤ l.length → (∀ (i : Nat) z, i < k → l[i]? = some z → z < b) → (∀ (i : Nat) z, k ≤ i → l[i]? = some z → ¬ z < b) → cnt b l = k
  | [], k, hk, _, _ => by
    have : k = 0 := by simpa using hk
    subst this; rfl
  | a :: r, 0, _, _, h2 => by
    have ha : ¬ a < b := h2 0 a (Nat.le_refl _) rfl
    have ih := cnt_split (b := b) (l := r) (k := 0) (Nat.zero_le _) (fun i z hi => by omega) fun i z _ e => h2 (i + 1) z (Nat.zero_le _) (by simpa using e)
    unfold cnt at ih ⊢
    rw [List.filter_cons, if_neg (by simpa using ha)]
    exact ih
  | a :: r, k + 1, hk, h1, h2 => by
    have ha : a < b := h1 0 a (by omega) rfl
    have ih := cnt_split (b := b) (l := r) (k := k) (by simpa using hk) (fun i z hi e => h1 (i + 1) z (by omega) (by simpa using e)) fun i z hi e => h2 (i + 1) z (by omega) (by simpa using e)
    unfold cnt at ih ⊢
    rw [List.filter_cons, if_pos (by simpa using ha), List.length_cons, ih]
/-- the state of the search in a sorted list -/
structure CSrch (l : List Int) (b : Int) (lo hi : Nat) : Prop where
  le : lo ≤ hi
  hi_le : hi ≤ l.length
  below : ∀ (i : Nat) z, i < lo → l[i]? = some z → z < b
  above : ∀ (i : Nat) z, hi ≤ i → l[i]? = some z → ¬ z < b
theorem sorted_at {l : List Int} (s : l.Pairwise (· ≤ ·)) {i j : Nat} {y z : Int} (hij : i ≤ j) (hi : l[i]? = some y) (hj : l[j]? = some z) : y ≤ z := by
  obtain ⟨h1, e1⟩ := List.getElem?_eq_some_iff.mp hi
  obtain ⟨h2, e2⟩ := List.getElem?_eq_some_iff.mp hj
  by_cases e : i = j
  · subst e; rw [← e1, ← e2]; exact Int.le_refl _
  · rw [← e1, ← e2]
    exact List.pairwise_iff_getElem.mp s i j h1 h2 (by omega)
theorem CSrch.start (l : List Int) (b : Int) : CSrch l b 0 l.length := ⟨Nat.zero_le _, Nat.le_refl _, fun i z h => by omega, fun i z h e => by
  have := (List.getElem?_eq_some_iff.mp e).1
  omega⟩
theorem CSrch.up {l : List Int} {b : Int} {lo hi m : Nat} {y : Int} (s : l.Pairwise (· ≤ ·)) (c : CSrch l b lo hi) (h2 : m < hi) (e : l[m]? = some y) (h : y < b) : CSrch l b (m + 1) hi :=
  ⟨by omega, c.hi_le, fun i z hi' ei => by have := sorted_at s (i := i) (j := m) (by omega) ei e; omega, c.above⟩
theorem CSrch.down {l : List Int} {b : Int} {lo hi m : Nat} {y : Int} (s : l.Pairwise (· ≤ ·)) (c : CSrch l b lo hi) (h1 : lo ≤ m) (h2 : m < hi) (e : l[m]? = some y) (h : ¬ y < b) : CSrch l b lo m :=
  ⟨h1, by have := c.hi_le; omega, c.below, fun i z hi' ei => by have := sorted_at s (i := m) (j := i) hi' e ei; omega⟩
theorem CSrch.fin {l : List Int} {b : Int} {lo : Nat} (c : CSrch l b lo lo) : cnt b l = lo := cnt_split c.hi_le c.below c.above
end OB
namespace OB
open PySem PySem.Spec PyProof.Rows L2
abbrev RWK : PySem.W.OpenLaw := PySem.Challenge.rw_oncebuilt_k15_whole_counts_and_lines
abbrev PWK : Program := PySem.Challenge.pw_oncebuilt_k15_whole_counts_and_lines
def top (i : Nat) : Stmt := PySem.Challenge.pw_oncebuilt_k15_whole_counts_and_lines.main.body.getD i (.Pass ⟨0, 0, 0, 0⟩)
abbrev sLoggedInit : Stmt := inClass (top 6) 1
abbrev sCheckFree : Stmt := inClass (top 6) 2
abbrev sCheckReady : Stmt := inClass (top 6) 3
abbrev sCall : Stmt := inClass (top 6) 4
abbrev sKeep : Stmt := inClass (top 6) 5
abbrev sAskedInit : Stmt := inClass (top 7) 0
abbrev sAskRows : Stmt := inClass (top 7) 1
abbrev sExponent : Stmt := top 12
abbrev sBlocksInit : Stmt := inClass (top 15) 1
abbrev sNextNumbers : Stmt := inClass (top 15) 4
abbrev sAdd : Stmt := inClass (top 15) 6
abbrev sQuery : Stmt := inClass (top 15) 8
abbrev sBranch : Stmt := inClass (top 15) 12
abbrev sSortedBlock : Stmt := top 17
abbrev sCountBelow : Stmt := top 18
abbrev sIsHidden : Stmt := top 19
abbrev sLinesBlock : Stmt := top 20
abbrev sValueAt : Stmt := top 21
abbrev sLeastAt : Stmt := top 22
abbrev sBag : Stmt := top 24
abbrev sTake : Stmt := top 25
abbrev sInteger : Stmt := top 26
abbrev sCounts : Stmt := top 27
abbrev sLess : Stmt := top 28
abbrev sLines : Stmt := top 29
abbrev sRight : Stmt := top 30
abbrev sLaw : Stmt := top 31
/-! ### the head's facts -/
def mk (p : Str × Option Str) (qual : Str) (st : Stmt) (name : Str) (dfl : List He.Dv := []) (kwd : List (Str × He.Dv) := []) : He.DefD := ⟨p, name, qual, defArgs st, defBody st, defScope st, dfl, kwd⟩
def fn : List He.DefD := [
  mk ("Logged", some "__init__") "Logged.__init__" sLoggedInit "__init__",
  mk ("Blocks", some "check_free") "Logged.check_free" sCheckFree "check_free",
  mk ("Blocks", some "check_ready") "Logged.check_ready" sCheckReady "check_ready",
  mk ("Blocks", some "call") "Logged.call" sCall "call",
  mk ("Blocks", some "keep") "Logged.keep" sKeep "keep",
  mk ("Asked", some "__init__") "Asked.__init__" sAskedInit "__init__",
  mk ("Blocks", some "ask_rows") "Asked.ask_rows" sAskRows "ask_rows" [.adr (He.dflAt ("Blocks", some "ask_rows") 0)],
  mk ("exponent", none) "exponent" sExponent "exponent",
  mk ("Blocks", some "__init__") "Blocks.__init__" sBlocksInit "__init__" [] [("zero", .non)],
  mk ("Blocks", some "next_numbers") "Blocks.next_numbers" sNextNumbers "next_numbers",
  mk ("Blocks", some "add") "Blocks.add" sAdd "add",
  mk ("Blocks", some "query") "Blocks.query" sQuery "query",
  mk ("Blocks", some "branch") "Blocks.branch" sBranch "branch",
  mk ("sorted_block", none) "sorted_block" sSortedBlock "sorted_block",
  mk ("count_below", none) "count_below" sCountBelow "count_below",
  mk ("is_hidden", none) "is_hidden" sIsHidden "is_hidden",
  mk ("lines_block", none) "lines_block" sLinesBlock "lines_block",
  mk ("value_at", none) "value_at" sValueAt "value_at",
  mk ("least_at", none) "least_at" sLeastAt "least_at",
  mk ("_law_bag", none) "_law_bag" sBag "_law_bag",
  mk ("_law_take", none) "_law_take" sTake "_law_take",
  mk ("_law_integer", none) "_law_integer" sInteger "_law_integer",
  mk ("_law_counts", none) "_law_counts" sCounts "_law_counts",
  mk ("_law_less", none) "_law_less" sLess "_law_less",
  mk ("_law_lines", none) "_law_lines" sLines "_law_lines",
  mk ("_law_right", none) "_law_right" sRight "_law_right",
  mk ("law", none) "law" sLaw "law"]
def fieldNames : List Str := ["kept", "next_number", "entries", "is_busy", "asker", "joiner", "zero", "builder", "rows"]
def methNames : List Str := ["check_free", "check_ready", "call", "keep", "ask_rows", "next_numbers", "add", "query", "branch"]
def globNames : List Str := ["Blocks", "Asked", "Logged", "exponent", "sorted_block", "count_below", "is_hidden", "lines_block", "value_at", "least_at", "_law_bag", "_law_take", "_law_integer", "_law_counts", "_law_less", "_law_lines", "_law_right", "law"]
def freeNames : List Str := ["len", "range", "sorted", "tuple", "list", "min", "abs", "isinstance", "bool"]
def fa : List He.Fa := globNames.map He.Fa.glo ++ freeNames.map He.Fa.free ++ [.cls "Blocks", .mkr "Blocks"] ++ fieldNames.map (He.Fa.noat "Blocks") ++ methNames.map (He.Fa.meth "Blocks")
/-- a class read as type.__getattribute__ reads it, its __init__ a def -/
def clsB (K : PySem.W.Frag) (x : Str) : Bool := PySem.W.readsIn K (He.ga K x) (.type "type") && decide (PySem.W.specialIn K (.ref (He.ga K x)) "__getattribute__" = some (some (.builtin "type.__getattribute__"))) &&
  (match PySem.W.findCls K (.ref (He.ga K x)) (.type "type") "__init__" with
  | some (.val (.ref a)) => decide (a = He.ma K (He.ga K x) "__init__")
  | _ => false) && PySem.W.isFn K (.ref (He.ma K (He.ga K x) "__init__")) && PySem.W.keepIn K (.ref (He.ma K (He.ga K x) "__init__"))
def tupB0 (K : PySem.W.Frag) (a : Addr) : Bool := match K.lookup a with
  | some ⟨.type c, _, .seq its _, _⟩ => decide (c = "tuple") && its.isEmpty
  | _ => false
def tf : List He.Defn := [("Blocks", some "ask_rows"), ("Blocks", some "add"), ("lines_block", none), ("_law_counts", none), ("_law_lines", none)]
def ex (K : PySem.W.Frag) : Bool := clsB K "Asked" && clsB K "Logged" && tupB0 K (He.dflAt ("Blocks", some "ask_rows") 0 K) && decide ((tf.map fun p => (He.cT K p).2).Nodup)
def nD : Nat := 5
def asB (g : Addr → Option Obj) : List Addr := cStatics :: He.asD g nD
def obsY (g : Addr → Option Obj) : He.AlX := (He.obsT fa fn [] (He.frT g (asB g)), ex (He.frT g (asB g)) && He.tabsB g tf (He.frT g (asB g)))
def valY (w : World) : He.AlX := He.valX fn [] w
theorem saysY_of {w : World} {h : Heap} (e : obsY h.get? = valY w) : He.SaysX fa fn [] tf ex w h (He.frT h.get? (asB h.get?)) := by
  have e1 : He.obsT fa fn [] (He.frT h.get? (asB h.get?)) = He.valT fn [] w := congrArg (fun z : He.AlX => z.1) e
  have e2 : (ex (He.frT h.get? (asB h.get?)) && He.tabsB h.get? tf (He.frT h.get? (asB h.get?))) = true := congrArg (fun z : He.AlX => z.2) e
  obtain ⟨h1, h2⟩ := He.ba e2
  have key : ∀ p ∈ tf, PySem.W.codeHdIn (He.frT h.get? (asB h.get?)) (He.cT (He.frT h.get? (asB h.get?)) p).1 (He.cT (He.frT h.get? (asB h.get?)) p).2 = true ∧ ∃ o, h.get? (He.cT (He.frT h.get? (asB h.get?)) p).2 = some o ∧ He.emptyTab o = true := fun p hp => by
    obtain ⟨h3, h4⟩ := He.ba (List.all_eq_true.mp h2 p hp)
    refine ⟨h3, ?_⟩
    cases q : h.get? (He.cT (He.frT h.get? (asB h.get?)) p).2 with
    | none =>
      rw [q] at h4
      cases h4
    | some o =>
      rw [q] at h4
      exact ⟨o, rfl, h4⟩
  exact ⟨e1, h1, fun p hp => (key p hp).1, fun p hp => by
    obtain ⟨_, o, q, z⟩ := key p hp
    exact He.frT_none q z, fun p hp => by
    obtain ⟨_, o, q, z⟩ := key p hp
    rw [q, He.emptyTab_eq z]⟩
def hk : PySem.W.Hook where
  α := He.AlX
  obs := fun s => obsY s.heap.get?
  val := fun w => valY w
  says := fun w h => ∃ K : PySem.W.Frag, K.In h ∧ He.SaysX fa fn [] tf ex w h K
  of := fun _ _ e => ⟨_, He.frT_in, saysY_of e⟩
  keeps := fun _ _ _ ⟨K, hK, c⟩ k => ⟨K, PySem.W.Frag.In.keeps hK k, ⟨c.t, c.more, c.hd, c.out, fun p hp => k _ _ (c.empty p hp)⟩⟩
def ob (s : PySem.W.SharedT) : He.AlX := obsY (HandSHeadRun.getT s)
theorem ob_eq (s : PySem.W.SharedT) : ob s = hk.obs s.abs := by
  have e : HandSHeadRun.getT s = s.abs.heap.get? := funext (HandSHeadRun.getT_eq s)
  show obsY (HandSHeadRun.getT s) = obsY s.abs.heap.get?
  rw [e]
abbrev R : PySem.W.OpenRow := PySem.W.OpenLaw.row PySem.Challenge.rw_oncebuilt_k15_whole_counts_and_lines
end OB
namespace OB
open PySem PySem.Spec PyProof.Rows L2
def loose : List Str := ["_wall", "OnceError", "BadNumber", "Busy", "Logged", "Asked", "GREATEST", "is_integer", "check_number", "exponent", "block_sizes", "Blocks", "sorted_block", "count_below", "is_hidden", "lines_block", "value_at", "least_at", "_law_bag", "_law_take", "_law_integer", "_law_counts", "_law_less", "_law_lines", "_law_right"]
theorem run (w : World) : HandSHeadRun.RunEq R (PySem.W.view R.prog [31]) hk ob 6000 loose w := by
  intro os
  kernel_rfl
end OB
namespace OB
open PySem PySem.Spec PyProof.Rows L2 LamX NdefX
/-! ### a def whose code object is known -/
section
variable {P : Program} {w : World} {K : PySem.W.Frag} {mg : Str → Option Value} {base : Heap} {x qual : Str} {params : Arguments} {body : List Stmt} {scope : Scope} {dvs : List V} {kws : List (Str × V)} {p : He.Defn} {fd : FuncData}
abbrev dcx (P : Program) (w : World) (K : PySem.W.Frag) (mg : Str → Option Value) (base : Heap) (N : List Str) (qual : Str) (scope : Scope) (p : He.Defn) (A : Around) (outer : List Env) (s : Shared) (H : Hp) : Cx :=
  (cxOf CX0 P w K mg base N qual scope (He.fAd K p) (.ref (He.codeOf K p)) A outer s H E0).nox
theorem codeFd (F : FunD K x qual params body scope dvs kws (He.fAd K p) fd) : ∃ (oc : Value) (od : Option Addr) (dV kV doc pm : Value) (an : Option Addr) (ct : Value) (osl : Array (Option Value)),
    fd = PySem.W.fnOf x qual params body scope dV kV doc pm an (.ref (He.codeOf K p)) ct ∧ K.lookup (He.fAd K p) = some ⟨oc, od, .func fd, osl⟩ ∧ PySem.W.codeIn K (.ref (He.codeOf K p)) qual = true := by
  obtain ⟨oc, od, dV, kV, doc, pm, an, cdv, ct, osl, rfl, lk, hcd, _, _⟩ := F.ex
  obtain ⟨c, rfl⟩ := He.codeIn_ref hcd
  have e := He.codeOf_eq (p := p) lk rfl
  rw [e]
  exact ⟨oc, od, dV, kV, doc, pm, an, ct, osl, rfl, lk, hcd⟩
theorem okD {N ps : List Str} {k : Nat} {sp : Sp} (F : FunD K x qual params body scope dvs kws (He.fAd K p) fd) (S : FnScope N ps scope) (len : ∀ vs H Q E, sp vs H Q E → vs.length = ps.length)
    (hbody : ∀ (A : Around) (outer : List Env) (s : Shared) (H : Hp) (vs : List V) (Q : VK) (E : XK), Room k (A.deeper (envOfC qual scope s.heap.objs.size (He.fAd K p) (.ref (He.codeOf K p)))) → sp vs H Q E →
      ∃ t, PSs (dcx P w K mg base N qual scope p A outer s H) body t ∧ t { nx := fun _ H' => Q .non H', rt := Q } (L2.start N vs) H) : FnOk P w K mg base CX0 (k + 1) (He.fAd K p) fd ps sp := by
  obtain ⟨oc, od, dV, kV, doc, pm, an, ct, osl, rfl, lk, hcd⟩ := codeFd F
  refine fn_of lk hcd S len fun A outer s H vs Q E hr hsp => ?_
  obtain ⟨t, h, q⟩ := hbody A outer s H vs Q E hr hsp
  have h' : PSs (cxOf CX0 P w K mg base N qual scope (He.fAd K p) (.ref (He.codeOf K p)) A outer s H E).nox body t := ⟨fun pins s' σ H' D I z =>
    h.run pins s' σ H' D ⟨⟨I.ok.mod, I.ok.kind, I.ok.glob, I.ok.blt, I.ok.above, I.ok.inj, I.ok.has, I.ok.cab, I.ok.hd, I.ok.frames, I.ok.stk, I.ok.exf, I.ok.bs, I.ok.bsz, I.ok.noex, I.ok.exfs, I.ok.funs, I.ok.frf⟩, I.os, I.bare, I.base, I.loc, I.cell, I.free, I.freeC, I.pin, I.hok, I.len⟩ z⟩
  exact ⟨t, h'.nox, q⟩
end
/-! ### a lambda that captures nothing, kept as a value -/
structure LF where
  qual : Str
  params : Arguments
  body : Expr
  scope : Scope
  c : Addr
/-- the object at f is the lambda L -/
def LamO (f : Addr) (L : LF) : HO := .ext fun h => ∃ (od : Option Addr) (sl : Array (Option Value)) (pm ctv : Value), h.get? f = some (⟨.type "function", od, .func (PySem.W.kla_fn "<lambda>" L.qual L.params L.body L.scope [] pm (.ref L.c) ctv), sl⟩ : Obj)
theorem lamO_ne {f : Addr} {L : LF} (ps : Array Value) : LamO f L ≠ .tbl ps := fun z => by
  unfold LamO at z
  cases z
theorem lamO_at {P : Program} {w : World} {H : Hp} {h : Heap} {f : Addr} {L : LF} (hok : HOk P w H h) (e : H f = some (LamO f L)) : ∃ (od : Option Addr) (sl : Array (Option Value)) (pm ctv : Value), h.get? f = some (⟨.type "function", od, .func (PySem.W.kla_fn "<lambda>" L.qual L.params L.body L.scope [] pm (.ref L.c) ctv), sl⟩ : Obj) := by
  obtain ⟨z, _, _⟩ := hok f _ e
  exact z
section
variable {X : Cx} {pins : List (Addr × Obj)} {σ : L2.St} {H : Hp} {s : Shared}
theorem inv_lam {L : LF} {o : Obj} {t' : Nat} {pm ctv : Value} (I : Inv X pins σ H s) (ho : o = { cls := .type "function", data := .func (PySem.W.kla_fn "<lambda>" L.qual L.params L.body L.scope [] pm (.ref L.c) ctv) }) :
    Inv X pins σ (upd H s.heap.objs.size (LamO s.heap.objs.size L)) { s with heap := s.heap.push o, toks := t' } := by
  subst ho
  refine I.laid (a := s.heap.objs.size) (fun b u e => Heap.get?_push_of_some _ e) (Nat.le_refl _) ?_
  have e : (s.heap.push ({ cls := .type "function", data := .func (PySem.W.kla_fn "<lambda>" L.qual L.params L.body L.scope [] pm (.ref L.c) ctv) } : Obj)).get? s.heap.objs.size = some ({ cls := .type "function", data := .func (PySem.W.kla_fn "<lambda>" L.qual L.params L.body L.scope [] pm (.ref L.c) ctv) } : Obj) := Heap.get?_push_size _ rfl
  exact ⟨⟨_, _, pm, ctv, e⟩, ⟨_, e⟩, fun h1 h2 ⟨od, sl, p, t, z⟩ st => ⟨od, sl, p, t, st _ z⟩⟩
/-- the lambda's object is made and known from now on -/
theorem lam_make3 {T : List (Addr × Str)} {c P : Addr} {params : Arguments} {body : Expr} {scope : Scope} {pos : Pos} {E : Value → Shared → Prop} {Q : Value → Shared → Prop} (I : Inv X pins σ H s) (TB : TabB X.base X.mg c P) (hcode : X.env.code = .ref c)
    (hm : (P, X.env.qual ++ "<lambda>") ∈ T) (hu : ∀ p ∈ T, p.1 = P → p.2 = X.env.qual ++ "<lambda>") (hT : Tabs T H) (hdef : defaultsOf params X.env = ([], [])) (hcl : cloFrom X.env.cells scope.names [] = []) (hfree : ∀ y ∈ scope.names, y.2 = .free → ∃ c, X.env.cells.lookup y.1 = some c)
    (h : ∀ (f c' : Addr) (H1 : Hp) (s' : Shared), Inv X pins σ H1 s' → ExtN H H1 → (∀ b, H1 b = Option.none → H b = Option.none) → Tabs T H1 → H f = none → H1 f = some (LamO f ⟨X.env.qual ++ "<lambda>", params, body, scope, c'⟩) → H1 c' = some (CodeO c' (X.env.qual ++ "<lambda>")) → Q (.ref f) s') :
    wpAny (model X.prog X.w) X.A (eval (.Lambda params body scope pos) X.env) Q E s := by
  obtain ⟨ps, hP, ht, ha⟩ := hT _ hm
  refine PySem.W.kla_eval hdef ?_
  have bP : s.heap.BuiltinsAt X.mg P := TB.bm.keeps I.bk
  have hP' : s.heap.get? P = some { cls := .none, data := .fields ps } := I.hok P _ hP
  have hcl' : closureFor scope X.env = pure [] := by
    rw [closure_ok hfree, hcl]
  cases hc : codeAmong pos ps.toList with
  | none =>
    refine PySem.W.kla_makeFunction (mg := X.mg) (c := c) (P := P) (ps := ps) hcl' I.ok.glob (I.mod.glob.keeps I.bk) hcode (TB.code.keeps I.bk) hP' ht hc TB.gP bP fun c' ctv h' tk hx hge hlt hrec htb => ?_
    obtain ⟨c2, oc, vs, t, e2, hoc, hd, hv⟩ := hrec
    cases e2
    have nC : H c' = none := I.hok.fresh hge
    have I1 := inv_table (t' := tk) (more := #[rawInt pos.line, rawInt pos.col, .ref c']) (h' := h') I hP (fun b o hb e => hx b o hb e) htb hge ⟨oc, vs, t, hoc, hd, hv⟩
    have hE : ExtN H (upd (upd H P (.tbl (ps ++ #[rawInt pos.line, rawInt pos.col, .ref c']))) c' (CodeO c' (X.env.qual ++ "<lambda>"))) := fun b o e n => by
      rw [upd_ne (ne_of_none e nC), upd_ne (fun z => n ps (Option.some.inj (e.symm.trans (by rw [z]; exact hP))))]
      exact e
    have eL : (ps ++ #[rawInt pos.line, rawInt pos.col, .ref c']).toList = ps.toList ++ [rawInt pos.line, rawInt pos.col, .ref c'] := by simp
    have T1 : Tabs T (upd (upd H P (.tbl (ps ++ #[rawInt pos.line, rawInt pos.col, .ref c']))) c' (CodeO c' (X.env.qual ++ "<lambda>"))) := fun p hp => by
      by_cases hb : p.1 = P
      · rw [hu p hp hb, hb]
        refine ⟨_, by rw [upd_ne (ne_of_none hP nC), upd_same], by rw [eL]; exact PySem.TriplesOk_snoc _ _ _ _ ht, fun p' cv hcv => ?_⟩
        rw [eL] at hcv
        rcases among_app _ ht hcv with z | z
        · obtain ⟨c0, e1, e2⟩ := ha p' cv z
          exact ⟨c0, e1, hE _ _ e2 codeO_ne⟩
        · exact ⟨c', z, upd_same⟩
      · obtain ⟨ps', a1, a2, a3⟩ := hT p hp
        refine ⟨ps', by rw [upd_ne (ne_of_none a1 nC), upd_ne hb]; exact a1, a2, fun p' cv hcv => ?_⟩
        obtain ⟨c0, e1, e2⟩ := a3 p' cv hcv
        exact ⟨c0, e1, hE _ _ e2 codeO_ne⟩
    have nF := I1.hok.fresh (Nat.le_refl _)
    have I2 := inv_lam (L := ⟨X.env.qual ++ "<lambda>", params, body, scope, c'⟩) (t' := tk) (pm := (X.mg "__name__").getD .none) (ctv := ctv) I1 rfl
    refine h h'.objs.size c' _ _ I2 (fun b o e n => ?_) (fun b e => upd_none (upd_none (upd_none e))) (T1.ext fun b o e => ?_) (I.hok.fresh (Nat.le_trans hge (Nat.le_of_lt hlt))) upd_same ?_
    · have e1 := hE b o e n
      exact (upd_ne (ne_of_none e1 nF)).trans e1
    · exact (upd_ne (ne_of_none e nF)).trans e
    · exact (upd_ne (Nat.ne_of_lt hlt)).trans upd_same
  | some cv =>
    obtain ⟨c', e, hco⟩ := ha pos cv hc
    subst e
    refine PySem.W.kla_makeFunctionHit (mg := X.mg) (c := c) (P := P) (ps := ps) hcl' I.ok.glob (I.mod.glob.keeps I.bk) hcode (TB.code.keeps I.bk) hP' ht hc bP fun ctv h' tk hx hsz => ?_
    have I1 : Inv X pins σ H { s with heap := h', toks := tk } := I.kept hx
    have nF : H h'.objs.size = none := I1.hok.fresh (Nat.le_refl _)
    have I2 := inv_lam (L := ⟨X.env.qual ++ "<lambda>", params, body, scope, c'⟩) (t' := tk) (pm := (X.mg "__name__").getD .none) (ctv := ctv) I1 rfl
    refine h h'.objs.size c' _ _ I2 (fun b o e n => ?_) (fun b e => upd_none e) (hT.ext fun b o e => ?_) nF upd_same ?_
    · exact (upd_ne (ne_of_none e nF)).trans e
    · exact (upd_ne (ne_of_none e nF)).trans e
    · exact (upd_ne (ne_of_none hco nF)).trans hco
end
/-- the reading of a lambda that captures nothing -/
def tLamV (T : List (Addr × Str)) (mk : Addr → LF) : TE := fun _ H Q => Tabs T H ∧ ∀ (f c' : Addr) (H1 : Hp), ExtN H H1 → Tabs T H1 → H f = none → H1 f = some (LamO f (mk c')) → H1 c' = some (CodeO c' (mk c').qual) → Q (.ref f) H1
theorem pe_lamV {X : Cx} {T : List (Addr × Str)} {c P : Addr} {params : Arguments} {body : Expr} {scope : Scope} {pos : Pos} (TB : TabB X.base X.mg c P) (hcode : X.env.code = .ref c)
    (hm : (P, X.env.qual ++ "<lambda>") ∈ T) (hu : ∀ p ∈ T, p.1 = P → p.2 = X.env.qual ++ "<lambda>") (hdef : defaultsOf params X.env = ([], []) := by rfl) (hcl : cloFrom X.env.cells scope.names [] = [] := by rfl) (hfree : (scope.names.all fun y => !decide (y.2 = .free)) = true := by decide +kernel) :
    PE X (.Lambda params body scope pos) (tLamV T fun c' => ⟨X.env.qual ++ "<lambda>", params, body, scope, c'⟩) := by
  refine ⟨fun pins s σ H Q I h => ?_⟩
  obtain ⟨hT, h⟩ := h
  have hf : ∀ y ∈ scope.names, y.2 = .free → ∃ c, X.env.cells.lookup y.1 = some c := fun y hy e => by
    have z := List.all_eq_true.mp hfree y hy
    simp [e] at z
  exact lam_make3 I TB hcode hm hu hT hdef hcl hf fun f c' H1 s' I1 eN _ T1 f0 f1 c1 => ⟨.ref f, H1, I1, rfl, h f c' H1 eN T1 f0 f1 c1⟩
/-- what a lambda promises, wherever it stands -/
structure LRun (P : Program) (w : World) (K : PySem.W.Frag) (mg : Str → Option Value) (base : Heap) (k : Nat) (mk : Addr → LF) (sp : Sp) : Prop where
  run : ∀ (A : Around) (outer : List Env) (s : Shared) (H : Hp) (f c' : Addr) (us : List Value) (vs : List V) (Q : VK), Room k A → Env0 P w K mg base A outer s H → H f = some (LamO f (mk c')) → H c' = some (CodeO c' (mk c').qual) → Vals vs us → sp vs H Q E0 →
    codeAny (model P w) A (.call (.ref f) ⟨us, []⟩) (CR CX0 outer P w H s Q E0) s
theorem LRun.mono {P : Program} {w : World} {K : PySem.W.Frag} {mg : Str → Option Value} {base : Heap} {j k : Nat} {mk : Addr → LF} {sp : Sp} (o : LRun P w K mg base j mk sp) (h : j ≤ k) : LRun P w K mg base k mk sp :=
  ⟨fun A outer s H f c' us vs Q hr => o.run A outer s H f c' us vs Q (hr.mono h)⟩
/-- its words as a nested function's (the layer's contexts speak of these) -/
abbrev LF.nf (L : LF) : NF := ⟨"<lambda>", L.qual, L.params, [], L.scope, [], L.c⟩
abbrev lcx (P : Program) (w : World) (K : PySem.W.Frag) (mg : Str → Option Value) (base : Heap) (N : List Str) (L : LF) (f : Addr) (A : Around) (outer : List Env) (s : Shared) (H : Hp) : Cx := (ncx CX0 P w K mg base N L.nf f A outer s H E0).nox
theorem cells_nil {h : Heap} {H : Hp} : CellsAt [] [] [] h H := ⟨rfl, fun _ _ e => (nomatch e), fun _ _ _ e => (nomatch e), fun i y e => by simp at e⟩
theorem lrun_of {P : Program} {w : World} {K : PySem.W.Frag} {mg : Str → Option Value} {base : Heap} {N ps : List Str} {k : Nat} {mk : Addr → LF} {sp : Sp} {params : Arguments} {body : Expr} {scope : Scope} {qual : Str} (hmk : ∀ c', mk c' = ⟨qual, params, body, scope, c'⟩) (S : NScope N ps [] scope)
    (hb : ∀ (pm cdv ctv : Value) (us : List Value), us.length = ps.length → bindArgs (PySem.W.kla_fn "<lambda>" qual params body scope [] pm cdv ctv) ⟨us, []⟩ = pure (ps.zip us)) (len : ∀ vs H Q E, sp vs H Q E → vs.length = ps.length)
    (hbody : ∀ (A : Around) (outer : List Env) (s : Shared) (H : Hp) (vs : List V) (Q : VK) (f c' : Addr), Room k (A.deeper (envF (LF.nf ⟨qual, params, body, scope, c'⟩) f s.heap.objs.size)) → sp vs H Q E0 →
      ∃ t, PE (lcx P w K mg base N ⟨qual, params, body, scope, c'⟩ f A outer s H) body t ∧ t (startF N vs []) H Q) : LRun P w K mg base (k + 1) mk sp := by
  refine ⟨fun A outer s H f c' us vs Q hr e0 hf hc r hsp => ?_⟩
  rw [hmk c'] at hf hc
  have hl := len _ _ _ _ hsp
  have lim : s.heap.NoLimit := e0.mod.nolimit.keeps fun b o e => (e0.bs b o e).1
  obtain ⟨od, sl, pm, ctv, ho⟩ := lamO_at e0.hok hf
  refine PySem.W.kla_callFunE hr.depth ho rfl S.co S.gen rfl (codeO_at e0.hok hc) ?_
  rw [hb _ _ _ us (by rw [← r.length]; exact hl)]
  refine wpAny_pure (wpAny_newFunctionEnv S.nocell (fun ⟨n, _⟩ hy => S.par n (List.of_mem_zip hy).1) (fun h₁ hns hsb => ⟨lim.fresh _ hsb, ?_⟩) S.kind)
  show codeAny _ _ (.expr body (envF (LF.nf ⟨qual, params, body, scope, c'⟩) f s.heap.objs.size)) _ _
  have kp : ∀ b o, s.heap.get? b = some o → h₁.get? b = some o := fun b o e => hsb.extBut b o (Nat.ne_of_lt (Heap.lt_size e)) (Heap.get?_push_of_some _ e)
  obtain ⟨t, ht, hq⟩ := hbody A outer s H vs Q f c' (hr.deeper _) hsp
  have I : Inv (ncx CX0 P w K mg base N (LF.nf ⟨qual, params, body, scope, c'⟩) f A outer s H E0) [] (startF N vs []) H { s with heap := h₁, toks := s.toks + (ps.zip us).length } := inv_startN S hr.hd e0 hl r cells_nil hns kp
  refine PySem.W.kla_codeExpr (wpAny_mono (ht.nox.run [] _ (startF N vs []) H Q I hq) (fun v s' hs => ?_) fun e s' hs => hs)
  obtain ⟨v', H', J, rv, q⟩ := hs
  exact ⟨v', H', J.os, J.bare, J.base, J.hok, rv, q⟩
/-! ### o.f(e, ..) where f is a field that holds such a lambda -/
/-- f holds the lambda of the number i -/
def IsLam {ι : Type} (mk : ι → Addr → LF) (H : Hp) (f : Addr) (i : ι) : Prop := ∃ c', H f = some (LamO f (mk i c')) ∧ H c' = some (CodeO c' (mk i c').qual)
theorem IsLam.ext {ι : Type} {mk : ι → Addr → LF} {H H' : Hp} {f : Addr} {i : ι} (h : IsLam mk H f i) (e : ExtN H H') : IsLam mk H' f i := by
  obtain ⟨c', a, b⟩ := h
  exact ⟨c', e _ _ a lamO_ne, e _ _ b codeO_ne⟩
def tCallF {ι : Type} (K : PySem.W.Frag) (C : Addr) (m : Str) (mk : ι → Addr → LF) (sp : ι → Sp) (ta : TE) (t : TA) : TE := fun σ H Q => ta σ H fun x H1 => ∃ a dx fs f, x = .ref a ∧ H1 a = some (.ins C dx fs) ∧ fs.lookup m = some (.ref f) ∧ (∃ i, IsLam mk H1 f i) ∧
  t σ H1 fun vs H2 => ∃ i, IsLam mk H2 f i ∧ sp i vs H2 Q E0
theorem lam_fnAt {X : Cx} {pins : List (Addr × Obj)} {σ : L2.St} {H : Hp} {s : Shared} {f : Addr} {L : LF} (I : Inv X pins σ H s) (e : H f = some (LamO f L)) : PySem.W.FnAt f s.heap := by
  obtain ⟨od, sl, pm, ctv, ho⟩ := lamO_at I.hok e
  exact ⟨_, od, _, sl, ho⟩
theorem pe_callF {ι : Type} {X : Cx} {k : Nat} {C : Addr} {m : Str} {mk : ι → Addr → LF} {sp : ι → Sp} {o e : Expr} {es : List Expr} {ta : TE} {t : TA} {apos pos : Pos} {pl : Sem Bool} (he : PE X o ta) (c : Cls X.K C) (n : NoAttr X.K C m)
    (F : ∀ i, LRun X.prog X.w X.K X.mg X.base k (mk i) (sp i)) (hr : Room k X.A) (ha : PA X (e :: es) t)
    (hst : starEach (e :: es) X.env = (false, eval e X.env) :: starEach es X.env := by rfl) (hpl : (backTo pos (starEach es X.env)).any (·.1) = false := by rfl)
    (ht : eval (.Call (.Attribute o m apos) (e :: es) [] pos) X.env = (do
      let ov ← eval o X.env
      standAt apos.atName
      let (f, first) ← holding [ov] (getMethod ov m pl)
      callWith pos f first (backTo pos (starEach (e :: es) X.env)) (backToKw pos (keywordEach [] X.env))) := by rfl) :
    PE X (.Call (.Attribute o m apos) (e :: es) [] pos) (tCallF X.K C m mk sp ta t) := by
  refine ⟨fun pins s σ H Q I h => ?_⟩
  refine PySem.W.methodCall_KW (pl := pl) (thn (he.run pins s σ H _ I h) fun u s1 ⟨x, H1, I1, rx, a, dx, fs, f, ex, ea, l, ⟨i0, c0, l0, _⟩, q⟩ => ?_) ht
  subst ex
  obtain rfl : u = Value.ref a := rx
  refine getmeth_fld I1 ea c n l fun u s2 I2 ru => ?_
  obtain rfl : u = Value.ref f := ru
  refine PySem.W.callWith_F (first := []) (lam_fnAt I2 l0) (thn (ha.run pos pins s2 σ H1 _ I2 q) fun us s3 ⟨vs, H2, I3, r, i, ⟨c', h1', h2'⟩, q2⟩ => ⟨lam_fnAt I3 h1', ?_⟩) hst hpl
  show wpAny _ _ (call (.ref f) us) _ _ _
  refine wpAny_call (codeAny_mono ((F i).run X.A X.stack s3 H2 f c' us vs Q hr I3.env0 h1' h2' r q2) fun r s' hq => ?_)
  cases r with
  | error e => exact (show False from hq).elim
  | ok fl =>
    cases fl with
    | ret u => exact I3.after hq
    | next => exact False.elim hq
    | brk => exact False.elim hq
    | cont => exact False.elim hq
end OB
namespace OB
open PySem PySem.Spec PyProof.Rows L2 LamX NdefX
/-- try: body finally: suite, nothing raised -/
def tFinN (tb tf : TS) : TS := fun D σ H => tb { nx := fun σ1 H1 => tf D σ1 H1, rt := fun _ _ => False } σ H
theorem ps_finN {X : Cx} {body : List Stmt} {f₀ : Stmt} {fs : List Stmt} {pos : Pos} {tb tf : TS} (hb : PSs X.nox body tb) (hfin : PSs X.nox (f₀ :: fs) tf) : PS X (.Try body [] [] (f₀ :: fs) pos) (tFinN tb tf) := by
  refine ⟨fun pins s σ H D I h => ?_⟩
  refine wpAny_Try_finally ?_
  refine wpAny_mono (hb.run pins s σ H { nx := fun σ1 H1 => tf D σ1 H1, rt := fun _ _ => False } (I.wish _) h) (fun g s1 z => ?_) (fun x s1 hx => False.elim hx)
  have z' := z.unwish
  cases g with
  | ret u =>
    obtain ⟨_, _, _, _, _, q⟩ := z'
    exact False.elim q
  | brk =>
    obtain ⟨_, _, _, q⟩ := z'
    exact False.elim q
  | cont =>
    obtain ⟨_, _, _, q⟩ := z'
    exact False.elim q
  | next =>
    obtain ⟨σ1, H1, J1, q1⟩ := z'
    refine wpAny_execs_nil ?_
    refine wpAny_mono (hfin.run pins s1 σ1 H1 D (J1.wish _) q1) (fun g2 s2 q2 => ?_) fun _ _ e => False.elim e
    have q3 : SP X pins D g2 s2 := q2.unwish
    cases g2 <;> exact q3
/-- a reading, weakened at its end -/
def up (t : TE) : TE := fun σ H Q => ∃ Q0 : VK, t σ H Q0 ∧ ∀ v H', Q0 v H' → Q v H'
theorem pe_up {X : Cx} {e : Expr} {t : TE} (h : PE X e t) : PE X e (up t) := ⟨fun pins s σ H Q I ⟨Q0, a, b⟩ => thn (h.run pins s σ H Q0 I a) fun _ _ ⟨v, H', J, r, q⟩ => ⟨v, H', J, r, b v H' q⟩⟩
/-! ### self.call(entry, lambda: body) -/
abbrev pCall : He.Defn := ("Blocks", some "call")
abbrev CB (K : PySem.W.Frag) : Addr := He.ga K "Blocks"
theorem scCall : FnScope ["self", "entry", "work", "result"] ["self", "entry", "work"] (defScope sCall) := ⟨rfl, rfl, rfl, by decide +kernel, rfl, by decide +kernel, by decide +kernel⟩
/-- the heap behind the end of the call -/
def tSelf (C : Addr) (T : List (Addr × Str)) (ta te tb : TE) : TE := fun σ H Q => ta σ H fun x H1 => ∃ a, x = .ref a ∧ (∃ dx fs, H1 a = some (.ins C dx fs) ∧ fs.lookup ("call" : Str) = none) ∧
  te σ H1 fun ev H2 => Tabs T H2 ∧ ∀ H3, ExtN H2 H3 → Tabs T H3 → ∃ dx fs, H3 a = some (.ins C dx fs) ∧ fs.length < 1000 ∧ tb σ (upd H3 a (.ins C dx (putF "is_busy" (.bl true) fs))) fun v H5 =>
    ∃ fs5 en es, H5 a = some (.ins C dx fs5) ∧ fs5.length < 1000 ∧ (putF "is_busy" (.bl false) fs5).lookup ("entries" : Str) = some (.ref en) ∧ H5 en = some (.lst es) ∧ es.length < sizeLine ∧ Q v (upd (upd H5 a (.ins C dx (putF "is_busy" (.bl false) fs5))) en (.lst (es ++ [ev])))
theorem pe_selfcall {X : Cx} {T : List (Addr × Str)} {c P : Addr} {fdc : FuncData} {o e : Expr} {ta te tb : TE} {params : Arguments} {body : Expr} {scope : Scope} {lpos apos pos : Pos} {k : Nat} {pl : Sem Bool}
    (ho : PE X o ta) (hc : Cls X.K (CB X.K)) (nB : NoAttr X.K (CB X.K) "is_busy") (nE : NoAttr X.K (CB X.K) "entries") (hm : Meth X.K (CB X.K) "call" (He.fAd X.K pCall)) (FC : FunD X.K "call" "Logged.call" (defArgs sCall) (defBody sCall) (defScope sCall) [] [] (He.fAd X.K pCall) fdc)
    (he : PE X e te) (TB : TabB X.base X.mg c P) (hcode : X.env.code = .ref c) (hmT : (P, X.env.qual ++ "<lambda>") ∈ T) (hu : ∀ p ∈ T, p.1 = P → p.2 = X.env.qual ++ "<lambda>") (hr : Room (k + 2) X.A) (L : LamS X.env.scope scope)
    (hbody : ∀ (A : Around) (outer : List Env) (s : Shared) (H : Hp) (f c' : Addr), Room k (A.deeper (lamEnv X scope s.heap.objs.size f c')) → PE (lamCx X A outer s H E0 scope f c') body tb)
    (hdef : defaultsOf params X.env = ([], []) := by rfl)
    (hbind : ∀ (q : Str) (cl : List (Str × Addr)) (pm cv ctv : Value), bindArgs (PySem.W.kla_fn "<lambda>" q params body scope cl pm cv ctv) ⟨[], []⟩ = pure [] := by intro _ _ _ _ _; rfl)
    (hst : starEach [e, .Lambda params body scope lpos] X.env = (false, eval e X.env) :: starEach [.Lambda params body scope lpos] X.env := by rfl) (hst2 : starEach [.Lambda params body scope lpos] X.env = (false, eval (.Lambda params body scope lpos) X.env) :: starEach [] X.env := by rfl)
    (hpl : (backTo pos (starEach [.Lambda params body scope lpos] X.env)).any (·.1) = false := by rfl)
    (ht : eval (.Call (.Attribute o "call" apos) [e, .Lambda params body scope lpos] [] pos) X.env = (do
      let ov ← eval o X.env
      standAt apos.atName
      let (f, first) ← holding [ov] (getMethod ov "call" pl)
      callWith pos f first (backTo pos (starEach [e, .Lambda params body scope lpos] X.env)) (backToKw pos (keywordEach [] X.env))) := by rfl) :
    PE X (.Call (.Attribute o "call" apos) [e, .Lambda params body scope lpos] [] pos) (tSelf (CB X.K) T ta te tb) := by
  refine ⟨fun pins s σ H Q I h => ?_⟩
  refine PySem.W.methodCall_KW (pl := pl) (thn (ho.run pins s σ H _ I h) fun u s1 ⟨x, H1, I1, rx, a, ex, ⟨dx1, fs1, ea, l⟩, q⟩ => ?_) ht
  subst ex
  obtain rfl : u = Value.ref a := rx
  refine getmeth_ok I1 ea hc hm l ?_
  refine PySem.W.callWith_K (first := [.ref a]) (h₀ := X.base) I.ok.mod.kin hm.kp ?_ hst hpl
  rw [hst]
  show wpAny _ _ (spliced ((false, eval e X.env) :: backTo pos (starEach [.Lambda params body scope lpos] X.env))) _ _ s1
  refine Calls.spliced_cons (thn (he.run pins s1 σ H1 _ I1 q) fun ue s2 ⟨ev, H2, I2, re, hT, q2⟩ => ?_)
  rw [hst2]
  show wpAny _ _ (spliced ((false, eval (.Lambda params body scope lpos) X.env) :: backTo pos (starEach [] X.env))) _ _ s2
  refine Calls.spliced_cons (lam_make2 I2 TB hcode hmT hu hT hdef (L.has I2.ok) fun f c' pm' ctv H3 s3 I3 eN T3 hf hfn hfr hco => ?_)
  refine Calls.spliced_nil ⟨I3.kIn, ?_⟩
  obtain ⟨dx, fs, e3, l3, q3⟩ := q2 H3 eN T3
  obtain ⟨oc, od, dV, kV, doc, pm, an, ct, osl, efd, lk, hcd⟩ := codeFd FC
  subst efd
  have hb : L2.Binds X.K (PySem.W.fnOf "call" "Logged.call" (defArgs sCall) (defBody sCall) (defScope sCall) dV kV doc pm an (.ref (He.codeOf X.K pCall)) ct) ["self", "entry", "work"] [] := by
    refine FC.bindsN fun _ _ _ _ _ _ us hl => match us, hl with | [_, _, _], _ => rfl
  have rc : codeAny (model X.prog X.w) X.A (.call (.ref (He.fAd X.K pCall)) ⟨[.ref a, ue, .ref f], []⟩) (CR CX0 X.stack X.prog X.w H3 s3 Q E0) s3 := by
    refine run_ofS (N := ["self", "entry", "work", "result"]) (ps := ["self", "entry", "work"]) (us := [.ref a, ue, .ref f]) (vs := [.ref a, ev, .ref f]) lk hcd scCall hr I3.env0 (hb s3 [.ref a, ue, .ref f] I3.kIn rfl) (.cons rfl (.cons re (.cons rfl .nil))) rfl fun hr' => ?_
    have act : ∀ p1 p2 : Pos, PE (cxOf CX0 X.prog X.w X.K X.mg X.base ["self", "entry", "work", "result"] "Logged.call" (defScope sCall) (He.fAd X.K pCall) (.ref (He.codeOf X.K pCall)) X.A X.stack s3 H3 E0).nox (.Call (.Name "work" p1) [] [] p2)
        (fun σZ HZ Q => σZ[2]? = some (some (.ref f)) ∧ HZ c' = some (CodeO c' (X.env.qual ++ "<lambda>")) ∧ up tb σ HZ Q) := fun p1 p2 =>
      pe_act (CXg := CX0) (Eg := E0) (Ng := ["self", "entry", "work", "result"]) (qg := "Logged.call") (sg := defScope sCall) (g := He.fAd X.K pCall) (cdg := .ref (He.codeOf X.K pCall)) (i := 2) (a := "work") (pn := []) (xe := fun _ _ => False) (W := fun _ _ _ _ => False) (E := E0) (tb := up tb)
        (p1 := p1) (p2 := p2) I3 L hf hfn hfr (hbind _ _ _ _ _) LamX.takes0 (fun _ _ _ _ z => z) hr' (fun A outer s H hr2 => pe_up (hbody A outer s H f c' hr2)) rfl (Or.inl rfl)
    refine ⟨_, PSs.nox (pss_cons (ps_fld (pv 0) pe_bl rfl) (pss_cons (ps_finN (pss_one (ps_set (i := 3) scCall.nd rfl (Or.inl rfl) (act _ _))) (pss_one (ps_fld (pv 0) pe_bl rfl)))
      (pss_cons (ps_expr (pe_bm PySem.F.plainAttrs_list PySem.F.slot_list_append PySem.F.type_list_append mt_append (pe_fld (pv 0) rfl) (pa_cons (pv 1) pa_nil))) (pss_one (ps_ret (pv 3)))))), ?_⟩
    have nca : c' ≠ a := ne_of hco e3 (fun z => by unfold CodeO at z; cases z)
    refine ⟨_, rfl, a, _, dx, fs, rfl, e3, hc, nB, l3, rfl, (upd_ne nca).trans hco, _, q3, fun v H5 ⟨fs5, en, es, e5, l5, le5, hen, lz, q5⟩ => ?_⟩
    have nea : en ≠ a := ne_of hen e5 (by intro z; cases z)
    refine ⟨_, rfl, a, _, dx, fs5, rfl, e5, hc, nB, l5, ?_⟩
    refine ⟨_, rfl, a, _, dx, _, .ref en, rfl, upd_same, hc, nE, le5, .inl ⟨rfl, es, SqL.of ((upd_ne nea).trans hen)⟩, ?_⟩
    exact ⟨_, rfl, en, es, ev, rfl, rfl, (upd_ne nea).trans hen, lz, _, rfl, q5⟩
  refine wpAny_call (codeAny_mono rc fun r s4 hq => ?_)
  cases r with
  | error e => exact (show False from hq).elim
  | ok fl =>
    cases fl with
    | ret u => exact I3.after hq
    | next => exact False.elim hq
    | brk => exact False.elim hq
    | cont => exact False.elim hq
end OB
namespace OB
open PySem PySem.Spec PyProof.Rows L2 LamX NdefX
/-! ### d.update(e) -/
def rUpd : V → List V → Hp → VK → Prop := fun x vs H Q => ∃ (a b : Addr) (kvs more : List (Key × V)), x = .ref a ∧ vs = [.ref b] ∧ a ≠ b ∧ H a = some (.dK kvs) ∧ Rd H b (.dK more) ∧ kvs.length + more.length ≤ sizeLine ∧ Q .non (upd H a (.dK (mergeK kvs more)))
theorem mt_dupdate {X : Cx} : MtR X "dict.update" rUpd := by
  intro pins s σ H x vs v us Q I rx rv h
  obtain ⟨a, b, kvs, more, rfl, rfl, nab, ea, eb, hsz, q⟩ := h
  obtain rfl : v = Value.ref a := rx
  obtain rfl := Vals.ref1 rv
  obtain ⟨z, hd, vs, rel, dd⟩ := dk_of I.hok ea
  obtain ⟨z2, hd2, vs2, rel2, dd2⟩ := dk_rd I.hok eb
  refine call_meetsIn PySem.F.slot_dict_update dd.typeIs PySem.F.entry_dict_update (PySem.F.args_dict_update_2 _ _) (meets_dict_update (mixKind X.prog X.w) a b nab hd2) ⟨vs, vs2, dd, dd2, by rw [← rel.length, ← rel2.length]; exact hsz, fun h' dd' _ hs => ?_⟩
  have he : ∃ q, h'.get? a = some q := let ⟨q, _, _, hq, _⟩ := dd'; ⟨q, hq⟩
  exact ⟨.non, _, d_write (t' := s.toks) I (by rw [ea]; exact True.intro) hs he (dk_new (Nat.le_trans (length_mergeK _ _) hsz) hd (KV.merge rel2 rel) dd'), rfl, q⟩
/-! ### C.m(e, ..): a def read off its class -/
structure CFun (K : PySem.W.Frag) (C : Addr) (m : Str) (g : Addr) : Prop where
  rd : PySem.W.readsIn K C (.type "type") = true
  ga : PySem.W.specialIn K (.ref C) "__getattribute__" = some (some (.builtin "type.__getattribute__"))
  at_ : PySem.W.findCls K (.ref C) (.type "type") m = some (.val (.ref g))
  kp : PySem.W.keepIn K (.ref g) = true
def tCFun (C : Addr) (sp : Sp) (E : XK) (ta : TE) (t : TA) : TE := fun σ H Q => ta σ H fun x H1 => x = .ref C ∧ t σ H1 fun vs H2 => sp vs H2 Q E
theorem pe_cfun {X : Cx} {CX : CXT} {k : Nat} {C g : Addr} {m : Str} {fd : FuncData} {ps : List Str} {sp : Sp} {E : XK} {o e : Expr} {es : List Expr} {ta : TE} {t : TA} {apos pos : Pos} {pl : Sem Bool} (ho : PE X o ta) (c : CFun X.K C m g) (F : FnOk X.prog X.w X.K X.mg X.base CX k g fd ps sp) (hr : Room k X.A)
    (hb : Binds X.K fd ps []) (hx : Passes CX X E) (ha : PA X (e :: es) t)
    (hst : starEach (e :: es) X.env = (false, eval e X.env) :: starEach es X.env := by rfl) (hpl : (backTo pos (starEach es X.env)).any (·.1) = false := by rfl)
    (ht : eval (.Call (.Attribute o m apos) (e :: es) [] pos) X.env = (do
      let ov ← eval o X.env
      standAt apos.atName
      let (f, first) ← holding [ov] (getMethod ov m pl)
      callWith pos f first (backTo pos (starEach (e :: es) X.env)) (backToKw pos (keywordEach [] X.env))) := by rfl) :
    PE X (.Call (.Attribute o m apos) (e :: es) [] pos) (tCFun C sp E ta t) := by
  refine ⟨fun pins s σ H Q I h => ?_⟩
  refine PySem.W.methodCall_KW (pl := pl) (thn (ho.run pins s σ H _ I h) fun u s1 ⟨x, H1, I1, rx, ex, q⟩ => ?_) ht
  subst ex
  obtain rfl : u = Value.ref C := rx
  refine PySem.W.method_cls I1.kIn c.ga (PySem.W.cls_value I1.kIn c.rd c.at_ (handed_of (v := .ref g) rfl) ?_)
  refine PySem.W.callWith_K (first := []) (h₀ := X.base) I.ok.mod.kin c.kp (thn (ha.run pos pins _ σ H1 _ (I1.tok _) q) fun us s2 ⟨vs, H2, I2, r, q2⟩ => ⟨I2.kIn, ?_⟩) hst hpl
  exact run_fn (dvs := []) (us := us) (vs := vs) F hr hb .nil hx I2 r (by rw [List.append_nil]; exact q2)
/-! ### a, b = x, y: each a local name or a cell -/
theorem ps_parC {X : Cx} {pos : Pos} {i j : Nat} {x y : Str} {a b : Expr} {ta : TA} {px py pt : Pos} {kt k2 pt2} (hc : X.calm = true) (hN : X.N.Nodup) (hi : X.N[i]? = some x) (hj : X.N[j]? = some y) (hij : i ≠ j)
    (hx : Loc X.env.scope x) (hy : Loc X.env.scope y) (hfx : X.fn x = true) (hfy : X.fn y = true) (ha : PA X [a, b] ta)
    (hw : swappedStores [.Tuple [.Name x px, .Name y py] kt pt] (.Tuple [a, b] k2 pt2) X.env = pure (some [x, y]))
    (hs : swapsWithSole [.Tuple [.Name x px, .Name y py] kt pt] (.Tuple [a, b] k2 pt2) pos.line X.env = pure false := by rfl) :
    PS X (.Assign [.Tuple [.Name x px, .Name y py] kt pt] (.Tuple [a, b] k2 pt2) pos) (tPar i j ta) := by
  refine ⟨fun pins s σ H D I h => ?_⟩
  rw [exec_Assign_arm]
  refine wpAny_bind (wpAny_standAt ?_)
  rw [hs]
  refine wpAny_bind (wpAny_pure ?_)
  rw [if_neg (by decide)]
  refine wpAny_bind (Tuple_ (thn (ha.run _ pins s σ H _ I h) fun us s1 ⟨vs, H1, I1, r1, q1⟩ => ?_))
  obtain ⟨v, w, e1, q1⟩ := q1
  subst e1
  obtain ⟨u1, u2, rfl, rv, rw'⟩ : ∃ u1 u2, us = [u1, u2] ∧ RelV v u1 ∧ RelV w u2 := by
    cases r1 with
    | cons p q =>
      cases q with
      | cons p' q' =>
        cases q'
        exact ⟨_, _, rfl, p, p'⟩
  refine wpAny_newObj_type ?_ (by show 2 ≤ sizeLine; decide)
  have I2 : Inv X pins σ H1 { s1 with heap := s1.heap.push { cls := .type "tuple", data := .seq [u1, u2].toArray } } := I1.kept (t' := s1.toks) fun b o e => Heap.get?_push_of_some _ e
  rw [hw]
  refine wpAny_bind (wpAny_pure ?_)
  show wpAny (model X.prog X.w) X.A (do PySem.rule "assign.swapped-stores"; let items ← unpackItems (.ref s1.heap.objs.size) 2 none; assignInOrder [fun v => bindName X.env y v, fun v => bindName X.env x v] items.reverse; pure Flow.next) _ _ _
  refine wpAny_bind (wpAny_rule (wpAny_bind (unpackItems_tuple (items := #[u1, u2]) (I.ok.hd hc) (IsTup.new s1.heap _) fun h' hx' => ?_)))
  have I3 := I2.kept (h' := h') (t' := s1.toks) fun b o e => hx' b o (Nat.ne_of_lt (Heap.lt_size e)) e
  show wpAny _ _ (assignInOrder [fun v => bindName X.env y v, fun v => bindName X.env x v] [u2, u1] >>= fun _ => pure Flow.next) _ _ _
  refine wpAny_bind (assignInOrder_cons (wpAny_bindName (store_ok I3 hN hj hy rw' (fun s2 I4 => ?_) (.inl hfy))))
  refine assignInOrder_cons (wpAny_bindName (store_ok I4 hN hi hx rv (fun s3 I5 => assignInOrder_nil (wpAny_pure ?_)) (.inl hfx)))
  rw [List.set_comm _ _ (Ne.symm hij)] at I5
  exact ⟨_, H1, I5, q1⟩
end OB
namespace OB
open PySem PySem.Spec PyProof.Rows L2
section
variable {prog : Program} {w : World} {A : Around} {R : Result → Shared → Prop} {I : Addr} {fp wr : List Addr} {n : Nat} {P : Nat → Value → Prop} {St : Nat → Heap → Prop} {kw : List (Str × Value)}
theorem min_loop_kw (W : Walks prog w A.in1 I fp wr n P St) (bt : Nat → Nat → Bool) (hcmp : CmpOf prog w A.in1 .Lt P bt) (S : Addr) (hSf : S ∉ fp) :
    ∀ (k j : Nat) (s : Shared) (vb : Value) (c : Nat), n - (j + 1) = k → j + 1 ≤ n → St (j + 1) s.heap → P (argBest bt j) vb →
    s.heap.get? S = some { cls := .type "list", dict := none, data := .seq #[vb, vb] c, slots := #[] } →
    (∀ v h' tk, P (argBest bt (n - 1)) v → (∀ b o, b ∉ wr → b ≠ S → s.heap.get? b = some o → h'.get? b = some o) → R (.ok (.ret v)) { s with heap := h', toks := tk }) →
    codeAny (model prog w) A (.builtin "min.loop" ⟨[.ref I, .none, .ref S], kw⟩) R s := by
  have hSw : S ∉ wr := fun h => hSf (W.sub _ h)
  have hname : (toString "min" ++ toString ".loop" : String) = "min.loop" := by decide
  intro k
  induction k with
  | zero =>
    intro j s vb c hk hj hst hPb hS hR
    have hin : j + 1 = n := by omega
    refine codeAny_builtin F.entry_min_loop ?_
    rw [Around.under_plainId F.plain_min_loop _]
    show wpAny _ A.in1 (seqItems? (.ref S) >>= _) _ _ s
    refine wpAny_bind (wpAny_seqItems hS rfl ?_)
    show wpAny _ A.in1 (tryCatch (pyNext (.ref I)) _ >>= _) _ _ s
    refine wpAny_bind (wpAny_tryCatch (W.done s _ _ (hin ▸ hst) fun h' tk hk' => ?_))
    have hS' := hk' S _ hSw hS
    show wpAny _ A.in1 (updateSeq S (fun _ => #[]) >>= _) _ _ _
    refine wpAny_bind ?_
    refine wpAny_updateSeq hS' rfl (wpAny_bind (wpAny_letGo (wpAny_pure ?_)))
    refine hR vb _ tk (by rw [← hin]; exact hPb) fun b o hbw hbS e => (Heap.get?_update_other _ _ (Ne.symm hbS)).trans (hk' b o hbw e)
  | succ k ih =>
    intro j s vb c hk hj hst hPb hS hR
    have hlt : j + 1 < n := by omega
    refine codeAny_builtin F.entry_min_loop ?_
    rw [Around.under_plainId F.plain_min_loop _]
    show wpAny _ A.in1 (seqItems? (.ref S) >>= _) _ _ s
    refine wpAny_bind (wpAny_seqItems hS rfl ?_)
    show wpAny _ A.in1 (tryCatch (pyNext (.ref I)) _ >>= _) _ _ s
    refine wpAny_bind (wpAny_tryCatch (W.item (j + 1) s _ _ hlt hst fun v h' tk hP hst' hk' => ?_))
    have hS' := hk' S _ hSw hS
    show wpAny _ A.in1 (tryCatch (holding [v, v] (richCompare .Lt v vb >>= _)) _ >>= _) _ _ _
    refine wpAny_bind (wpAny_tryCatch (wpAny_holding (wpAny_bind (hcmp (j + 1) (argBest bt j) v vb _ _ _ hP hPb ?_))))
    refine wpAny_bind (wpAny_holding (wpAny_truthy_bool ?_))
    refine wpAny_bind (wpAny_letGo (wpAny_pure ?_))
    cases hb : bt (j + 1) (argBest bt j) with
    | true =>
      simp only [if_true]
      refine wpAny_bind ?_
      refine wpAny_updateSeq hS' rfl (wpAny_bind (wpAny_letGo ?_))
      rw [hname]
      refine wpAny_pure ⟨plainId_quiet F.plain_min_loop _, ih (j + 1) _ v _ (by omega) hlt (W.frame _ _ _ hst' fun b hbf o e => ?_) (by simp only [argBest, hb, if_true]; exact hP) (Heap.get?_update_self _ hS' rfl)
        fun v' h'' tk'' hP' hk'' => ?_⟩
      · exact (Heap.get?_update_other _ _ (fun h : S = b => hSf (by rw [h]; exact hbf))).trans e
      · exact hR v' h'' tk'' hP' fun b o hbw hbS e => hk'' b o hbw hbS ((Heap.get?_update_other _ _ (Ne.symm hbS)).trans (hk' b o hbw e))
    | false =>
      simp only [Bool.false_eq_true, if_false]
      refine wpAny_bind (wpAny_letGo ?_)
      rw [hname]
      refine wpAny_pure ⟨plainId_quiet F.plain_min_loop _, ih (j + 1) _ vb c (by omega) hlt hst' (by simp only [argBest, hb, Bool.false_eq_true, if_false]; exact hPb) hS' fun v' h'' tk'' hP' hk'' => ?_⟩
      exact hR v' h'' tk'' hP' fun b o hbw hbS e => hk'' b o hbw hbS (hk' b o hbw e)
theorem min_loop_first_kw (W : Walks prog w A.in1 I fp wr n P St) (bt : Nat → Nat → Bool) (hcmp : CmpOf prog w A.in1 .Lt P bt) (S : Addr) (hSf : S ∉ fp) (hn : 0 < n) {s : Shared} {c : Nat} (hst : St 0 s.heap)
    (hS : s.heap.get? S = some { cls := .type "list", dict := none, data := .seq #[] c, slots := #[] })
    (hR : ∀ v h' tk, P (argBest bt (n - 1)) v → (∀ b o, b ∉ wr → b ≠ S → s.heap.get? b = some o → h'.get? b = some o) → R (.ok (.ret v)) { s with heap := h', toks := tk }) :
    codeAny (model prog w) A (.builtin "min.loop" ⟨[.ref I, .none, .ref S], kw⟩) R s := by
  have hSw : S ∉ wr := fun h => hSf (W.sub _ h)
  have hname : (toString "min" ++ toString ".loop" : String) = "min.loop" := by decide
  refine codeAny_builtin F.entry_min_loop ?_
  rw [Around.under_plainId F.plain_min_loop _]
  show wpAny _ A.in1 (seqItems? (.ref S) >>= _) _ _ s
  refine wpAny_bind (wpAny_seqItems hS rfl ?_)
  show wpAny _ A.in1 (tryCatch (pyNext (.ref I)) _ >>= _) _ _ s
  refine wpAny_bind (wpAny_tryCatch (W.item 0 s _ _ hn hst fun v h' tk hP hst' hk' => ?_))
  have hS' := hk' S _ hSw hS
  show wpAny _ A.in1 (updateSeq S (fun _ => #[v, v]) >>= _) _ _ _
  refine wpAny_bind ?_
  refine wpAny_updateSeq hS' rfl ?_
  rw [hname]
  refine wpAny_pure ⟨plainId_quiet F.plain_min_loop _, min_loop_kw W bt hcmp S hSf _ 0 _ v _ rfl hn (W.frame _ _ _ hst' fun b hbf o e => ?_) hP (Heap.get?_update_self _ hS' rfl) fun v' h'' tk'' hP' hk'' => ?_⟩
  · exact (Heap.get?_update_other _ _ (fun h : S = b => hSf (by rw [h]; exact hbf))).trans e
  · exact hR v' h'' tk'' hP' fun b o hbw hbS e => hk'' b o hbw hbS ((Heap.get?_update_other _ _ (Ne.symm hbS)).trans (hk' b o hbw e))
theorem min_loop_empty (W : Walks prog w A.in1 I fp wr 0 P St) (S : Addr) (hSf : S ∉ fp) {s : Shared} {c : Nat} {d : Value} (hst : St 0 s.heap)
    (hS : s.heap.get? S = some { cls := .type "list", dict := none, data := .seq #[] c, slots := #[] })
    (hR : ∀ h' tk, (∀ b o, b ∉ wr → b ≠ S → s.heap.get? b = some o → h'.get? b = some o) → R (.ok (.ret d)) { s with heap := h', toks := tk }) :
    codeAny (model prog w) A (.builtin "min.loop" ⟨[.ref I, .none, .ref S], [(Str.ofString "default", d)]⟩) R s := by
  refine codeAny_builtin F.entry_min_loop ?_
  rw [Around.under_plainId F.plain_min_loop _]
  show wpAny _ A.in1 (seqItems? (.ref S) >>= _) _ _ s
  refine wpAny_bind (wpAny_seqItems hS rfl ?_)
  show wpAny _ A.in1 (tryCatch (pyNext (.ref I)) _ >>= _) _ _ s
  refine wpAny_bind (wpAny_tryCatch (W.done s _ _ hst fun h' tk hk' => ?_))
  show wpAny _ A.in1 (PySem.rule _ >>= _) _ _ _
  refine wpAny_bind (wpAny_rule (wpAny_pure ?_))
  exact hR _ tk fun b o hbw _ e => hk' b o hbw e
end
theorem min_default_args (a v : Value) : argsOk "min" ⟨[a], [(Str.ofString "default", v)]⟩ := by unfold argsOk; kernel_rfl
section
variable {prog : Program} {w : World} {A : Around} {E : Value → Shared → Prop} {s : Shared}
theorem call_min_default {l : Addr} {xs : Array (Int × Tok)} {d : Value} {Q : Value → Shared → Prop} (hh : A.handled = none) (hl : s.heap.IsList l (intItems xs))
    (h0 : xs.size = 0 → ∀ h' tk, (∀ b o, s.heap.get? b = some o → h'.get? b = some o) → Q d { s with heap := h', toks := tk })
    (h1 : 0 < xs.size → ∀ v h' tk, (intItems xs)[argBest (fun i j => decide (numAt xs i < numAt xs j)) (xs.size - 1)]? = some v → (∀ b o, s.heap.get? b = some o → h'.get? b = some o) → Q v { s with heap := h', toks := tk }) :
    wpAny (model prog w) A (call (.builtin "min") [.ref l] [(Str.ofString "default", d)]) Q E s := by
  have hname : (toString "min" ++ toString ".loop" : String) = "min.loop" := by decide
  refine kmk_tree PySem.F.kind_min PySem.F.plain_min PySem.F.entry_min (min_default_args _ _) ?_
  show wpAny _ A.in1 (Builtin.Builtins.bindParams "min" ["key", "default"] 0 ⟨[], [(Str.ofString "default", d)]⟩ >>= _) _ _ s
  refine wpAny_bind (wpAny_of_eq (show Builtin.Builtins.bindParams "min" ["key", "default"] 0 ⟨[], [(Str.ofString "default", d)]⟩ = pure [none, some d] from rfl) ?_)
  refine wpAny_bind (wpAny_pure ?_)
  refine wpAny_bind (iter_intList hl fun s₂ e st hfp hlI => ?_)
  refine wpAny_bind (wpAny_newObj_type ?_)
  have hSf : s₂.heap.objs.size ∉ [s.heap.objs.size, l] := fun hm => Nat.lt_irrefl _ (hfp _ hm)
  rw [hname]
  have W := Walks.list (prog := prog) (w := w) (A := A.in1) hh s.heap.objs.size l hlI (intItems xs)
  have up : ∀ b o, s.heap.get? b = some o → s₂.heap.get? b = some o := fun b o z => by
    subst e
    exact Heap.get?_push_of_some _ z
  have nI : ∀ b o, s.heap.get? b = some o → b ∉ [s.heap.objs.size] := fun b o z hm => by
    have := Heap.lt_size z
    rw [List.mem_singleton.mp hm] at this
    exact Nat.lt_irrefl _ this
  have st' := W.frame _ _ (s₂.heap.push { cls := .type "list", data := .seq #[] }) st fun b _ o z => Heap.get?_push_of_some _ z
  have kp : ∀ {h' : Heap}, (∀ b o, b ∉ [s.heap.objs.size] → b ≠ s₂.heap.objs.size → (s₂.heap.push { cls := .type "list", data := .seq #[] }).get? b = some o → h'.get? b = some o) → ∀ b o, s.heap.get? b = some o → h'.get? b = some o := fun {h'} k b o z =>
    k b o (nI b o z) (Nat.ne_of_lt (Heap.lt_size (up b o z))) (Heap.get?_push_of_some _ (up b o z))
  refine wpAny_pure ⟨plainId_quiet F.plain_min_loop _, ?_⟩
  by_cases hz : xs.size = 0
  · have W0 : Walks prog w A.in1 s.heap.objs.size [s.heap.objs.size, l] [s.heap.objs.size] 0 (fun i v => (intItems xs)[i]? = some v) (fun i h => h.IsListIter s.heap.objs.size l i ∧ h.IsList l (intItems xs)) := by
      have e0 : (intItems xs).size = 0 := by simpa [intItems] using hz
      rw [← e0]
      exact W
    refine min_loop_empty W0 s₂.heap.objs.size hSf st' (Heap.get?_push_size _ rfl) fun h' tk k => ?_
    subst e
    exact h0 hz h' tk (kp k)
  · refine min_loop_first_kw W _ (CmpOf.ints_lt (numAt xs) (fun _ _ => intItems_at)) s₂.heap.objs.size hSf (by simp [intItems]; omega) st' (Heap.get?_push_size _ rfl) fun v h' tk hP k => ?_
    subst e
    exact h1 (by omega) v h' tk (by simpa [intItems] using hP) (kp k)
end
/-- min(xs, default=None) -/
def rMinD (K : PySem.W.Frag) : List V → List V → Hp → VK → Prop := fun vs zs H Q => ∃ (a : Addr) (ns : List Int), vs = [V.ref a] ∧ zs = [.non] ∧ SqL K H a (ns.map V.int) ∧
  (ns = [] → Q .non H) ∧ (ns ≠ [] → ∀ m, m ∈ ns → (∀ y, y ∈ ns → m ≤ y) → Q (.int m) H)
theorem cr_minD {X : Cx} (hc : X.calm = true) : CallRK X (.builtin "min") [Str.ofString "default"] (rMinD X.K) := by
  intro pins s σ H vs zs us ws Q I r rz h
  obtain ⟨a, ns, rfl, rfl, hs, q0, q1⟩ := h
  obtain rfl := Vals.ref1 r
  obtain ⟨w1, rfl, e1⟩ := vals1 rz
  obtain rfl : w1 = Value.none := e1
  obtain ⟨its, rv, hl, _⟩ := I.list hs
  have hi := rv.ints
  obtain ⟨xs, e⟩ := hi.allInts.items
  have hn : numsOf (intItems xs).toList = ns := by rw [← e]; exact hi.numsOf
  rw [nums_intItems] at hn
  subst hn
  have hl' := hl.isList
  rw [e] at hl'
  refine call_min_default (I.ok.hd hc) hl' (fun hz h' tk hk => ?_) fun hz v h' tk hv hk => ?_
  · have e0 : xs.toList.map (fun p => p.1) = [] := by
      have : xs.toList = [] := List.eq_nil_of_length_eq_zero (by simpa using hz)
      rw [this]; rfl
    exact ⟨.non, H, I.kept hk, rfl, q0 (by simpa using e0)⟩
  · obtain ⟨t, rfl⟩ := intItems_at hv
    obtain ⟨h1, h2⟩ := argBest_lt (numAt xs) (xs.size - 1)
    refine ⟨.int _, H, I.kept hk, ⟨t, rfl⟩, q1 (fun z => ?_) _ ?_ fun y hy => ?_⟩
    · have q := congrArg List.length z
      rw [List.length_map, Array.length_toList] at q
      have q' : xs.size = 0 := q
      omega
    · rw [numAt_eq]; exact PySem.getD_mem (by rw [List.length_map, Array.length_toList]; omega)
    · obtain ⟨j, hj, rfl⟩ := mem_getD hy
      rw [List.length_map, Array.length_toList] at hj
      rw [← numAt_eq]; exact h2 j (by omega)
end OB
namespace OB
open PySem PySem.Spec PyProof.Rows L2 LamX NdefX
/-- the key's words, wherever they stand -/
def keyParams (pp : Pos) : Arguments := { posonlyargs := [], args := [{ arg := "line", annotation := none, pos := pp }], vararg := none, kwonlyargs := [], kw_defaults := [], kwarg := none, defaults := [] }
def keyBody (p1 p2 p3 p4 p5 p6 p7 p8 : Pos) : Expr := .Tuple [.UnaryOp .USub (.Subscript (.Name "line" p1) (.Constant (.int 0) 0 p2) p3) p4, .Subscript (.Name "line" p5) (.Constant (.int 1) 0 p6) p7] 0 p8
def keyScope : Scope := { kind := .function, names := [("line", .local)], isGenerator := false, isCoroutine := false, more := [] }
theorem keyLook : keyScope.names.lookup ("line" : Str) = some .local := by decide +kernel
theorem look1 {k : Str} {v : Value} : ([(k, v)] : List (Str × Value)).reverse.lookup k = some v := by simp [List.lookup]
theorem six0 : seqIndex? 0 2 = some 0 := by decide
theorem six1 : seqIndex? 1 2 = some 1 := by decide
section
variable {prog : Program} {w : World} {A : Around} {E : Value → Shared → Prop} {s : Shared}
/-- an item of a tuple that the name «line» holds -/
theorem key_item {env : Env} {m : Str → Option Value} {p : Addr} {items : Array Value} {p1 p2 p3 : Pos} {i : Int} {j : Nat} {x : Value} {Q : Value → Shared → Prop} (hk : env.scope.kind = .function) (hl : env.kindOf "line" = some .local) (hn : s.heap.Ns env.locals m) (hm : m "line" = some (.ref p))
    (ht : IsTup s.heap p items) (hlo : 0 ≤ i) (hhi : i < 2) (hj : seqIndex? i items.size = some j) (hx : items[j]? = some x) (h : ∀ tk, Q x { s with toks := tk }) :
    wpAny (model prog w) A (eval (.Subscript (.Name "line" p1) (.Constant (.int i) 0 p2) p3) env) Q E s := by
  refine Subscript_ (wpAny_Name (wpAny_loadName_local hk hl hn hm ?_) (by decide))
  refine wpAny_Constant_int ?_
  exact subscriptTail_builtinR (x := x) (s := { s with toks := s.toks + 1 }) ⟨_, ht.choose_spec.1, ht.choose_spec.2.1⟩ slot_tuple_getitem.lookup
    (getItem_tuple (j := j) (Q := fun r s' => r = x ∧ Q r s') ht (by omega) (by omega) hj hx ⟨rfl, h _⟩) rfl
theorem key_turn {f p : Addr} {L : LF} {a b : Int} {ta tb : Tok} {pp p1 p2 p3 p4 p5 p6 p7 p8 : Pos} {od : Option Addr} {sl : Array (Option Value)} {pm ctv : Value} (hL : L.params = keyParams pp) (hB : L.body = keyBody p1 p2 p3 p4 p5 p6 p7 p8) (hS : L.scope = keyScope) (hroom : A.depth < recursionLimit)
    (ho : s.heap.get? f = some (⟨.type "function", od, .func (PySem.W.kla_fn "<lambda>" L.qual L.params L.body L.scope [] pm (.ref L.c) ctv), sl⟩ : Obj)) (hc : s.heap.CodeRec (.ref L.c) L.qual) (lim : s.heap.NoLimit)
    (ht : IsTup s.heap p #[.int a ta, .int b tb]) : wpAny (model prog w) A (call (.ref f) [.ref p]) (PySem.W.KeyPure (.tuple [.int (-a), .int b]) s) (fun _ _ => False) s := by
  refine wpAny_call ?_
  refine PySem.W.kla_callFunE hroom ho rfl (by rw [hS] <;> rfl) (by rw [hS] <;> rfl) rfl hc ?_
  rw [hL, hB, hS]
  show wpAny _ _ (bindArgs (PySem.W.kla_fn "<lambda>" L.qual (keyParams pp) (keyBody p1 p2 p3 p4 p5 p6 p7 p8) keyScope [] pm (.ref L.c) ctv) ⟨[.ref p], []⟩) _ _ _
  refine wpAny_of_eq (show bindArgs (PySem.W.kla_fn "<lambda>" L.qual (keyParams pp) (keyBody p1 p2 p3 p4 p5 p6 p7 p8) keyScope [] pm (.ref L.c) ctv) ⟨[.ref p], []⟩ = pure [(("line" : Str), Value.ref p)] from rfl) ?_
  refine wpAny_newFunctionEnv (fun x hx => ?_) (fun x hx => ?_) (fun h₁ hns hsb => ⟨lim.fresh _ hsb, ?_⟩) rfl
  · obtain rfl : x = (("line" : Str), NameKind.local) := by simpa [keyScope] using hx
    decide
  · obtain rfl : x = (("line" : Str), Value.ref p) := by simpa using hx
    exact keyLook
  have kp : ∀ b o, s.heap.get? b = some o → h₁.get? b = some o := fun b o e => hsb.extBut b o (Nat.ne_of_lt (Heap.lt_size e)) (Heap.get?_push_of_some _ e)
  have ht1 : IsTup h₁ p #[.int a ta, .int b tb] := let ⟨o, e, r⟩ := ht; ⟨o, kp _ _ e, r⟩
  have hm : (fun x => ([(("line" : Str), Value.ref p)] : List (Str × Value)).reverse.lookup x) "line" = some (.ref p) := look1
  refine PySem.W.kla_codeExpr (Tuple_ ?_)
  show wpAny _ _ (spliced [(false, eval (.UnaryOp .USub (.Subscript (.Name "line" p1) (.Constant (.int 0) 0 p2) p3) p4) _), (false, eval (.Subscript (.Name "line" p5) (.Constant (.int 1) 0 p6) p7) _)]) _ _ _
  refine Calls.spliced_cons (UnaryOp_ (key_item (j := 0) (x := .int a ta) rfl keyLook hns hm ht1 (by decide) (by decide) six0 rfl fun tk => ?_))
  refine neg_int ?_
  refine Calls.spliced_cons (key_item (j := 1) (x := .int b tb) rfl keyLook hns hm ht1 (by decide) (by decide) six1 rfl fun tk2 => ?_)
  refine Calls.spliced_nil ?_
  refine wpAny_newTuple ?_ (by show 2 ≤ sizeLine; decide)
  refine ⟨_, _, rfl, fun b o e => Heap.get?_push_of_some _ (kp b o e), ?_⟩
  exact .tuple (Heap.get?_push_size _ rfl) rfl rfl (.cons (.int _ _) (.cons (.int _ _) .nil))
end
/-! ### the rule -/
def rSortK (K : PySem.W.Frag) (mkK : Addr → LF) : List V → List V → Hp → VK → Prop := fun vs zs H Q => ∃ (a f c' : Addr) (ts : List Ln), vs = [V.ref a] ∧ zs = [V.ref f] ∧ SqL K H a (ts.map fun t => V.ref t.1) ∧ (∀ t ∈ ts, H t.1 = some (.tup [.int t.2.1, .int t.2.2])) ∧
  H f = some (LamO f (mkK c')) ∧ H c' = some (CodeO c' (mkK c').qual) ∧ ∀ (ts' : List Ln) (p : Addr), ts'.Perm ts → ts'.Pairwise ordL → H p = none → Q (.ref p) (upd H p (.lst (ts'.map fun t => V.ref t.1)))
theorem vals_refs : ∀ {ts : List Ln} {us : List Value}, Vals (ts.map fun t => V.ref t.1) us → us = ts.map fun t => Value.ref t.1
  | [], _, r => by cases r; rfl
  | t :: ts, _, r => by
    cases r with
    | cons r rr =>
      have e := vals_refs rr
      have e0 := r
      cases e0
      rw [e]
      rfl
theorem refs_vals : ∀ (ts : List Ln), Vals (ts.map fun t => V.ref t.1) (ts.map fun t => Value.ref t.1)
  | [] => .nil
  | t :: ts => .cons rfl (refs_vals ts)
theorem each_refs : ∀ (ts : List Ln), PySem.W.EachIs (fun v (t : Ln) => v = Value.ref t.1) (ts.map fun t => Value.ref t.1) ts
  | [] => .nil
  | t :: ts => .cons rfl (each_refs ts)
theorem refs_each : ∀ {ts : List Ln} {us : List Value}, PySem.W.EachIs (fun v (t : Ln) => v = Value.ref t.1) us ts → us = ts.map fun t => Value.ref t.1
  | [], _, r => by cases r; rfl
  | t :: ts, _, r => by
    cases r with
    | cons r rr =>
      rw [refs_each rr, r]
      rfl
theorem cr_sortKey {X : Cx} {mkK : Addr → LF} {pp p1 p2 p3 p4 p5 p6 p7 p8 : Pos} (hL : ∀ c, (mkK c).params = keyParams pp) (hB : ∀ c, (mkK c).body = keyBody p1 p2 p3 p4 p5 p6 p7 p8) (hS : ∀ c, (mkK c).scope = keyScope) (hC : ∀ c, (mkK c).c = c) (hr : Room 3 X.A) : CallRK X (.builtin "sorted") [Str.ofString "key"] (rSortK X.K mkK) := by
  intro pins s σ H vs zs us ws Q I r rz h
  obtain ⟨a, f, c', ts, rfl, rfl, hs, hts, hf, hc, q⟩ := h
  obtain rfl := Vals.ref1 r
  obtain rfl := Vals.ref1 rz
  obtain ⟨its, rv, hl, hz⟩ := I.list hs
  obtain rfl := vals_refs rv
  rw [List.length_map] at hz
  obtain ⟨od, sl, pm, ctv, ho⟩ := lamO_at I.hok hf
  have hcr := codeO_at I.hok hc
  have hun := hr.units
  refine PySem.W.sorted_key_data (b := false) (fun t : Ln => .tuple [.int (-t.2.1), .int t.2.2]) (R := fun v (t : Ln) => v = Value.ref t.1) hl.isList (each_refs ts) (PySem.W.AllAlike.of fun _ _ => by simp [PySem.W.alike, PySem.W.alikeAll]) (PySem.W.Sortable.tuples fun _ => ⟨_, _, rfl⟩) hz (fun t _ => ?_) (ksk_s1 _ _) (fun _ => ksk_l1 _ _) (fun _ => ksk_t1 _ _)
    (fun v t hv ht h tk kp => ?_) fun out c h' tk kp _ hD hlen eo => ?_
  · have hd : (PyData.tuple [.int (-t.2.1), .int t.2.2]).depth = 1 := by simp [PyData.depth, PyData.depthAll]
    omega
  · subst hv
    obtain ⟨_, is, rt, htup⟩ := I.hok t.1 _ (hts t ht)
    obtain ⟨ta, tb, rfl⟩ := Vals.int2 rt
    refine key_turn (s := { s with heap := h, toks := tk }) (L := mkK c') (hL _) (hB _) (hS _) (hr.in1.in1).depth (kp _ _ ho) ?_ (I.nolimit.keeps kp) (let ⟨o, e, r⟩ := htup; ⟨o, kp _ _ e, r⟩)
    obtain ⟨c2, oc, vs, t, e1, e2, e3, e4⟩ := hcr
    rw [hC]
    exact ⟨c2, oc, vs, t, e1, kp _ _ e2, e3, e4⟩
  · rw [PySem.W.dataLe_ii (β := Ln) (fun t => -t.2.1) (fun t => t.2.2)] at eo
    obtain rfl := refs_each eo
    have pm := List.mergeSort_perm ts fun p q : Ln => decide (-p.2.1 < -q.2.1 ∨ (-p.2.1 = -q.2.1 ∧ p.2.2 ≤ q.2.2))
    have pw := List.pairwise_mergeSort (le := fun p q : Ln => decide (-p.2.1 < -q.2.1 ∨ (-p.2.1 = -q.2.1 ∧ p.2.2 ≤ q.2.2))) (fun a b c h1 h2 => by
      simp only [decide_eq_true_eq] at h1 h2 ⊢
      omega) (fun a b => by
      simp only [Bool.or_eq_true, decide_eq_true_eq]
      omega) ts
    refine ⟨.ref _, _, I.laid (t' := tk) (a := s.heap.objs.size + 1) (o := .lst ((ts.mergeSort fun p q : Ln => decide (-p.2.1 < -q.2.1 ∨ (-p.2.1 = -q.2.1 ∧ p.2.2 ≤ q.2.2))).map fun t => V.ref t.1)) kp (Nat.le_succ _) ⟨?_, _, c, refs_vals _, hD⟩, rfl, q _ _ pm (pw.imp fun {x y} h => ?_) (I.hok.fresh (Nat.le_succ _))⟩
    · rw [List.length_map, pm.length_eq]
      exact hz
    · simp only [decide_eq_true_eq] at h
      unfold ordL
      omega
end OB
namespace OB
open PySem PySem.Spec PyProof.Rows L2 LamX NdefX
/-! ### what the top has written -/
structure Tx (K : PySem.W.Frag) (mg : Str → Option Value) (base : Heap) : Prop where
  sd : He.SaysD fa fn K
  ex : ex K = true
  gl : ∀ x ∈ globNames, mg x = some (.ref (He.ga K x))
  fr : ∀ x ∈ freeNames, mg x = none
  tb : ∀ p ∈ tf, TabB base mg (He.cT K p).1 (He.cT K p).2
section
variable {K : PySem.W.Frag} {mg : Str → Option Value} {base : Heap}
theorem Tx.fact (T : Tx K mg base) {f : He.Fa} (h : f ∈ fa) : f.ok K = true := T.sd.facts h
theorem mem_cls : He.Fa.cls "Blocks" ∈ fa := by
  unfold fa
  simp
theorem mem_mkr : He.Fa.mkr "Blocks" ∈ fa := by
  unfold fa
  simp
theorem mem_noat {f : Str} (h : f ∈ fieldNames) : He.Fa.noat "Blocks" f ∈ fa := by
  unfold fa
  simp only [List.mem_append, List.mem_map]
  exact Or.inl (Or.inr ⟨f, h, rfl⟩)
theorem mem_meth {m : Str} (h : m ∈ methNames) : He.Fa.meth "Blocks" m ∈ fa := by
  unfold fa
  simp only [List.mem_append, List.mem_map]
  exact Or.inr ⟨m, h, rfl⟩
theorem Tx.cl (T : Tx K mg base) : Cls K (CB K) := He.cls_ok (T.fact mem_cls)
theorem Tx.mkr (T : Tx K mg base) : Mk K (CB K) (He.fAd K ("Blocks", some "__init__")) := He.mkr_ok (T.fact mem_mkr)
theorem Tx.na (T : Tx K mg base) (f : Str) (h : f ∈ fieldNames := by decide +kernel) : NoAttr K (CB K) f := He.noat_ok (T.fact (mem_noat h))
theorem Tx.me (T : Tx K mg base) (m : Str) (h : m ∈ methNames := by decide +kernel) : Meth K (CB K) m (He.fAd K ("Blocks", some m)) := He.meth_ok (T.fact (mem_meth h))
theorem Tx.glo (T : Tx K mg base) (x : Str) (h : x ∈ globNames := by decide +kernel) : mg x = some (.ref (He.ga K x)) := T.gl x h
theorem Tx.bi (T : Tx K mg base) (x : Str) (h : x ∈ freeNames := by decide +kernel) : mg x = none := T.fr x h
theorem ex_parts (T : Tx K mg base) : clsB K "Asked" = true ∧ clsB K "Logged" = true ∧ tupB0 K (He.dflAt ("Blocks", some "ask_rows") 0 K) = true ∧ (tf.map fun p => (He.cT K p).2).Nodup := by
  have h := T.ex
  unfold ex at h
  obtain ⟨h1, h2⟩ := He.ba h
  obtain ⟨h1, h3⟩ := He.ba h1
  obtain ⟨h1, h4⟩ := He.ba h1
  exact ⟨h1, h4, h3, of_decide_eq_true h2⟩
theorem clsB_ok {x : Str} (h : clsB K x = true) : CFun K (He.ga K x) "__init__" (He.fAd K (x, some "__init__")) := by
  unfold clsB at h
  obtain ⟨h1, h2⟩ := He.ba h
  obtain ⟨h1, h3⟩ := He.ba h1
  obtain ⟨h1, h4⟩ := He.ba h1
  obtain ⟨h1, h5⟩ := He.ba h1
  refine ⟨h1, of_decide_eq_true h5, ?_, h2⟩
  cases q : PySem.W.findCls K (.ref (He.ga K x)) (.type "type") "__init__" with
  | none =>
    rw [q] at h4
    cases h4
  | some r =>
    rw [q] at h4
    cases r with
    | get => cases h4
    | val v =>
      cases v with
      | ref a =>
        have e : a = He.ma K (He.ga K x) "__init__" := of_decide_eq_true h4
        rw [e]
        rfl
      | _ => cases h4
theorem tup0_ok {a : Addr} (h : tupB0 K a = true) (H : Hp) : SqT K H a [] := by
  unfold tupB0 at h
  cases q : K.lookup a with
  | none =>
    rw [q] at h
    cases h
  | some o =>
    obtain ⟨oc, od, dt, osl⟩ := o
    rw [q] at h
    cases oc with
    | type c =>
      cases dt with
      | seq its n =>
        obtain ⟨h1, h2⟩ := He.ba h
        have e : c = "tuple" := of_decide_eq_true h1
        have e2 : its = #[] := Array.isEmpty_iff.mp h2
        subst e e2
        exact .inr ⟨_, #[], n, q, rfl, rfl, by simp, .nil⟩
      | _ => cases h
    | _ => cases h
end
/-! ### the tables -/
def lq (q : Str) : Str := q ++ (".<locals>." : Str) ++ ("<lambda>" : Str)
def tqual : List Str := ["Asked.ask_rows", "Blocks.add", "lines_block", "_law_counts", "_law_lines"]
def Tbs (K : PySem.W.Frag) : List (Addr × Str) := (tf.zip tqual).map fun p => ((He.cT K p.1).2, lq p.2)
theorem tt_uniq {K : PySem.W.Frag} (h : (tf.map fun p => (He.cT K p).2).Nodup) {P : Addr} {q : Str} (hm : (P, q) ∈ Tbs K) : ∀ p ∈ Tbs K, p.1 = P → p.2 = q := by
  have e : (Tbs K).map (·.1) = tf.map fun p => (He.cT K p).2 := by
    simp [Tbs, tf, tqual]
  have nd : ((Tbs K).map (·.1)).Nodup := by rw [e]; exact h
  intro p hp ep
  have key : ∀ (l : List (Addr × Str)), (l.map (·.1)).Nodup → ∀ a ∈ l, ∀ b ∈ l, a.1 = b.1 → a = b := by
    intro l
    induction l with
    | nil => intro _ a ha; cases ha
    | cons c r ih =>
      intro n a ha b hb eab
      obtain ⟨n1, n2⟩ := List.nodup_cons.mp n
      rcases List.mem_cons.mp ha with rfl | ha
      · rcases List.mem_cons.mp hb with rfl | hb
        · rfl
        · exact absurd (List.mem_map.mpr ⟨b, hb, eab.symm⟩) n1
      · rcases List.mem_cons.mp hb with eb | hb
        · exact absurd (List.mem_map.mpr ⟨a, ha, eab.trans (by rw [eb])⟩) n1
        · exact ih n2 a ha b hb eab
  have := key _ nd p hp (P, q) hm ep
  rw [this]
/-! ### a def's promise, with all that a caller needs -/
structure FO (P : Program) (w : World) (K : PySem.W.Frag) (mg : Str → Option Value) (base : Heap) (k : Nat) (p : He.Defn) (ps : List Str) (sp : Sp) : Prop where
  ex : ∃ fd, FnOk P w K mg base CX0 k (He.fAd K p) fd ps sp ∧ Binds K fd ps []
  kp : PySem.W.keepIn K (.ref (He.fAd K p)) = true
section
variable {P : Program} {w : World} {K : PySem.W.Frag} {mg : Str → Option Value} {base : Heap} {x qual : Str} {params : Arguments} {body : List Stmt} {scope : Scope} {p : He.Defn} {fd : FuncData}
theorem FO.mono {j k : Nat} {ps : List Str} {sp : Sp} (G : FO P w K mg base j p ps sp) (h : j ≤ k) : FO P w K mg base k p ps sp := let ⟨fd, F, b⟩ := G.ex; ⟨⟨fd, F.mono h, b⟩, G.kp⟩
theorem fo_mk {N ps : List Str} {k : Nat} {sp : Sp} (F : ∃ fd, FunD K x qual params body scope [] [] (He.fAd K p) fd) (S : FnScope N ps scope) (len : ∀ vs H Q E, sp vs H Q E → vs.length = ps.length)
    (hb : ∀ (kV doc pm : Value) (an : Option Addr) (cdv ct : Value) (us : List Value), us.length = ps.length → bindArgs (PySem.W.fnOf x qual params body scope .none kV doc pm an cdv ct) ⟨us, []⟩ = pure (ps.zip us))
    (hbody : ∀ (A : Around) (outer : List Env) (s : Shared) (H : Hp) (vs : List V) (Q : VK) (E : XK), Room k (A.deeper (envOfC qual scope s.heap.objs.size (He.fAd K p) (.ref (He.codeOf K p)))) → sp vs H Q E →
      ∃ t, PSs (dcx P w K mg base N qual scope p A outer s H) body t ∧ t { nx := fun _ H' => Q .non H', rt := Q } (L2.start N vs) H) : FO P w K mg base (k + 1) p ps sp := by
  obtain ⟨fd, F⟩ := F
  exact ⟨⟨fd, okD F S len hbody, F.bindsN hb⟩, F.kp⟩
end
section
variable {X : Cx} {x m : Str} {k : Nat} {ps : List Str} {sp : Sp} {e o : Expr} {es : List Expr} {t : TA} {ta : TE} {p pos apos : Pos}
theorem pe_fo (G : FO X.prog X.w X.K X.mg X.base k (x, none) ps sp) (hr : Room k X.A) (hg : Gl X x) (hm : X.mg x = some (.ref (He.ga X.K x))) (ha : PA X (e :: es) t) (hdb : (x == ("__debug__" : Str)) = false := by decide +kernel)
    (he : starEach (e :: es) X.env = (false, eval e X.env) :: starEach es X.env := by rfl) (hpl : (backTo pos (starEach es X.env)).any (·.1) = false := by rfl) :
    PE X (.Call (.Name x p) (e :: es) [] pos) (tCall sp [] E0 t) := by
  obtain ⟨fd, F, b⟩ := G.ex
  exact pe_call F hr hg hm G.kp b .nil pass0 ha hdb he hpl
theorem pe_foM {pl : Sem Bool} (G : FO X.prog X.w X.K X.mg X.base k ("Blocks", some m) ps sp) (he : PE X o ta) (c : Cls X.K (CB X.K)) (hm : Meth X.K (CB X.K) m (He.fAd X.K ("Blocks", some m))) (hr : Room k X.A) (ha : PA X (e :: es) t)
    (hst : starEach (e :: es) X.env = (false, eval e X.env) :: starEach es X.env := by rfl) (hpl : (backTo pos (starEach es X.env)).any (·.1) = false := by rfl)
    (ht : eval (.Call (.Attribute o m apos) (e :: es) [] pos) X.env = (do
      let ov ← eval o X.env
      standAt apos.atName
      let (f, first) ← holding [ov] (getMethod ov m pl)
      callWith pos f first (backTo pos (starEach (e :: es) X.env)) (backToKw pos (keywordEach [] X.env))) := by rfl) :
    PE X (.Call (.Attribute o m apos) (e :: es) [] pos) (tMeth (CB X.K) m sp [] E0 ta t) := by
  obtain ⟨fd, F, b⟩ := G.ex
  exact pe_meth he c hm F hr b .nil pass0 ha hst hpl ht
theorem pe_foM0 {pl : Sem Bool} (G : FO X.prog X.w X.K X.mg X.base k ("Blocks", some m) ps sp) (he : PE X o ta) (c : Cls X.K (CB X.K)) (hm : Meth X.K (CB X.K) m (He.fAd X.K ("Blocks", some m))) (hr : Room k X.A)
    (ht : eval (.Call (.Attribute o m apos) [] [] pos) X.env = (do
      let ov ← eval o X.env
      standAt apos.atName
      let (f, first) ← holding [ov] (getMethod ov m pl)
      callWith pos f first (backTo pos (starEach [] X.env)) (backToKw pos (keywordEach [] X.env))) := by rfl) :
    PE X (.Call (.Attribute o m apos) [] [] pos) (tMeth (CB X.K) m sp [] E0 ta tNil) := by
  obtain ⟨fd, F, b⟩ := G.ex
  exact pe_meth0 he c hm F hr b .nil pass0 ht
theorem pe_fo0 (G : FO X.prog X.w X.K X.mg X.base k (x, none) ps sp) (hr : Room k X.A) (hg : Gl X x) (hm : X.mg x = some (.ref (He.ga X.K x))) (hdb : (x == ("__debug__" : Str)) = false := by decide +kernel) :
    PE X (.Call (.Name x p) [] [] pos) (tCall sp [] E0 tNil) := by
  obtain ⟨fd, F, b⟩ := G.ex
  exact pe_call0 G.ex.choose_spec.1 hr hg hm G.kp G.ex.choose_spec.2 .nil pass0 hdb
end
end OB
namespace OB
open PySem PySem.Spec PyProof.Rows L2 LamX NdefX
theorem nat_div_pow (m k : Nat) : ((m : Int) / 2 ^ k) = ((m / 2 ^ k : Nat) : Int) := by
  rw [Int.natCast_ediv, Int.natCast_pow]
  rfl
/-- a test's reading that may be weakened -/
theorem tTest_mono {r : R2} {ta tb : TE} (ha : ∀ σ H Q Q', (∀ v H1, Q v H1 → Q' v H1) → ta σ H Q → ta σ H Q') (hb : ∀ σ H Q Q', (∀ v H1, Q v H1 → Q' v H1) → tb σ H Q → tb σ H Q') (hr : ∀ x y H (Q Q' : VK), (∀ v H1, Q v H1 → Q' v H1) → r x y H Q → r x y H Q') :
    ∀ σ H Q Q', (∀ b H1, Q b H1 → Q' b H1) → tTest (tOp r ta tb) σ H Q → tTest (tOp r ta tb) σ H Q' := fun σ H Q Q' h q =>
  ha σ H _ _ (fun x H1 q1 => hb σ H1 _ _ (fun y H2 q2 => hr x y H2 _ _ (fun v H3 ⟨k, e, q3⟩ => ⟨k, e, h _ _ q3⟩) q2) q1) q
theorem tVar_mono {i : Nat} : ∀ σ H Q Q', (∀ v H1, Q v H1 → Q' v H1) → tVar i σ H Q → tVar i σ H Q' := fun _ _ _ _ h ⟨v, e, q⟩ => ⟨v, e, h _ _ q⟩
theorem tC_mono {v : V} : ∀ σ H Q Q', (∀ v H1, Q v H1 → Q' v H1) → tC v σ H Q → tC v σ H Q' := fun _ _ _ _ h q => h _ _ q
theorem tOp_mono {r : R2} {ta tb : TE} (ha : ∀ σ H Q Q', (∀ v H1, Q v H1 → Q' v H1) → ta σ H Q → ta σ H Q') (hb : ∀ σ H Q Q', (∀ v H1, Q v H1 → Q' v H1) → tb σ H Q → tb σ H Q') (hr : ∀ x y H (Q Q' : VK), (∀ v H1, Q v H1 → Q' v H1) → r x y H Q → r x y H Q') :
    ∀ σ H Q Q', (∀ b H1, Q b H1 → Q' b H1) → tOp r ta tb σ H Q → tOp r ta tb σ H Q' := fun σ H Q Q' h q =>
  ha σ H _ _ (fun x H1 q1 => hb σ H1 _ _ (fun y H2 q2 => hr x y H2 _ _ h q2) q1) q
theorem rI0_mono {g : Int → Int → V} : ∀ x y H (Q Q' : VK), (∀ v H1, Q v H1 → Q' v H1) → rI0 g x y H Q → rI0 g x y H Q' := fun _ _ _ _ _ h ⟨i, j, a, b, q⟩ => ⟨i, j, a, b, h _ _ q⟩
section
variable {P : Program} {w : World} {K : PySem.W.Frag} {mg : Str → Option Value} {base : Heap}
/-! ### exponent -/
def IsExp (m e : Nat) : Prop := m / 2 ^ e % 2 = 1 ∧ ∀ j, j < e → m / 2 ^ j % 2 = 0
theorem isExp_one {m e f : Nat} (h : IsExp m e) (g : IsExp m f) : e = f := by
  rcases Nat.lt_trichotomy e f with z | z | z
  · have := g.2 e z
    have := h.1
    omega
  · exact z
  · have := h.2 f z
    have := g.1
    omega
def spExp : Sp := fun vs H Q _ => ∃ m : Nat, vs = [.int m] ∧ 0 < m ∧ ∀ e : Nat, IsExp m e → Q (.int e) H
theorem scExp : FnScope ["many", "found"] ["many"] (defScope sExponent) := ⟨rfl, rfl, rfl, by decide +kernel, rfl, by decide +kernel, by decide +kernel⟩
theorem ok_exp (T : Tx K mg base) : FO P w K mg base 1 ("exponent", none) ["many"] spExp := by
  refine fo_mk (T.sd.def_ 7 (d := OB.mk ("exponent", none) "exponent" sExponent "exponent")) scExp (fun vs H Q E h => ?_) (fun _ _ _ _ _ _ us hl => match us, hl with | [_], _ => rfl) (fun A outer s H vs Q E hr h => ?_)
  · obtain ⟨m, rfl, _⟩ := h
    rfl
  · obtain ⟨m, rfl, hm, q⟩ := h
    refine ⟨_, pss_cons (ps_set (i := 1) scExp.nd rfl (Or.inl rfl) pe_int) (pss_cons (ps_while PassesOwn.never (pt_cmpR op_eq (pe_op op_odd (pe_op op_shrN (pv 0) (pv 1)) pe_int) pe_int (nomark _)) (pss_one (ps_aug (i := 1) scExp.nd rfl (Or.inl rfl) pe_int ip_add)))
      (pss_one (ps_ret (pv 1)))), ?_⟩
    refine while_by (fun σ H' => ∃ f : Nat, σ = [some (.int m), some (.int f)] ∧ H' = H ∧ 0 < m / 2 ^ f ∧ ∀ j, j < f → m / 2 ^ j % 2 = 0) (fun σ _ => match σ with | [_, some (.int f)] => m / 2 ^ f.toNat | _ => 0) ⟨0, rfl, rfl, by simpa using hm, fun j h => by omega⟩ ?_ ?_
    · rintro σ H' ⟨f, rfl, rfl, hf, hlow⟩
      refine ⟨_, rfl, _, rfl, (m : Int), f, rfl, rfl, m / 2 ^ f, congrArg V.int (nat_div_pow m f), rfl, ?_⟩
      refine ⟨rfl, _, rfl, ?_⟩
      refine ite2 (fun c => ?_) (fun c => ⟨_, rfl, q f ⟨?_, hlow⟩⟩)
      rotate_left
      · have z : ¬ V.int ((m / 2 ^ f % 2 : Nat) : Int) = V.int 0 := fun z => c (decide_eq_true z)
        have z' : ¬ m / 2 ^ f % 2 = 0 := fun y => z (by rw [y]; rfl)
        omega
      have c' : m / 2 ^ f % 2 = 0 := by
        have z : V.int ((m / 2 ^ f % 2 : Nat) : Int) = V.int 0 := of_decide_eq_true c
        injection z with z
        omega
      refine ⟨_, rfl, (f : Int), 1, rfl, rfl, ⟨f + 1, rfl, rfl, ?_, ?_⟩, ?_⟩
      · rw [Nat.pow_succ, ← Nat.div_div_eq_div_mul]
        omega
      · intro j hj
        by_cases e : j = f
        · rw [e]
          exact c'
        · exact hlow j (by omega)
      · show m / 2 ^ ((f : Int) + 1).toNat < m / 2 ^ (f : Int).toNat
        have e1 : ((f : Int) + 1).toNat = f + 1 := by omega
        have e2 : (f : Int).toNat = f := by omega
        rw [e1, e2, Nat.pow_succ, ← Nat.div_div_eq_div_mul]
        omega
    · rintro σ H' Q1 Q2 h ⟨x, hx, y, hy, i, k, hi, hk, n, hn, h1, hs, z, hz, q⟩
      exact ⟨x, hx, y, hy, i, k, hi, hk, n, hn, h1, hs, z, hz, h _ _ q⟩
/-! ### sorted_block -/
def spSB : Sp := fun vs H Q _ => ∃ (l : Addr) (ns : List Int), vs = [.ref l] ∧ H l = some (.lst (ns.map V.int)) ∧ ns.length < 64 ∧ ∀ (ns' : List Int) (p : Addr), ns'.Perm ns → ns'.Pairwise (· ≤ ·) → H p = none → Q (.ref p) (upd H p (.lst (ns'.map V.int)))
theorem scSB : FnScope ["integers"] ["integers"] (defScope sSortedBlock) := ⟨rfl, rfl, rfl, by decide +kernel, rfl, by decide +kernel, by decide +kernel⟩
theorem ok_sb (T : Tx K mg base) : FO P w K mg base 1 ("sorted_block", none) ["integers"] spSB := by
  refine fo_mk (T.sd.def_ 13 (d := OB.mk ("sorted_block", none) "sorted_block" sSortedBlock "sorted_block")) scSB (fun vs H Q E h => ?_) (fun _ _ _ _ _ _ us hl => match us, hl with | [_], _ => rfl) (fun A outer s H vs Q E hr h => ?_)
  · obtain ⟨l, ns, rfl, _⟩ := h
    rfl
  · obtain ⟨l, ns, rfl, hl, hz, q⟩ := h
    refine ⟨_, pss_one (ps_ret (pe_callB cr_sorted (by rfl) (T.bi "sorted") (by decide +kernel) (pa_cons (pv 0) pa_nil))), ?_⟩
    exact ⟨_, rfl, l, ns, rfl, SqL.of hl, hz, fun ns' p h1 h2 h3 => q ns' p h1 h2 h3⟩
/-! ### count_below -/
def spCB : Sp := fun vs H Q _ => ∃ (l : Addr) (ns : List Int) (b : Int), vs = [.ref l, .int b] ∧ H l = some (.lst (ns.map V.int)) ∧ ns.Pairwise (· ≤ ·) ∧ ns.length < 64 ∧ Q (.int (cnt b ns)) H
theorem scCB : FnScope ["block", "bound", "low", "high", "middle"] ["block", "bound"] (defScope sCountBelow) := ⟨rfl, rfl, rfl, by decide +kernel, rfl, by decide +kernel, by decide +kernel⟩
theorem mid_eq (lo hi : Nat) : ((lo : Int) + (hi : Int)) / 2 = (((lo + hi) / 2 : Nat) : Int) := by omega
theorem ok_cb (T : Tx K mg base) : FO P w K mg base 1 ("count_below", none) ["block", "bound"] spCB := by
  refine fo_mk (T.sd.def_ 14 (d := OB.mk ("count_below", none) "count_below" sCountBelow "count_below")) scCB (fun vs H Q E h => ?_) (fun _ _ _ _ _ _ us hl => match us, hl with | [_, _], _ => rfl) (fun A outer s H vs Q E hr h => ?_)
  · obtain ⟨l, ns, b, rfl, _⟩ := h
    rfl
  · obtain ⟨l, ns, b, rfl, hl, hs, hz, q⟩ := h
    refine ⟨_, pss_cons (ps_par (i := 2) (j := 3) rfl scCB.nd rfl rfl (by decide) rfl rfl (pa_cons pe_int (pa_cons (pe_callB call_len_seq (by rfl) (T.bi "len") PySem.boot_len (pa_cons (pv 0) pa_nil)) pa_nil)) (by rfl))
      (pss_cons (ps_while PassesOwn.never (pt_cmpR op_lt (pv 2) (pv 3) (nomark _))
        (pss_cons (ps_set (i := 4) scCB.nd rfl (Or.inl rfl) (pe_op op_fdiv (pe_op op_add (pv 2) (pv 3)) pe_int))
          (pss_one (ps_if (pt_cmpR op_lt (pe_ix ix_list (pv 0) (pv 4) (fun _ _ => rfl)) (pv 1) (nomark _)) (pss_one (ps_set (i := 2) scCB.nd rfl (Or.inl rfl) (pe_op op_add (pv 4) pe_int))) (pss_one (ps_set (i := 3) scCB.nd rfl (Or.inl rfl) (pv 4)))))))
      (pss_one (ps_ret (pv 2)))), ?_⟩
    refine ⟨_, rfl, l, _, rfl, .inl (SqL.of hl), _, _, rfl, ?_⟩
    refine while_by (fun σ H' => ∃ (lo hi : Nat) (v : Option V), σ = [some (.ref l), some (.int b), some (.int lo), some (.int hi), v] ∧ H' = H ∧ CSrch ns b lo hi) (fun σ _ => match σ with | [_, _, some (.int lo), some (.int hi), _] => (hi - lo).toNat | _ => 0)
      ⟨0, ns.length, none, ?_, rfl, CSrch.start ns b⟩ ?_ (tTest_mono tVar_mono tVar_mono rI0_mono)
    · rw [List.length_map]
      rfl
    · rintro σ H' ⟨lo, hi, v, rfl, rfl, cs⟩
      refine ⟨_, rfl, _, rfl, _, _, rfl, rfl, _, rfl, ?_⟩
      refine ite2 (fun c => ?_) (fun c => ?_)
      · have c' : (lo : Int) < hi := of_decide_eq_true c
        have hlt := cs.hi_le
        obtain ⟨y, ey⟩ : ∃ y, ns[(lo + hi) / 2]? = some y := ⟨_, List.getElem?_eq_getElem (by omega)⟩
        refine ⟨_, rfl, _, rfl, _, _, rfl, rfl, _, _, rfl, rfl, (by show (0 : Int) < 2 ∧ (2 : Int) < 1073741824; decide), ?_⟩
        refine ⟨_, rfl, _, rfl, l, _, _, .int y, rfl, rfl, SqL.of hl, at_of (mid_eq lo hi) (by rw [List.getElem?_map, ey] <;> rfl), _, rfl, _, _, rfl, rfl, _, rfl, ?_⟩
        refine ite2 (fun d => ?_) (fun d => ?_)
        · refine ⟨_, rfl, _, _, rfl, rfl, ⟨(lo + hi) / 2 + 1, hi, some (.int (((lo : Int) + hi) / 2)), ?_, rfl, cs.up hs (by omega) ey (of_decide_eq_true d)⟩, ?_⟩
          · show [some (V.ref l), some (V.int b), some (V.int (((lo : Int) + hi) / 2 + 1)), some (V.int (hi : Int)), some (V.int (((lo : Int) + hi) / 2))] = _
            rw [mid_eq]
            rfl
          · show ((hi : Int) - (((lo : Int) + hi) / 2 + 1)).toNat < ((hi : Int) - lo).toNat
            omega
        · refine ⟨_, rfl, ⟨lo, (lo + hi) / 2, some (.int (((lo : Int) + hi) / 2)), ?_, rfl, cs.down hs (by omega) (by omega) ey (fun z => d (decide_eq_true z))⟩, ?_⟩
          · show [some (V.ref l), some (V.int b), some (V.int (lo : Int)), some (V.int (((lo : Int) + hi) / 2)), some (V.int (((lo : Int) + hi) / 2))] = _
            rw [mid_eq]
          · show ((((lo : Int) + hi) / 2) - lo).toNat < ((hi : Int) - lo).toNat
            omega
      · have c' : ¬ (lo : Int) < hi := fun z => c (decide_eq_true z)
        have e : lo = hi := by
          have := cs.le
          omega
        subst e
        refine ⟨_, rfl, ?_⟩
        rw [← cs.fin]
        exact q
/-! ### value_at -/
/-- a line's tuple -/
def TupAt (H : Hp) (t : Ln) : Prop := H t.1 = some (.tup [.int t.2.1, .int t.2.2]) ∧ t.2.1.natAbs < 2 ^ 100 ∧ t.2.2.natAbs < 2 ^ 100
def spVal : Sp := fun vs H Q _ => ∃ (t : Ln) (x : Int), vs = [.ref t.1, .int x] ∧ TupAt H t ∧ x.natAbs < 2 ^ 100 ∧ Q (.int (val t x)) H
theorem scVal : FnScope ["line", "x"] ["line", "x"] (defScope sValueAt) := ⟨rfl, rfl, rfl, by decide +kernel, rfl, by decide +kernel, by decide +kernel⟩
theorem ok_val (T : Tx K mg base) : FO P w K mg base 1 ("value_at", none) ["line", "x"] spVal := by
  refine fo_mk (T.sd.def_ 17 (d := OB.mk ("value_at", none) "value_at" sValueAt "value_at")) scVal (fun vs H Q E h => ?_) (fun _ _ _ _ _ _ us hl => match us, hl with | [_, _], _ => rfl) (fun A outer s H vs Q E hr h => ?_)
  · obtain ⟨t, x, rfl, _⟩ := h
    rfl
  · obtain ⟨t, x, rfl, ⟨ht, ha, hb⟩, hx, q⟩ := h
    refine ⟨_, pss_one (ps_ret (pe_op op_add (pe_op op_mulW (pe_ix ix_tup (pv 0) pe_int (fun _ _ => rfl)) (pv 1)) (pe_ix ix_tup (pv 0) pe_int (fun _ _ => rfl)))), ?_⟩
    exact ⟨_, rfl, _, _, _, _, rfl, rfl, SqT.of ht, atI_nat (j := 0) rfl, _, rfl, _, _, rfl, rfl, wide_mul ha hx (by decide) (by decide) (by decide), _, rfl, _, _, _, _, rfl, rfl, SqT.of ht, atI_nat (j := 1) rfl, _, _, rfl, rfl, q⟩
/-! ### is_hidden -/
def spHid : Sp := fun vs H Q _ => ∃ (a b c : Ln), vs = [.ref a.1, .ref b.1, .ref c.1] ∧ TupAt H a ∧ TupAt H b ∧ TupAt H c ∧ Q (.bl (decide (hid a b c))) H
theorem scHid : FnScope ["one", "two", "three"] ["one", "two", "three"] (defScope sIsHidden) := ⟨rfl, rfl, rfl, by decide +kernel, rfl, by decide +kernel, by decide +kernel⟩
theorem sub_abs {a b : Int} (ha : a.natAbs < 2 ^ 100) (hb : b.natAbs < 2 ^ 100) : (a - b).natAbs < 2 ^ 101 := by
  have : (2 : Nat) ^ 101 = 2 ^ 100 + 2 ^ 100 := by decide
  omega
theorem ok_hid (T : Tx K mg base) : FO P w K mg base 1 ("is_hidden", none) ["one", "two", "three"] spHid := by
  refine fo_mk (T.sd.def_ 15 (d := OB.mk ("is_hidden", none) "is_hidden" sIsHidden "is_hidden")) scHid (fun vs H Q E h => ?_) (fun _ _ _ _ _ _ us hl => match us, hl with | [_, _, _], _ => rfl) (fun A outer s H vs Q E hr h => ?_)
  · obtain ⟨a, b, c, rfl, _⟩ := h
    rfl
  · obtain ⟨a, b, c, rfl, ⟨h1, a1, a2⟩, ⟨h2, b1, b2⟩, ⟨h3, c1, c2⟩, q⟩ := h
    have it : ∀ (i : Nat) {x : Str} {p p2 p3 : Pos} {j : Int} (hN : (dcx P w K mg base ["one", "two", "three"] "is_hidden" (defScope sIsHidden) ("is_hidden", none) A outer s H).N[i]? = some x) (hv : Vis (defScope sIsHidden) x) (hd : (x == ("__debug__" : Str)) = false) (hcd : (x == ("__classdict__" : Str)) = false),
        PE (dcx P w K mg base ["one", "two", "three"] "is_hidden" (defScope sIsHidden) ("is_hidden", none) A outer s H) (.Subscript (.Name x p) (.Constant (.int j) 0 p2) p3) (tOp (rIxT K) (tVar i) (tC (.int j))) := fun i x p p2 p3 j hN hv hd hcd => pe_ix ix_tup (pe_var hN hv hd hcd) pe_int (fun _ _ => rfl)
    refine ⟨_, pss_one (ps_ret (pe_cmpR op_le (pe_op op_mulW (pe_op op_sub (it 2 rfl (Or.inl rfl) (by decide) (by decide)) (it 0 rfl (Or.inl rfl) (by decide) (by decide))) (pe_op op_sub (it 0 rfl (Or.inl rfl) (by decide) (by decide)) (it 1 rfl (Or.inl rfl) (by decide) (by decide))))
      (pe_op op_mulW (pe_op op_sub (it 1 rfl (Or.inl rfl) (by decide) (by decide)) (it 0 rfl (Or.inl rfl) (by decide) (by decide))) (pe_op op_sub (it 0 rfl (Or.inl rfl) (by decide) (by decide)) (it 2 rfl (Or.inl rfl) (by decide) (by decide)))) (nomark _))), ?_⟩
    have s1 := SqT.of (K := K) h1
    have s2 := SqT.of (K := K) h2
    have s3 := SqT.of (K := K) h3
    refine ⟨_, rfl, _, _, _, _, rfl, rfl, s3, atI_nat (j := 1) rfl, _, rfl, _, _, _, _, rfl, rfl, s1, atI_nat (j := 1) rfl, _, _, rfl, rfl, ?_⟩
    refine ⟨_, rfl, _, _, _, _, rfl, rfl, s1, atI_nat (j := 0) rfl, _, rfl, _, _, _, _, rfl, rfl, s2, atI_nat (j := 0) rfl, _, _, rfl, rfl, ?_⟩
    refine ⟨_, _, rfl, rfl, wide_mul (sub_abs c2 a2) (sub_abs a1 b1) (by decide) (by decide) (by decide), ?_⟩
    refine ⟨_, rfl, _, _, _, _, rfl, rfl, s2, atI_nat (j := 1) rfl, _, rfl, _, _, _, _, rfl, rfl, s1, atI_nat (j := 1) rfl, _, _, rfl, rfl, ?_⟩
    refine ⟨_, rfl, _, _, _, _, rfl, rfl, s1, atI_nat (j := 0) rfl, _, rfl, _, _, _, _, rfl, rfl, s3, atI_nat (j := 0) rfl, _, _, rfl, rfl, ?_⟩
    exact ⟨_, _, rfl, rfl, wide_mul (sub_abs b2 a2) (sub_abs a1 c1) (by decide) (by decide) (by decide), _, _, rfl, rfl, q⟩
end
end OB
namespace OB
open PySem PySem.Spec PyProof.Rows L2 LamX NdefX
/-! ### readings that may be weakened at their end -/
def MonE (t : TE) : Prop := ∀ σ H Q Q', (∀ v H1, Q v H1 → Q' v H1) → t σ H Q → t σ H Q'
def MonT (t : TT) : Prop := ∀ σ H Q Q', (∀ v H1, Q v H1 → Q' v H1) → t σ H Q → t σ H Q'
def MonA (t : TA) : Prop := ∀ σ H Q Q', (∀ v H1, Q v H1 → Q' v H1) → t σ H Q → t σ H Q'
def MonR (r : R2) : Prop := ∀ x y H (Q Q' : VK), (∀ v H1, Q v H1 → Q' v H1) → r x y H Q → r x y H Q'
theorem mon_var {i : Nat} : MonE (tVar i) := tVar_mono
theorem mon_c {v : V} : MonE (tC v) := tC_mono
theorem mon_op {r : R2} {ta tb : TE} (ha : MonE ta) (hb : MonE tb) (hr : MonR r) : MonE (tOp r ta tb) := tOp_mono ha hb hr
theorem mon_test {t : TE} (h : MonE t) : MonT (tTest t) := fun σ H Q Q' m q => h σ H _ _ (fun x H1 ⟨k, e, z⟩ => ⟨k, e, m _ _ z⟩) q
theorem mon_b {t : TE} (h : MonE t) : MonT (tB t) := fun σ H Q Q' m q => h σ H _ _ (fun x H1 ⟨k, e, z⟩ => ⟨k, e, m _ _ z⟩) q
theorem mon_and {t u : TT} (h : MonT t) (g : MonT u) : MonT (tAnd t u) := fun σ H Q Q' m q => h σ H _ _ (fun c H1 z => by
  cases c with
  | true => exact iteT (g σ H1 Q Q' m (by rw [if_pos rfl] at z; exact z))
  | false => exact iteF (m _ _ (by rw [if_neg Bool.false_ne_true] at z; exact z))) q
theorem mon_nil : MonA tNil := fun _ _ _ _ m q => m _ _ q
theorem mon_cons {ta : TE} {t : TA} (h : MonE ta) (g : MonA t) : MonA (tCons ta t) := fun σ H Q Q' m q => h σ H _ _ (fun x H1 z => g σ H1 _ _ (fun vs H2 y => m _ _ y) z) q
theorem mon_call {sp : Sp} {dvs : List V} {E : XK} {t : TA} (h : MonA t) (hs : ∀ vs H (Q Q' : VK), (∀ v H1, Q v H1 → Q' v H1) → sp vs H Q E → sp vs H Q' E) : MonE (tCall sp dvs E t) := fun σ H Q Q' m q => h σ H _ _ (fun vs H1 z => hs _ _ _ _ m z) q
theorem mon_rI0 {g : Int → Int → V} : MonR (rI0 g) := rI0_mono
theorem mon_rI {C : Int → Int → Prop} {g : Int → Int → V} : MonR (rI C g) := fun _ _ _ _ _ m ⟨i, j, a, b, c, q⟩ => ⟨i, j, a, b, c, m _ _ q⟩
theorem mon_ixL {K : PySem.W.Frag} : MonR (rIxL K) := fun _ _ _ _ _ m ⟨p, xs, i, v, a, b, c, d, q⟩ => ⟨p, xs, i, v, a, b, c, d, m _ _ q⟩
theorem mon_un {g : Int → V} {ta : TE} (h : MonE ta) : MonE (tUn (rU g) ta) := fun σ H Q Q' m q => h σ H _ _ (fun x H1 ⟨i, e, z⟩ => ⟨i, e, m _ _ z⟩) q
theorem mon_cb {r : List V → Hp → VK → Prop} {t : TA} (h : MonA t) (hr : ∀ vs H (Q Q' : VK), (∀ v H1, Q v H1 → Q' v H1) → r vs H Q → r vs H Q') : MonE (tCB r t) := fun σ H Q Q' m q => h σ H _ _ (fun vs H1 z => hr _ _ _ _ m z) q
/-! ### places from the end -/
theorem atI_neg {α : Type} {xs : List α} {k : Nat} (h1 : 0 < k) (h2 : k ≤ xs.length) : atI xs (-(k : Int)) = xs[xs.length - k]? := by
  unfold atI ixN
  rw [if_neg (by omega), if_pos (by omega)]
  show xs[(-(k : Int) + (xs.length : Int)).toNat]? = _
  have e : (-(k : Int) + (xs.length : Int)).toNat = xs.length - k := by omega
  rw [e]
abbrev rf (t : Ln) : V := .ref t.1
theorem at_last (t : Ln) (r : List Ln) : atI ((t :: r).reverse.map rf) (-1) = some (rf t) := by
  have h := atI_neg (xs := (t :: r).reverse.map rf) (k := 1) (by decide) (by simp)
  rw [show (-(1 : Int)) = -((1 : Nat) : Int) from rfl, h]
  simp
theorem at_last2 (t o : Ln) (r : List Ln) : atI ((t :: o :: r).reverse.map rf) (-2) = some (rf o) := by
  have h := atI_neg (xs := (t :: o :: r).reverse.map rf) (k := 2) (by decide) (by simp)
  rw [show (-(2 : Int)) = -((2 : Nat) : Int) from rfl, h]
  simp
section
variable {P : Program} {w : World} {K : PySem.W.Frag} {mg : Str → Option Value} {base : Heap}
/-! ### least_at -/
def spLeast : Sp := fun vs H Q _ => ∃ (l : Addr) (S : List Ln) (x : Int), vs = [.ref l, .int x] ∧ H l = some (.lst (S.reverse.map rf)) ∧ (∀ t ∈ S, TupAt H t) ∧ Good S ∧ S ≠ [] ∧ x.natAbs < 2 ^ 100 ∧ ∀ m, (∃ t ∈ S, val t x = m) → (∀ t ∈ S, m ≤ val t x) → Q (.int m) H
theorem scLeast : FnScope ["block", "x", "low", "high", "middle"] ["block", "x"] (defScope sLeastAt) := ⟨rfl, rfl, rfl, by decide +kernel, rfl, by decide +kernel, by decide +kernel⟩
theorem ok_least (T : Tx K mg base) : FO P w K mg base 2 ("least_at", none) ["block", "x"] spLeast := by
  have G : FO P w K mg base 1 ("value_at", none) ["line", "x"] spVal := ok_val T
  refine fo_mk (T.sd.def_ 18 (d := OB.mk ("least_at", none) "least_at" sLeastAt "least_at")) scLeast (fun vs H Q E h => ?_) (fun _ _ _ _ _ _ us hl => match us, hl with | [_, _], _ => rfl) (fun A outer s H vs Q E hr h => ?_)
  · obtain ⟨l, S, x, rfl, _⟩ := h
    rfl
  · obtain ⟨l, S, x, rfl, hl, hS, hg, hne, hx, q⟩ := h
    have gv := T.glo "value_at"
    refine ⟨_, pss_cons (ps_par (i := 2) (j := 3) rfl scLeast.nd rfl rfl (by decide) rfl rfl (pa_cons pe_int (pa_cons (pe_op op_sub (pe_callB call_len_seq (by rfl) (T.bi "len") PySem.boot_len (pa_cons (pv 0) pa_nil)) pe_int) pa_nil)) (by rfl))
      (pss_cons (ps_while PassesOwn.never (pt_cmpR op_lt (pv 2) (pv 3) (nomark _))
        (pss_cons (ps_set (i := 4) scLeast.nd rfl (Or.inl rfl) (pe_op op_fdiv (pe_op op_add (pv 2) (pv 3)) pe_int))
          (pss_one (ps_if (pt_cmpR op_ge (pe_fo G hr rfl gv (pa_cons (pe_ix ix_list (pv 0) (pv 4) (fun _ _ => rfl)) (pa_cons (pv 1) pa_nil))) (pe_fo G hr rfl gv (pa_cons (pe_ix ix_list (pv 0) (pe_op op_add (pv 4) pe_int) (fun _ _ => rfl)) (pa_cons (pv 1) pa_nil))) (nomark _))
            (pss_one (ps_set (i := 2) scLeast.nd rfl (Or.inl rfl) (pe_op op_add (pv 4) pe_int))) (pss_one (ps_set (i := 3) scLeast.nd rfl (Or.inl rfl) (pv 4)))))))
      (pss_one (ps_ret (pe_fo G hr rfl gv (pa_cons (pe_ix ix_list (pv 0) (pv 2) (fun _ _ => rfl)) (pa_cons (pv 1) pa_nil)))))), ?_⟩
    have hpos : 0 < S.length := List.length_pos_iff.mpr hne
    have at_ : ∀ i, i < S.length → ∃ t, S.reverse[i]? = some t ∧ t ∈ S := fun i hi => by
      have h : i < S.reverse.length := by simpa using hi
      exact ⟨S.reverse[i], List.getElem?_eq_getElem h, List.mem_reverse.mp (List.getElem_mem h)⟩
    let F : Nat → Int := fun i => match S.reverse[i]? with | some t => val t x | none => 0
    have hF : ∀ i t, S.reverse[i]? = some t → F i = val t x := fun i t e => by
      show (match S.reverse[i]? with | some t => val t x | none => 0) = val t x
      rw [e]
    have cv := good_conv hg x F hF
    have lk : ∀ i t, S.reverse[i]? = some t → (S.reverse.map rf)[i]? = some (rf t) := fun i t e => by
      rw [List.getElem?_map, e]
      rfl
    refine ⟨_, rfl, l, _, rfl, .inl (SqL.of hl), _, _, rfl, rfl, _, _, rfl, ?_⟩
    refine while_by (fun σ H' => ∃ (lo hi : Nat) (v : Option V), σ = [some (.ref l), some (.int x), some (.int lo), some (.int hi), v] ∧ H' = H ∧ Srch F S.length lo hi) (fun σ _ => match σ with | [_, _, some (.int lo), some (.int hi), _] => (hi - lo).toNat | _ => 0)
      ⟨0, S.length - 1, none, ?_, rfl, Srch.start hpos⟩ ?_ (tTest_mono tVar_mono tVar_mono rI0_mono)
    · show [some (V.ref l), some (V.int x), some (V.int 0), some (V.int (((S.reverse.map rf).length : Int) - 1)), none] = _
      rw [List.length_map, List.length_reverse]
      have e : ((S.length : Int) - 1) = ((S.length - 1 : Nat) : Int) := by omega
      rw [e]
      rfl
    · rintro σ H' ⟨lo, hi, v, rfl, rfl, cs⟩
      refine ⟨_, rfl, _, rfl, _, _, rfl, rfl, _, rfl, ?_⟩
      refine ite2 (fun c => ?_) (fun c => ?_)
      · have c' : (lo : Int) < hi := of_decide_eq_true c
        have hlt := cs.lt
        obtain ⟨t1, e1, m1⟩ := at_ ((lo + hi) / 2) (by omega)
        obtain ⟨t2, e2, m2⟩ := at_ ((lo + hi) / 2 + 1) (by omega)
        refine ⟨_, rfl, _, rfl, _, _, rfl, rfl, _, _, rfl, rfl, (by show (0 : Int) < 2 ∧ (2 : Int) < 1073741824; decide), ?_⟩
        refine ⟨_, rfl, _, rfl, l, _, _, rf t1, rfl, rfl, SqL.of hl, at_of (mid_eq lo hi) (lk _ _ e1), _, rfl, t1, x, rfl, hS t1 m1, hx, ?_⟩
        refine ⟨_, rfl, _, rfl, _, _, rfl, rfl, l, _, _, rf t2, rfl, rfl, SqL.of hl, at_of (j := (lo + hi) / 2 + 1) (by omega) (lk _ _ e2), _, rfl, t2, x, rfl, hS t2 m2, hx, ?_⟩
        refine ⟨_, _, rfl, rfl, _, rfl, ?_⟩
        refine ite2 (fun d => ?_) (fun d => ?_)
        · have d' : F ((lo + hi) / 2 + 1) ≤ F ((lo + hi) / 2) := by
            rw [hF _ _ e1, hF _ _ e2]
            exact of_decide_eq_true d
          refine ⟨_, rfl, _, _, rfl, rfl, ⟨(lo + hi) / 2 + 1, hi, some (.int (((lo : Int) + hi) / 2)), ?_, rfl, cs.up cv (by omega) (by omega) d'⟩, ?_⟩
          · show [some (V.ref l), some (V.int x), some (V.int (((lo : Int) + hi) / 2 + 1)), some (V.int (hi : Int)), some (V.int (((lo : Int) + hi) / 2))] = _
            rw [mid_eq]
            rfl
          · show ((hi : Int) - (((lo : Int) + hi) / 2 + 1)).toNat < ((hi : Int) - lo).toNat
            omega
        · have d' : ¬ F ((lo + hi) / 2 + 1) ≤ F ((lo + hi) / 2) := by
            rw [hF _ _ e1, hF _ _ e2]
            exact fun z => d (decide_eq_true z)
          refine ⟨_, rfl, ⟨lo, (lo + hi) / 2, some (.int (((lo : Int) + hi) / 2)), ?_, rfl, cs.down cv (by omega) (by omega) d'⟩, ?_⟩
          · show [some (V.ref l), some (V.int x), some (V.int (lo : Int)), some (V.int (((lo : Int) + hi) / 2)), some (V.int (((lo : Int) + hi) / 2))] = _
            rw [mid_eq]
          · show ((((lo : Int) + hi) / 2) - lo).toNat < ((hi : Int) - lo).toNat
            omega
      · have c' : ¬ (lo : Int) < hi := fun z => c (decide_eq_true z)
        have e : lo = hi := by
          have := cs.le
          omega
        subst e
        have hlt := cs.lt
        obtain ⟨t1, e1, m1⟩ := at_ lo hlt
        refine ⟨_, rfl, _, rfl, l, _, _, rf t1, rfl, rfl, SqL.of hl, atI_nat (lk _ _ e1), _, rfl, t1, x, rfl, hS t1 m1, hx, ?_⟩
        refine q _ ⟨t1, m1, rfl⟩ fun t ht => ?_
        obtain ⟨j, hj, ej⟩ := List.mem_iff_getElem.mp (List.mem_reverse.mpr ht)
        have z := cs.least j (by simpa using hj)
        rw [hF _ _ e1, hF j t (by rw [List.getElem?_eq_getElem hj, ej])] at z
        exact z
end
end OB
namespace OB
open PySem PySem.Spec PyProof.Rows L2 LamX NdefX
/-! ### the tables' facts, by the def -/
theorem mem_tbs {K : PySem.W.Frag} {p : He.Defn} {q : Str} (h : (p, q) ∈ tf.zip tqual) : ((He.cT K p).2, lq q) ∈ Tbs K := List.mem_map.mpr ⟨(p, q), h, rfl⟩
theorem tb_lines : (((("lines_block" : Str), (none : Option Str)) : He.Defn), ("lines_block" : Str)) ∈ tf.zip tqual := by decide +kernel
theorem tb_ask : (((("Blocks" : Str), some ("ask_rows" : Str)) : He.Defn), ("Asked.ask_rows" : Str)) ∈ tf.zip tqual := by decide +kernel
theorem tb_add : (((("Blocks" : Str), some ("add" : Str)) : He.Defn), ("Blocks.add" : Str)) ∈ tf.zip tqual := by decide +kernel
theorem tb_lc : (((("_law_counts" : Str), (none : Option Str)) : He.Defn), ("_law_counts" : Str)) ∈ tf.zip tqual := by decide +kernel
theorem tb_ll : (((("_law_lines" : Str), (none : Option Str)) : He.Defn), ("_law_lines" : Str)) ∈ tf.zip tqual := by decide +kernel
theorem tf_of {p : He.Defn} {q : Str} (h : (p, q) ∈ tf.zip tqual) : p ∈ tf := (List.of_mem_zip h).1
/-! ### the data of found != [] -/
abbrev dLn (t : Ln) : PyData := .tuple [.int t.2.1, .int t.2.2]
theorem dp_lines {K : PySem.W.Frag} {H : Hp} : ∀ {S : List Ln}, (∀ t ∈ S, TupAt H t) → DpAll K H (S.map rf) (S.map dLn)
  | [], _ => .nil
  | t :: S, h => .cons (.tup (SqT.of (h t (by simp)).1) (.cons (.int _) (.cons (.int _) .nil))) (dp_lines fun u hu => h u (by simp [hu]))
theorem shaped_lines (S : List Ln) : SeqAt.shaped (.list (S.map dLn)) = true := by
  have h1 : ∀ S : List Ln, PyData.canLayAll0 (S.map dLn) = true := fun S => by
    induction S with
    | nil => rfl
    | cons t S ih =>
      show (PyData.canLay0 (dLn t) && PyData.canLayAll0 (S.map dLn)) = true
      rw [ih]
      rfl
  have h2 : ∀ S : List Ln, PyData.depthAll (S.map dLn) ≤ 1 := fun S => by
    induction S with
    | nil => exact Nat.zero_le _
    | cons t S ih =>
      show max (PyData.depth (dLn t)) (PyData.depthAll (S.map dLn)) ≤ 1
      have e : PyData.depth (dLn t) = 1 := by simp [PyData.depth, PyData.depthAll]
      rw [e]
      omega
  unfold SeqAt.shaped
  rw [Bool.and_eq_true, decide_eq_true_eq]
  refine ⟨h1 S, ?_⟩
  show PyData.depthAll (S.map dLn) + 1 ≤ 64
  have := h2 S
  omega
theorem eqv_lines (S : List Ln) : PyData.eqv (.list (S.map dLn)) (.list []) = S.isEmpty := by
  cases S <;> rfl
section
variable {P : Program} {w : World} {K : PySem.W.Frag} {mg : Str → Option Value} {base : Heap}
/-! ### lines_block -/
def lamLF (q : Str) (e : Expr) (c : Addr) : LF := match e with
  | .Lambda a b sc _ => ⟨q, a, b, sc, c⟩
  | _ => ⟨q, keyParams ⟨0, 0, 0, 0⟩, e, keyScope, c⟩
def kwLam : Expr := match defBody sLinesBlock with
  | [_, .For _ (.Call _ _ [⟨_, v, _⟩] _) _ _ _, _] => v
  | _ => .Constant .none 0 ⟨0, 0, 0, 0⟩
abbrev keyLF : Addr → LF := lamLF (lq "lines_block") kwLam
theorem cr_key {X : Cx} (hr : Room 3 X.A) : CallRK X (.builtin "sorted") [Str.ofString "key"] (rSortK X.K keyLF) :=
  cr_sortKey (pp := ⟨173, 41, 173, 45⟩) (p1 := ⟨173, 49, 173, 53⟩) (p2 := ⟨173, 54, 173, 55⟩) (p3 := ⟨173, 49, 173, 56⟩) (p4 := ⟨173, 48, 173, 56⟩) (p5 := ⟨173, 58, 173, 62⟩) (p6 := ⟨173, 63, 173, 64⟩) (p7 := ⟨173, 58, 173, 65⟩) (p8 := ⟨173, 47, 173, 66⟩) (fun _ => rfl) (fun _ => rfl) (fun _ => rfl) (fun _ => rfl) hr
def spLB (K : PySem.W.Frag) : Sp := fun vs H Q _ => ∃ (l : Addr) (ts : List Ln), vs = [.ref l] ∧ H l = some (.lst (ts.map rf)) ∧ (∀ t ∈ ts, TupAt H t) ∧ ts ≠ [] ∧ ts.length < 64 ∧ Tabs (Tbs K) H ∧
  ∀ (S : List Ln) (p : Addr) (H' : Hp), ExtN H H' → Tabs (Tbs K) H' → H p = none → H' p = some (.lst (S.reverse.map rf)) → Good S → (∀ t ∈ S, t ∈ ts) → Cov S ts → S ≠ [] → Q (.ref p) H'
theorem scLB : FnScope ["lines", "found", "line"] ["lines"] (defScope sLinesBlock) := ⟨rfl, rfl, rfl, by decide +kernel, rfl, by decide +kernel, by decide +kernel⟩
theorem TupAt.ext {H H' : Hp} {t : Ln} (h : TupAt H t) (e : ExtN H H') : TupAt H' t := ⟨e _ _ h.1 (fun _ z => nomatch z), h.2⟩
theorem take_snoc {α : Type} {l : List α} {i : Nat} {x : α} (h : l[i]? = some x) : l.take (i + 1) = l.take i ++ [x] := by
  obtain ⟨h1, e⟩ := List.getElem?_eq_some_iff.mp h
  rw [List.take_succ, h]
  rfl
theorem pw_take {l : List Ln} (p : l.Pairwise ordL) {i : Nat} {x : Ln} (h : l[i]? = some x) : ∀ y ∈ l.take i, ordL y x := fun y hy => by
  obtain ⟨j, hj, e⟩ := List.mem_iff_getElem.mp hy
  have hj' : j < i := by
    have := hj
    rw [List.length_take] at this
    omega
  obtain ⟨hi, ei⟩ := List.getElem?_eq_some_iff.mp h
  rw [List.getElem_take] at e
  rw [← e, ← ei]
  exact List.pairwise_iff_getElem.mp p j i (by omega) hi hj'
theorem ok_lb (T : Tx K mg base) : FO P w K mg base 4 ("lines_block", none) ["lines"] (spLB K) := by
  have G : FO P w K mg base 1 ("is_hidden", none) ["one", "two", "three"] spHid := ok_hid T
  refine fo_mk (T.sd.def_ 16 (d := OB.mk ("lines_block", none) "lines_block" sLinesBlock "lines_block")) scLB (fun vs H Q E h => ?_) (fun _ _ _ _ _ _ us hl => match us, hl with | [_], _ => rfl) (fun A outer s H vs Q E hr h => ?_)
  · obtain ⟨l, ts, rfl, _⟩ := h
    rfl
  · obtain ⟨l, ts, rfl, hl, hts, hne, hz, hT, q⟩ := h
    have gh := T.glo "is_hidden"
    have hlen := T.bi "len"
    have u64 := hr.units
    have hr1 : Room 1 _ := hr.mono (by decide)
    refine ⟨_, pss_cons (ps_set (i := 1) scLB.nd rfl (Or.inl rfl) (pe_lst pa_nil))
      (pss_cons (ps_for PassesOwn.never rfl (pi_list (pe_callBK (cr_key hr) (by rfl) (T.bi "sorted") (by decide +kernel) (pa_cons (pv 0) pa_nil)
          (pk_cons (pe_lamV (T := Tbs K) (T.tb _ (tf_of tb_lines)) rfl (mem_tbs tb_lines) (tt_uniq (ex_parts T).2.2.2 (mem_tbs tb_lines))) pk_nil))) (pg_name (i := 2) scLB.nd rfl (Or.inl rfl))
        (pss_cons (ps_if (PW.pt (pw_and (pt_cmpR (op_neD u64) (pv 1) (pe_lst pa_nil) (nomark _)) (pw_and1 (pt_cmpR op_eq (pe_ix ix_tup (pe_ix ix_list (pv 1) (pe_un un_neg pe_int) (fun _ _ => rfl)) pe_int (fun _ _ => rfl)) (pe_ix ix_tup (pv 2) pe_int (fun _ _ => rfl)) (nomark _)))))
          (pss_one ps_continue) pss_nil)
        (pss_cons (ps_while PassesOwn.never (PW.pt (pw_and (pt_cmpR op_ge (pe_callB call_len_seq (by rfl) hlen PySem.boot_len (pa_cons (pv 1) pa_nil)) pe_int (nomark _))
            (pw_and1 (pt_val (pe_fo G hr1 rfl gh (pa_cons (pe_ix ix_list (pv 1) (pe_un un_neg pe_int) (fun _ _ => rfl)) (pa_cons (pe_ix ix_list (pv 1) (pe_un un_neg pe_int) (fun _ _ => rfl)) (pa_cons (pv 2) pa_nil))))))))
          (pss_one (ps_expr (pe_bm0 PySem.F.plainAttrs_list PySem.F.slot_list_pop PySem.F.type_list_pop mt_pop (pv 1)))))
        (pss_one (ps_expr (pe_bm PySem.F.plainAttrs_list PySem.F.slot_list_append PySem.F.type_list_append mt_append (pv 1) (pa_cons (pv 2) pa_nil)))))))
      (pss_one (ps_ret (pv 1)))), ?_⟩
    refine ⟨Nat.zero_le _, fun fl hfl => ?_⟩
    -- sorted(lines, key=..)
    have hl1 : upd H fl (.lst []) l = some (.lst (ts.map rf)) := (upd_ne (ne_of_none hl hfl)).trans hl
    have E1 : ExtN H (upd H fl (.lst [])) := ExtN.of fun b o e => (upd_ne (ne_of_none e hfl)).trans e
    have T1 : Tabs (Tbs K) (upd H fl (.lst [])) := hT.ext fun b o e => (upd_ne (ne_of_none e hfl)).trans e
    refine ⟨_, rfl, T1, fun f c' H2 e2 T2 f0 f1 c1 => ?_⟩
    have lne : ∀ (xs : List V) (ps : Array Value), HO.lst xs ≠ .tbl ps := fun _ _ z => nomatch z
    refine ⟨l, f, c', ts, rfl, rfl, SqL.of (e2 _ _ hl1 (lne _)), fun t ht => e2 _ _ (E1 _ _ (hts t ht).1 fun _ z => nomatch z) (fun _ z => nomatch z), f1, c1, fun ts' p pm pw hp => ?_⟩
    have nfp : fl ≠ p := ne_of_none (e2 _ _ upd_same (lne _)) hp
    have mts : ∀ t ∈ ts', t ∈ ts := fun t ht => pm.mem_iff.mp ht
    have hb3 : ∀ b o, H2 b = some o → upd H2 p (.lst (ts'.map rf)) b = some o := fun b o e => (upd_ne (ne_of_none e hp)).trans e
    obtain ⟨Hb, eHb⟩ : ∃ Hb, Hb = upd H2 p (.lst (ts'.map rf)) := ⟨_, rfl⟩
    rw [← eHb] at hb3
    have hbp : Hb p = some (.lst (ts'.map rf)) := by rw [eHb, upd_same]
    have hbf : Hb fl = some (.lst []) := hb3 _ _ (e2 _ _ upd_same (lne _))
    have hbt : ∀ t ∈ ts', TupAt Hb t := fun t ht => ⟨hb3 _ _ (e2 _ _ (E1 _ _ (hts t (mts t ht)).1 fun _ z => nomatch z) fun _ z => nomatch z), (hts t (mts t ht)).2⟩
    show ∃ a, V.ref p = V.ref a ∧ (∃ xs, SqL K (upd H2 p (.lst (ts'.map rf))) a xs) ∧ _
    rw [← eHb]
    have tfl : ∀ {H' : Hp}, (∀ b o, Hb b = some o → b ≠ fl → H' b = some o) → ∀ t ∈ ts', TupAt H' t := fun {H'} R t ht => ⟨R _ _ (hbt t ht).1 (ne_of (hbt t ht).1 hbf (fun z => nomatch z)), (hbt t ht).2⟩
    refine ⟨p, rfl, ⟨_, SqL.of hbp⟩, for_list (K := K) (a := p) (xs := ts'.map rf) (fun i σ H' => ∃ (S : List Ln) (v : Option V), σ = [some (.ref l), some (.ref fl), v] ∧ (∀ b o, Hb b = some o → b ≠ fl → H' b = some o) ∧ H' fl = some (.lst (S.reverse.map rf)) ∧ HullAt S (ts'.take i) ∧ S.length ≤ i)
      ⟨[], none, rfl, fun _ _ e _ => e, hbf, HullAt.nil, Nat.le_refl _⟩ (fun i σ H' _ ⟨S, v, _, R, _, _, _⟩ => SqL.of (R _ _ hbp nfp.symm)) ?_ ?_⟩
    · rintro i y σ H' hi ⟨S, v, rfl, R, hf, hh, hlenS⟩
      obtain ⟨t, et, rfl⟩ : ∃ t, ts'[i]? = some t ∧ y = rf t := by
        rw [List.getElem?_map] at hi
        cases e : ts'[i]? with
        | none =>
          rw [e] at hi
          cases hi
        | some t =>
          rw [e] at hi
          exact ⟨t, rfl, (Option.some.inj hi).symm⟩
      have ht : t ∈ ts' := List.mem_of_getElem? et
      have od := pw_take pw et
      have hS : ∀ u ∈ S, u ∈ ts' := fun u hu => List.mem_of_mem_take (hh.sub u hu)
      -- found != []
      refine ⟨_, rfl, Nat.zero_le _, fun q1 hq1 => ?_⟩
      have hq2 : ∀ b o, H' b = some o → upd H' q1 (.lst []) b = some o := fun b o e => (upd_ne (ne_of_none e hq1)).trans e
      obtain ⟨H4, eH4⟩ : ∃ H4, H4 = upd H' q1 (.lst []) := ⟨_, rfl⟩
      rw [← eH4] at hq2 ⊢
      have R4 : ∀ b o, Hb b = some o → b ≠ fl → H4 b = some o := fun b o e n => hq2 _ _ (R b o e n)
      have hf4 : H4 fl = some (.lst (S.reverse.map rf)) := hq2 _ _ hf
      have t4 := tfl R4
      -- the rest of the turn, if the line is not left out
      have app : ∀ (D : Ends) (S5 : List Ln) (H5 : Hp), (∀ b o, Hb b = some o → b ≠ fl → H5 b = some o) → H5 fl = some (.lst (S5.reverse.map rf)) → PopAt t S5 (ts'.take i) → (∀ t0 o r, S5 = t0 :: o :: r → ¬ hid o t0 t) → S5.length ≤ i →
          (∀ (S : List Ln) (v : Option V) (H' : Hp), (∀ b o, Hb b = some o → b ≠ fl → H' b = some o) → H' fl = some (.lst (S.reverse.map rf)) → HullAt S (ts'.take (i + 1)) → S.length ≤ i + 1 → D.nx [some (.ref l), some (.ref fl), v] H') →
          tDrop (tBM K "list" rAppend (tVar 1) (tCons (tVar 2) tNil)) D [some (.ref l), some (.ref fl), some (rf t)] H5 := fun D S5 H5 R5 hf5 pa n5 l5 k => by
        refine ⟨_, rfl, .inl ⟨rfl, _, SqL.of hf5⟩, _, rfl, fl, _, _, rfl, rfl, hf5, ?_, ?_⟩
        · rw [List.length_map, List.length_reverse]
          have hi64 : i < ts'.length := (List.getElem?_eq_some_iff.mp et).1
          have := pm.length_eq
          exact small1000 (by omega)
        · refine k (t :: S5) _ _ (fun b o e n => (upd_ne n).trans (R5 b o e n)) ?_ ?_ (by simpa using l5)
          · rw [upd_same, List.reverse_cons, List.map_append]
            rfl
          · rw [take_snoc et]
            exact pa.done n5
      have go : ∀ D : Ends, (∀ t0 r, S = t0 :: r → t0.2.1 ≠ t.2.1) →
          (∀ (S : List Ln) (v : Option V) (H' : Hp), (∀ b o, Hb b = some o → b ≠ fl → H' b = some o) → H' fl = some (.lst (S.reverse.map rf)) → HullAt S (ts'.take (i + 1)) → S.length ≤ i + 1 → D.nx [some (.ref l), some (.ref fl), v] H') →
          tSeq (tWhile (tAnd (tTest (tOp (rI0 fun i j => .bl (decide (j ≤ i))) (tCB (fun xs H Q => ∃ p ys, xs = [V.ref p] ∧ (SqL K H p ys ∨ SqT K H p ys) ∧ Q (.int ys.length) H) (tCons (tVar 1) tNil)) (tC (.int 2))))
            (tB (tCall spHid [] E0 (tCons (tOp (rIxL K) (tVar 1) (tUn (rU fun i => .int (-i)) (tC (.int 2)))) (tCons (tOp (rIxL K) (tVar 1) (tUn (rU fun i => .int (-i)) (tC (.int 1)))) (tCons (tVar 2) tNil)))))) (tDrop (tBM0 K "list" rPop (tVar 1))))
          (tDrop (tBM K "list" rAppend (tVar 1) (tCons (tVar 2) tNil))) D [some (.ref l), some (.ref fl), some (rf t)] H4 := fun D hn k => by
        refine while_by (fun σ H' => ∃ S : List Ln, σ = [some (.ref l), some (.ref fl), some (rf t)] ∧ (∀ b o, Hb b = some o → b ≠ fl → H' b = some o) ∧ H' fl = some (.lst (S.reverse.map rf)) ∧ PopAt t S (ts'.take i) ∧ S.length ≤ i)
          (fun _ H' => match H' fl with | some (.lst xs) => xs.length | _ => 0) ⟨S, rfl, R4, hf4, hh.enter od hn, hlenS⟩ ?_ ?_
        · rintro σ H5 ⟨S5, rfl, R5, hf5, pa, l5⟩
          refine ⟨_, rfl, fl, _, rfl, .inl (SqL.of hf5), _, _, rfl, rfl, _, rfl, ?_⟩
          refine ite2 (fun c => ?_) (fun c => ?_)
          · have c' : (2 : Int) ≤ ((S5.reverse.map rf).length : Nat) := of_decide_eq_true c
            obtain ⟨t0, o, r, rfl⟩ : ∃ t0 o r, S5 = t0 :: o :: r := by
              match S5, c' with
              | [], c' => simp at c'
              | [_], c' => simp at c'
              | t0 :: o :: r, _ => exact ⟨t0, o, r, rfl⟩
            have t5 := tfl R5
            have m0 : t0 ∈ ts' := List.mem_of_mem_take (pa.sub t0 (by simp))
            have m1 : o ∈ ts' := List.mem_of_mem_take (pa.sub o (by simp))
            refine ⟨_, rfl, _, rfl, fl, _, -2, rf o, rfl, rfl, SqL.of hf5, at_last2 t0 o r, _, rfl, _, rfl, fl, _, -1, rf t0, rfl, rfl, SqL.of hf5, at_last t0 (o :: r), _, rfl, o, t0, t, rfl, t5 o m1, t5 t0 m0, t5 t ht, _, rfl, ?_⟩
            refine ite2 (fun d => ?_) (fun d => ?_)
            · have d' : hid o t0 t := of_decide_eq_true d
              refine ⟨_, rfl, .inl ⟨rfl, _, SqL.of hf5⟩, fl, _, rf t0, rfl, rfl, hf5, ?_, ⟨o :: r, rfl, fun b o e n => (upd_ne n).trans (R5 b o e n), ?_, pa.pop d', ?_⟩, ?_⟩
              · simp
              · rw [upd_same]
                simp
              · simp at l5 ⊢
                omega
              · rw [upd_same, hf5]
                simp
            · exact app D _ H5 R5 hf5 pa (fun t0' o' r' e => by
                cases e
                exact fun z => d (decide_eq_true z)) l5 k
          · exact app D _ H5 R5 hf5 pa (fun t0 o r e => by
              subst e
              exact fun _ => c (decide_eq_true (by simp; omega))) l5 k
        · exact mon_and (mon_test (mon_op (mon_cb (mon_cons mon_var mon_nil) fun vs H Q Q' m ⟨p, ys, a, b, c⟩ => ⟨p, ys, a, b, m _ _ c⟩) mon_c mon_rI0)) (mon_b (mon_call (mon_cons (mon_op mon_var (mon_un mon_c) mon_ixL) (mon_cons (mon_op mon_var (mon_un mon_c) mon_ixL) (mon_cons mon_var mon_nil))) fun vs H Q Q' m ⟨a, b, c, e1, e2, e3, e4, e5⟩ => ⟨a, b, c, e1, e2, e3, e4, m _ _ e5⟩))
      have fin : ∀ (S : List Ln) (v : Option V) (H' : Hp), (∀ b o, Hb b = some o → b ≠ fl → H' b = some o) → H' fl = some (.lst (S.reverse.map rf)) → HullAt S (ts'.take (i + 1)) → S.length ≤ i + 1 →
          ∃ (S0 : List Ln) (v0 : Option V), [some (V.ref l), some (V.ref fl), v] = [some (.ref l), some (.ref fl), v0] ∧ (∀ b o, Hb b = some o → b ≠ fl → H' b = some o) ∧ H' fl = some (.lst (S0.reverse.map rf)) ∧ HullAt S0 (ts'.take (i + 1)) ∧ S0.length ≤ i + 1 := fun S v H' a b c d => ⟨S, v, rfl, a, b, c, d⟩
      refine ⟨.list (S.reverse.map dLn), .list [], .lst (SqL.of hf4) (dp_lines fun u hu => t4 u (hS u (List.mem_reverse.mp hu))), .lst (SqL.of (by rw [eH4, upd_same])) .nil, shaped_lines _, shaped_lines [], _, rfl, ?_⟩
      rw [eqv_lines]
      cases S with
      | nil => exact iteF (iteF (go _ (fun _ _ e => nomatch e) fin))
      | cons t0 r =>
        have ne : (!(t0 :: r).reverse.isEmpty) = true := by simp
        rw [ne]
        refine iteT ?_
        have m0 := hS t0 (by simp)
        refine ⟨_, rfl, _, rfl, fl, _, -1, rf t0, rfl, rfl, SqL.of hf4, at_last t0 r, _, _, _, .int t0.2.1, rfl, rfl, SqT.of (t4 t0 m0).1, atI_nat (j := 0) rfl, _, rfl, _, _, _, .int t.2.1, rfl, rfl, SqT.of (t4 t ht).1, atI_nat (j := 0) rfl, rfl, _, rfl, ?_⟩
        by_cases c : t0.2.1 = t.2.1
        · rw [show decide (V.int t0.2.1 = V.int t.2.1) = true from decide_eq_true (by rw [c])]
          refine iteT (fin (t0 :: r) _ _ R4 hf4 ?_ (Nat.le_succ_of_le hlenS))
          rw [take_snoc et]
          exact hh.skip od c
        · rw [show decide (V.int t0.2.1 = V.int t.2.1) = false from decide_eq_false (fun z => c (V.int.inj z))]
          exact iteF (go _ (fun t1 r1 e => by
            cases e
            exact c) fin)
    · rintro σ H' ⟨S, v, rfl, R, hf, hh, _⟩
      have el : ts'.take (ts'.map rf).length = ts' := by
        rw [List.length_map]
        exact List.take_length
      rw [el] at hh
      have ne' : ts' ≠ [] := fun z => hne (by
        subst z
        exact List.Perm.nil_eq pm ▸ rfl)
      refine ⟨_, rfl, q S fl H' (fun b o e n => R _ _ (hb3 _ _ (e2 _ _ (E1 _ _ e n) n)) (ne_of_none e hfl)) ?_ hfl hf hh.good (fun u hu => mts u (hh.sub u hu)) (fun x y hy => hh.cov x y (pm.mem_iff.mpr hy)) (hh.ne ne')⟩
      intro a ha
      obtain ⟨ps, a1, a2, a3⟩ := T2 a ha
      have nt : a.1 ≠ fl := ne_of (hb3 _ _ a1) hbf (fun z => nomatch z)
      refine ⟨ps, R _ _ (hb3 _ _ a1) nt, a2, fun pos cv hc => ?_⟩
      obtain ⟨c0, b1, b2⟩ := a3 pos cv hc
      exact ⟨c0, b1, R _ _ (hb3 _ _ b2) (ne_of (hb3 _ _ b2) hbf (fun z => by unfold CodeO at z; cases z))⟩
end
end OB
namespace OB
open PySem PySem.Spec PyProof.Rows L2 LamX NdefX
inductive Kd where
  | c | l
  deriving DecidableEq
inductive LI where
  | bld (κ : Kd) | ask (κ : Kd) | jn (κ : Kd)
/-- a member's value -/
def mV : Kd → Ln → V
  | .c, m => .int m.2.1
  | .l, m => rf m
def MOk : Kd → Hp → Ln → Prop
  | .c, _, _ => True
  | .l, H, m => TupAt H m
/-- what a block holds of its members -/
def BlkAt : Kd → Hp → Addr → List Ln → Prop
  | .c, H, p, ms => ∃ ns : List Int, H p = some (.lst (ns.map V.int)) ∧ ns.Pairwise (· ≤ ·) ∧ ns.Perm (ms.map fun m => m.2.1)
  | .l, H, p, ms => ∃ S : List Ln, H p = some (.lst (S.reverse.map rf)) ∧ (∀ t ∈ S, TupAt H t) ∧ Good S ∧ (∀ t ∈ S, t ∈ ms) ∧ Cov S ms ∧ S ≠ []
/-- the answer of members to a question -/
def Ans : Kd → Int → List Ln → V → Prop
  | .c, q, ms, v => v = .int (cnt q (ms.map fun m => m.2.1))
  | .l, q, ms, v => (ms = [] ∧ v = .non) ∨ ∃ m, v = .int m ∧ (∃ t ∈ ms, val t q = m) ∧ ∀ t ∈ ms, m ≤ val t q
def zeroV : Kd → V
  | .c => .int 0
  | .l => .non
theorem ans_zero (κ : Kd) (q : Int) : Ans κ q [] (zeroV κ) := by
  cases κ with
  | c => rfl
  | l => exact .inl ⟨rfl, rfl⟩
theorem ans_one {κ : Kd} {q : Int} {ms : List Ln} {v w : V} (h : Ans κ q ms v) (g : Ans κ q ms w) : v = w := by
  cases κ with
  | c => exact h.trans g.symm
  | l =>
    rcases h with ⟨e, rfl⟩ | ⟨m, rfl, ⟨t, ht, et⟩, h2⟩
    · rcases g with ⟨_, rfl⟩ | ⟨m, _, ⟨t, ht, _⟩, _⟩
      · rfl
      · subst e
        cases ht
    · rcases g with ⟨e, _⟩ | ⟨m', rfl, ⟨t', ht', et'⟩, h2'⟩
      · subst e
        cases ht
      · have a := h2 t' ht'
        have b := h2' t ht
        have : m = m' := by omega
        rw [this]
def lessV : V → V → V
  | x, .non => x
  | .non, y => y
  | .int a, .int b => if a ≤ b then .int a else .int b
  | x, _ => x
def NI (x : V) : Prop := x = .non ∨ ∃ a, x = .int a
theorem ans_ni {q : Int} {ms : List Ln} {v : V} (h : Ans .l q ms v) : NI v := by
  rcases h with ⟨_, e⟩ | ⟨m, e, _⟩
  · exact .inl e
  · exact .inr ⟨m, e⟩
theorem ans_join {q : Int} {m1 m2 : List Ln} {x y : V} (h : Ans .l q m1 x) (g : Ans .l q m2 y) : Ans .l q (m1 ++ m2) (lessV x y) := by
  rcases g with ⟨e, rfl⟩ | ⟨b, rfl, ⟨t', ht', et'⟩, h2'⟩
  · subst e
    rw [List.append_nil]
    cases x <;> exact h
  · rcases h with ⟨e, rfl⟩ | ⟨a, rfl, ⟨t, ht, et⟩, h2⟩
    · subst e
      exact .inr ⟨b, rfl, ⟨t', ht', et'⟩, h2'⟩
    · show Ans .l q (m1 ++ m2) (if a ≤ b then .int a else .int b)
      by_cases c : a ≤ b
      · rw [if_pos c]
        refine .inr ⟨a, rfl, ⟨t, List.mem_append.mpr (.inl ht), et⟩, fun u hu => ?_⟩
        rcases List.mem_append.mp hu with z | z
        · exact h2 u z
        · have := h2' u z
          omega
      · rw [if_neg c]
        refine .inr ⟨b, rfl, ⟨t', List.mem_append.mpr (.inr ht'), et'⟩, fun u hu => ?_⟩
        rcases List.mem_append.mp hu with z | z
        · have := h2 u z
          omega
        · exact h2' u z
section
variable {P : Program} {w : World} {K : PySem.W.Frag} {mg : Str → Option Value} {base : Heap}
/-! ### _law_less -/
def spLess : Sp := fun vs H Q _ => ∃ x y, vs = [x, y] ∧ NI x ∧ NI y ∧ Q (lessV x y) H
theorem scLess : FnScope ["_law_one", "_law_other"] ["_law_one", "_law_other"] (defScope sLess) := ⟨rfl, rfl, rfl, by decide +kernel, rfl, by decide +kernel, by decide +kernel⟩
theorem ok_less (T : Tx K mg base) : FO P w K mg base 1 ("_law_less", none) ["_law_one", "_law_other"] spLess := by
  refine fo_mk (T.sd.def_ 23 (d := OB.mk ("_law_less", none) "_law_less" sLess "_law_less")) scLess (fun vs H Q E h => ?_) (fun _ _ _ _ _ _ us hl => match us, hl with | [_, _], _ => rfl) (fun A outer s H vs Q E hr h => ?_)
  · obtain ⟨x, y, rfl, _⟩ := h
    rfl
  · obtain ⟨x, y, rfl, hx, hy, q⟩ := h
    refine ⟨_, pss_one (ps_ret (pe_ifExp (PW.pt (pw_or (pt_cmpR op_isN (pv 1) pe_non (nomark _)) (pw_or1 (PW.pt (pw_and (pt_cmpR op_notN (pv 0) pe_non (nomark _)) (pw_and1 (pt_cmpR op_le (pv 0) (pv 1) (nomark _)))))))) (pv 0) (pv 1))), ?_⟩
    refine ⟨_, rfl, rfl, _, rfl, ?_⟩
    rcases hy with rfl | ⟨b, rfl⟩
    · refine iteT (iteT ⟨_, rfl, ?_⟩)
      cases x <;> exact q
    · refine iteF ⟨_, rfl, rfl, _, rfl, ?_⟩
      rcases hx with rfl | ⟨a, rfl⟩
      · exact iteF (iteF ⟨_, rfl, q⟩)
      · refine iteT ⟨_, rfl, _, rfl, _, _, rfl, rfl, _, rfl, ?_⟩
        have q' : Q (if a ≤ b then .int a else .int b) H := q
        refine ite2 (fun c => ⟨_, rfl, ?_⟩) (fun c => ⟨_, rfl, ?_⟩)
        · rw [if_pos (of_decide_eq_true c)] at q'
          exact q'
        · rw [if_neg (fun z => c (decide_eq_true z))] at q'
          exact q'
/-! ### the lambdas -/
def argAt (st : Stmt) (i : Nat) : Expr := match defBody st with
  | [.Return (some (.Call _ as _ _)) _] => as.getD i (.Constant .none 0 ⟨0, 0, 0, 0⟩)
  | _ => .Constant .none 0 ⟨0, 0, 0, 0⟩
def mkL : LI → Addr → LF
  | .bld .c => lamLF (lq "_law_counts") (argAt sCounts 0)
  | .ask .c => lamLF (lq "_law_counts") (argAt sCounts 1)
  | .jn .c => lamLF (lq "_law_counts") (argAt sCounts 2)
  | .bld .l => lamLF (lq "_law_lines") (argAt sLines 0)
  | .ask .l => lamLF (lq "_law_lines") (argAt sLines 1)
  | .jn .l => lamLF (lq "_law_lines") (argAt sLines 2)
def spL (K : PySem.W.Frag) : LI → Sp
  | .bld κ => fun vs H Q _ => ∃ (l : Addr) (ms : List Ln), vs = [.ref l] ∧ H l = some (.lst (ms.map (mV κ))) ∧ (∀ m ∈ ms, MOk κ H m) ∧ ms ≠ [] ∧ ms.length < 64 ∧ Tabs (Tbs K) H ∧
      ∀ p H', ExtN H H' → Tabs (Tbs K) H' → H p = none → BlkAt κ H' p ms → Q (.ref p) H'
  | .ask κ => fun vs H Q _ => ∃ (p : Addr) (q : Int) (ms : List Ln), vs = [.ref p, .int q] ∧ BlkAt κ H p ms ∧ q.natAbs < 2 ^ 100 ∧ ms.length < 64 ∧ ∀ v, Ans κ q ms v → Q v H
  | .jn κ => fun vs H Q _ => ∃ (q : Int) (m1 m2 : List Ln) (x y : V), vs = [x, y] ∧ Ans κ q m1 x ∧ Ans κ q m2 y ∧ ∀ v, Ans κ q (m1 ++ m2) v → Q v H
theorem l_bc (T : Tx K mg base) : LRun P w K mg base 2 (mkL (.bld .c)) (spL K (.bld .c)) := by
  have G : FO P w K mg base 1 ("sorted_block", none) ["integers"] spSB := ok_sb T
  refine lrun_of (N := ["_law_some"]) (ps := ["_law_some"]) (fun c' => rfl) (nscope_by (by decide +kernel)) (fun pm cdv ctv us hl => match us, hl with | [_], _ => rfl) (fun vs H Q E h => ?_) fun A outer s H vs Q f c' hr h => ?_
  · obtain ⟨l, ms, rfl, _⟩ := h
    rfl
  · obtain ⟨l, ms, rfl, hl, _, hne, hz, hT, q⟩ := h
    refine ⟨_, pe_fo G hr rfl (T.glo "sorted_block") (pa_cons (pv 0) pa_nil), ?_⟩
    refine ⟨_, rfl, l, ms.map (fun m => m.2.1), rfl, ?_, ?_, fun ns' p h1 h2 h3 => ?_⟩
    · rw [hl, List.map_map]
      rfl
    · rw [List.length_map]
      exact hz
    · refine q p _ (ExtN.of fun b o e => (upd_ne (ne_of_none e h3)).trans e) (hT.ext fun b o e => (upd_ne (ne_of_none e h3)).trans e) h3 ⟨ns', upd_same, h2, h1⟩
theorem l_ac (T : Tx K mg base) : LRun P w K mg base 2 (mkL (.ask .c)) (spL K (.ask .c)) := by
  have G : FO P w K mg base 1 ("count_below", none) ["block", "bound"] spCB := ok_cb T
  refine lrun_of (N := ["_law_block", "_law_bound"]) (ps := ["_law_block", "_law_bound"]) (fun c' => rfl) (nscope_by (by decide +kernel)) (fun pm cdv ctv us hl => match us, hl with | [_, _], _ => rfl) (fun vs H Q E h => ?_) fun A outer s H vs Q f c' hr h => ?_
  · obtain ⟨p, q, ms, rfl, _⟩ := h
    rfl
  · obtain ⟨p, q, ms, rfl, ⟨ns, h1, h2, h3⟩, hq, hz, k⟩ := h
    refine ⟨_, pe_fo G hr rfl (T.glo "count_below") (pa_cons (pv 0) (pa_cons (pv 1) pa_nil)), ?_⟩
    have hl : ns.length = ms.length := by rw [h3.length_eq, List.length_map]
    exact ⟨_, rfl, _, rfl, p, ns, q, rfl, h1, h2, by omega, k _ (by rw [cnt_perm h3]; rfl)⟩
theorem l_jc (T : Tx K mg base) : LRun P w K mg base 1 (mkL (.jn .c)) (spL K (.jn .c)) := by
  refine lrun_of (N := ["_law_one", "_law_other"]) (ps := ["_law_one", "_law_other"]) (fun c' => rfl) (nscope_by (by decide +kernel)) (fun pm cdv ctv us hl => match us, hl with | [_, _], _ => rfl) (fun vs H Q E h => ?_) fun A outer s H vs Q f c' hr h => ?_
  · obtain ⟨q, m1, m2, x, y, rfl, _⟩ := h
    rfl
  · obtain ⟨q, m1, m2, x, y, rfl, rfl, rfl, k⟩ := h
    refine ⟨_, pe_op op_add (pv 0) (pv 1), ?_⟩
    refine ⟨_, rfl, _, rfl, _, _, rfl, rfl, k _ ?_⟩
    show V.int _ = V.int _
    rw [List.map_append, cnt_append]
    rfl
theorem l_bl (T : Tx K mg base) : LRun P w K mg base 5 (mkL (.bld .l)) (spL K (.bld .l)) := by
  have G : FO P w K mg base 4 ("lines_block", none) ["lines"] (spLB K) := ok_lb T
  refine lrun_of (N := ["_law_some"]) (ps := ["_law_some"]) (fun c' => rfl) (nscope_by (by decide +kernel)) (fun pm cdv ctv us hl => match us, hl with | [_], _ => rfl) (fun vs H Q E h => ?_) fun A outer s H vs Q f c' hr h => ?_
  · obtain ⟨l, ms, rfl, _⟩ := h
    rfl
  · obtain ⟨l, ms, rfl, hl, hms, hne, hz, hT, q⟩ := h
    refine ⟨_, pe_fo G hr rfl (T.glo "lines_block") (pa_cons (pv 0) pa_nil), ?_⟩
    exact ⟨_, rfl, l, ms, rfl, hl, hms, hne, hz, hT, fun S p H' e1 e2 e3 e4 g1 g2 g3 g4 => q p H' e1 e2 e3 ⟨S, e4, fun t ht => (show TupAt H t from hms t (g2 t ht)).ext e1, g1, g2, g3, g4⟩⟩
theorem l_al (T : Tx K mg base) : LRun P w K mg base 3 (mkL (.ask .l)) (spL K (.ask .l)) := by
  have G : FO P w K mg base 2 ("least_at", none) ["block", "x"] spLeast := ok_least T
  refine lrun_of (N := ["_law_block", "_law_x"]) (ps := ["_law_block", "_law_x"]) (fun c' => rfl) (nscope_by (by decide +kernel)) (fun pm cdv ctv us hl => match us, hl with | [_, _], _ => rfl) (fun vs H Q E h => ?_) fun A outer s H vs Q f c' hr h => ?_
  · obtain ⟨p, q, ms, rfl, _⟩ := h
    rfl
  · obtain ⟨p, q, ms, rfl, ⟨S, h1, h2, h3, h4, h5, h6⟩, hq, hz, k⟩ := h
    refine ⟨_, pe_fo G hr rfl (T.glo "least_at") (pa_cons (pv 0) (pa_cons (pv 1) pa_nil)), ?_⟩
    refine ⟨_, rfl, _, rfl, p, S, q, rfl, h1, h2, h3, h6, hq, fun m ⟨t, ht, et⟩ hm => k _ (.inr ⟨m, rfl, ⟨t, h4 t ht, et⟩, fun u hu => ?_⟩)⟩
    obtain ⟨z, hz, le⟩ := h5 q u hu
    have := hm z hz
    omega
theorem l_jl (T : Tx K mg base) : LRun P w K mg base 2 (mkL (.jn .l)) (spL K (.jn .l)) := by
  have G : FO P w K mg base 1 ("_law_less", none) ["_law_one", "_law_other"] spLess := ok_less T
  refine lrun_of (N := ["_law_one", "_law_other"]) (ps := ["_law_one", "_law_other"]) (fun c' => rfl) (nscope_by (by decide +kernel)) (fun pm cdv ctv us hl => match us, hl with | [_, _], _ => rfl) (fun vs H Q E h => ?_) fun A outer s H vs Q f c' hr h => ?_
  · obtain ⟨q, m1, m2, x, y, rfl, _⟩ := h
    rfl
  · obtain ⟨q, m1, m2, x, y, rfl, hx, hy, k⟩ := h
    refine ⟨_, pe_fo G hr rfl (T.glo "_law_less") (pa_cons (pv 0) (pa_cons (pv 1) pa_nil)), ?_⟩
    exact ⟨_, rfl, _, rfl, x, y, rfl, ans_ni hx, ans_ni hy, k _ (ans_join hx hy)⟩
/-- all six, at one level -/
theorem l_all (T : Tx K mg base) : ∀ i : LI, LRun P w K mg base 5 (mkL i) (spL K i)
  | .bld .c => (l_bc T).mono (by decide)
  | .ask .c => (l_ac T).mono (by decide)
  | .jn .c => (l_jc T).mono (by decide)
  | .bld .l => l_bl T
  | .ask .l => (l_al T).mono (by decide)
  | .jn .l => (l_jl T).mono (by decide)
end
end OB
namespace OB
open PySem PySem.Spec PyProof.Rows L2 LamX NdefX
/-! ### an instance's attributes -/
structure BF where
  kd : Addr
  n : Int
  en : Addr
  b : Bool
  fa : Addr
  fj : Addr
  z : V
  fb : Addr
  rl : Addr
def BF.fs (F : BF) : List (Str × V) := [("kept", .ref F.kd), ("next_number", .int F.n), ("entries", .ref F.en), ("is_busy", .bl F.b), ("asker", .ref F.fa), ("joiner", .ref F.fj), ("zero", F.z), ("builder", .ref F.fb), ("rows", .ref F.rl)]
theorem lk_here {k : Str} {v : V} {r : List (Str × V)} : List.lookup k ((k, v) :: r) = some v := by
  have e : (k == k) = true := beq_self_eq_true k
  simp only [List.lookup, e]
theorem lk_past {k g : Str} {v : V} {r : List (Str × V)} (h : (k == g) = false) : List.lookup k ((g, v) :: r) = List.lookup k r := by
  simp only [List.lookup, h]
theorem put_here {f : Str} {v x : V} {r : List (Str × V)} : putF f v ((f, x) :: r) = (f, v) :: r := if_pos rfl
theorem put_past {f g : Str} {v x : V} {r : List (Str × V)} (h : ¬ g = f) : putF f v ((g, x) :: r) = (g, x) :: putF f v r := if_neg h
theorem put_nil {f : Str} {v : V} : putF f v [] = [(f, v)] := rfl
theorem lk_keys {k : Str} : ∀ {l : List (Str × V)}, k ∉ l.map (·.1) → l.lookup k = none
  | [], _ => rfl
  | (g, v) :: r, h => by
    have h1 : ¬ k = g := fun e => h (by simp [e])
    rw [lk_past (beq_eq_false_iff_ne.mpr h1)]
    exact lk_keys fun m => h (by
      show k ∈ (g :: r.map (·.1))
      exact List.mem_cons_of_mem _ m)
section
variable (F : BF)
theorem BF.keys : F.fs.map (·.1) = fieldNames := rfl
theorem BF.no (m : Str) (h : m ∉ fieldNames := by decide +kernel) : F.fs.lookup m = none := lk_keys (by rw [F.keys]; exact h)
theorem BF.len : F.fs.length < 1000 := by
  show 9 < 1000
  decide
theorem BF.kept : F.fs.lookup ("kept" : Str) = some (.ref F.kd) := lk_here
theorem BF.next : F.fs.lookup ("next_number" : Str) = some (.int F.n) := (lk_past (by decide +kernel)).trans lk_here
theorem BF.entries : F.fs.lookup ("entries" : Str) = some (.ref F.en) := (lk_past (by decide +kernel)).trans ((lk_past (by decide +kernel)).trans lk_here)
theorem BF.busy : F.fs.lookup ("is_busy" : Str) = some (.bl F.b) := (lk_past (by decide +kernel)).trans ((lk_past (by decide +kernel)).trans ((lk_past (by decide +kernel)).trans lk_here))
theorem BF.asker : F.fs.lookup ("asker" : Str) = some (.ref F.fa) := (lk_past (by decide +kernel)).trans ((lk_past (by decide +kernel)).trans ((lk_past (by decide +kernel)).trans ((lk_past (by decide +kernel)).trans lk_here)))
theorem BF.joiner : F.fs.lookup ("joiner" : Str) = some (.ref F.fj) := (lk_past (by decide +kernel)).trans ((lk_past (by decide +kernel)).trans ((lk_past (by decide +kernel)).trans ((lk_past (by decide +kernel)).trans ((lk_past (by decide +kernel)).trans lk_here))))
theorem BF.zero : F.fs.lookup ("zero" : Str) = some F.z := (lk_past (by decide +kernel)).trans ((lk_past (by decide +kernel)).trans ((lk_past (by decide +kernel)).trans ((lk_past (by decide +kernel)).trans ((lk_past (by decide +kernel)).trans ((lk_past (by decide +kernel)).trans lk_here)))))
theorem BF.builder : F.fs.lookup ("builder" : Str) = some (.ref F.fb) := (lk_past (by decide +kernel)).trans ((lk_past (by decide +kernel)).trans ((lk_past (by decide +kernel)).trans ((lk_past (by decide +kernel)).trans ((lk_past (by decide +kernel)).trans ((lk_past (by decide +kernel)).trans ((lk_past (by decide +kernel)).trans lk_here))))))
theorem BF.rows : F.fs.lookup ("rows" : Str) = some (.ref F.rl) := (lk_past (by decide +kernel)).trans ((lk_past (by decide +kernel)).trans ((lk_past (by decide +kernel)).trans ((lk_past (by decide +kernel)).trans ((lk_past (by decide +kernel)).trans ((lk_past (by decide +kernel)).trans ((lk_past (by decide +kernel)).trans ((lk_past (by decide +kernel)).trans lk_here)))))))
theorem BF.put_busy (b : Bool) : putF "is_busy" (.bl b) F.fs = ({ F with b := b } : BF).fs :=
  (put_past (by decide +kernel)).trans (congrArg _ ((put_past (by decide +kernel)).trans (congrArg _ ((put_past (by decide +kernel)).trans (congrArg _ put_here)))))
theorem BF.put_next (n : Int) : putF "next_number" (.int n) F.fs = ({ F with n := n } : BF).fs := (put_past (by decide +kernel)).trans (congrArg _ put_here)
theorem BF.put_rows (rl : Addr) : putF "rows" (.ref rl) F.fs = ({ F with rl := rl } : BF).fs :=
  (put_past (by decide +kernel)).trans (congrArg _ ((put_past (by decide +kernel)).trans (congrArg _ ((put_past (by decide +kernel)).trans (congrArg _ ((put_past (by decide +kernel)).trans (congrArg _ ((put_past (by decide +kernel)).trans (congrArg _ ((put_past (by decide +kernel)).trans (congrArg _ ((put_past (by decide +kernel)).trans (congrArg _ ((put_past (by decide +kernel)).trans (congrArg _ put_here)))))))))))))))
end
/-! ### what stays -/
/-- all that was known and is not in S stays; the tables may grow -/
def Fz (S : Addr → Prop) (H H' : Hp) : Prop := ∀ b o, H b = some o → ¬ S b → (∀ ps, o ≠ .tbl ps) → H' b = some o
theorem Fz.refl (S : Addr → Prop) (H : Hp) : Fz S H H := fun _ _ e _ _ => e
theorem Fz.trans {S : Addr → Prop} {H H1 H2 : Hp} (a : Fz S H H1) (b : Fz S H1 H2) : Fz S H H2 := fun c o e n t => b c o (a c o e n t) n t
theorem Fz.mono {S S' : Addr → Prop} {H H' : Hp} (a : Fz S H H') (h : ∀ b, S b → S' b) : Fz S' H H' := fun c o e n t => a c o e (fun z => n (h c z)) t
theorem Fz.ext {S : Addr → Prop} {H H' : Hp} (e : ExtN H H') : Fz S H H' := fun c o h _ t => e c o h t
theorem Fz.wr {S : Addr → Prop} {H : Hp} {a : Addr} {o : HO} (h : S a) : Fz S H (upd H a o) := fun b u e n _ => (upd_ne (fun z => n (by rw [z]; exact h))).trans e
theorem Fz.new {S : Addr → Prop} {H : Hp} {a : Addr} {o : HO} (h : H a = none) : Fz S H (upd H a o) := fun b u e _ _ => (upd_ne (ne_of_none e h)).trans e
/-- the unchanging things: tuples, functions, the lists of Im -/
def Fix (Im : Addr → Prop) (b : Addr) (o : HO) : Prop := (∃ xs, o = .tup xs) ∨ (∃ xs, o = .lst xs ∧ Im b) ∨ ∃ φ, o = .ext φ
def Kp (Im : Addr → Prop) (H H' : Hp) : Prop := ∀ b o, H b = some o → Fix Im b o → H' b = some o
theorem Kp.refl (Im : Addr → Prop) (H : Hp) : Kp Im H H := fun _ _ e _ => e
theorem Kp.trans {Im : Addr → Prop} {H H1 H2 : Hp} (a : Kp Im H H1) (b : Kp Im H1 H2) : Kp Im H H2 := fun c o e f => b c o (a c o e f) f
theorem Kp.mono {Im Im' : Addr → Prop} {H H' : Hp} (a : Kp Im H H') (h : ∀ b, Im' b → Im b) : Kp Im' H H' := fun c o e f => a c o e (by
  rcases f with f | ⟨xs, e1, e2⟩ | f
  · exact .inl f
  · exact .inr (.inl ⟨xs, e1, h c e2⟩)
  · exact .inr (.inr f))
theorem Fix.not_tbl {Im : Addr → Prop} {b : Addr} {o : HO} (f : Fix Im b o) : ∀ ps, o ≠ .tbl ps := fun ps z => by
  subst z
  rcases f with ⟨xs, e⟩ | ⟨xs, e, _⟩ | ⟨φ, e⟩ <;> cases e
theorem Kp.ext {Im : Addr → Prop} {H H' : Hp} (e : ExtN H H') : Kp Im H H' := fun c o h f => e c o h f.not_tbl
/-- what may be written without touching the unchanging things -/
def Free (Im : Addr → Prop) (H : Hp) (a : Addr) : Prop := ∀ o, H a = some o → ¬ Fix Im a o
theorem Kp.wr {Im : Addr → Prop} {H : Hp} {a : Addr} {o : HO} (h : Free Im H a) : Kp Im H (upd H a o) := fun b u e f => (upd_ne (fun z => h u (by rw [← z]; exact e) (by rw [← z]; exact f))).trans e
theorem free_none {Im : Addr → Prop} {H : Hp} {a : Addr} (h : H a = none) : Free Im H a := fun o e => by rw [h] at e; cases e
theorem free_ins {Im : Addr → Prop} {H : Hp} {a C dx : Addr} {fs : List (Str × V)} (h : H a = some (.ins C dx fs)) : Free Im H a := fun o e => by
  rw [h] at e
  cases e
  rintro (⟨xs, e⟩ | ⟨xs, e, _⟩ | ⟨φ, e⟩) <;> cases e
theorem free_dK {Im : Addr → Prop} {H : Hp} {a : Addr} {kvs : List (Key × V)} (h : H a = some (.dK kvs)) : Free Im H a := fun o e => by
  rw [h] at e
  cases e
  rintro (⟨xs, e⟩ | ⟨xs, e, _⟩ | ⟨φ, e⟩) <;> cases e
theorem free_own {Im : Addr → Prop} {H : Hp} {a x : Addr} (h : H a = some (.own x)) : Free Im H a := fun o e => by
  rw [h] at e
  cases e
  rintro (⟨xs, e⟩ | ⟨xs, e, _⟩ | ⟨φ, e⟩) <;> cases e
theorem free_lst {Im : Addr → Prop} {H : Hp} {a : Addr} {xs : List V} (h : H a = some (.lst xs)) (n : ¬ Im a) : Free Im H a := fun o e => by
  rw [h] at e
  cases e
  rintro (⟨xs, e⟩ | ⟨xs, _, e⟩ | ⟨φ, e⟩)
  · cases e
  · exact n e
  · cases e
theorem Kp.tup {Im : Addr → Prop} {H H' : Hp} (k : Kp Im H H') {b : Addr} {xs : List V} (h : H b = some (.tup xs)) : H' b = some (.tup xs) := k _ _ h (.inl ⟨_, rfl⟩)
theorem Kp.lst {Im : Addr → Prop} {H H' : Hp} (k : Kp Im H H') {b : Addr} {xs : List V} (h : H b = some (.lst xs)) (i : Im b) : H' b = some (.lst xs) := k _ _ h (.inr (.inl ⟨_, rfl, i⟩))
theorem Kp.tupAt {Im : Addr → Prop} {H H' : Hp} (k : Kp Im H H') {t : Ln} (h : TupAt H t) : TupAt H' t := ⟨k.tup h.1, h.2⟩
theorem Kp.mok {Im : Addr → Prop} {H H' : Hp} (k : Kp Im H H') {κ : Kd} {t : Ln} (h : MOk κ H t) : MOk κ H' t := by
  cases κ with
  | c => exact h
  | l => exact k.tupAt h
theorem Kp.blk {Im : Addr → Prop} {H H' : Hp} (k : Kp Im H H') {κ : Kd} {p : Addr} {ms : List Ln} (i : Im p) (h : BlkAt κ H p ms) : BlkAt κ H' p ms := by
  cases κ with
  | c =>
    obtain ⟨ns, h1, h2⟩ := h
    exact ⟨ns, k.lst h1 i, h2⟩
  | l =>
    obtain ⟨S, h1, h2, h3⟩ := h
    exact ⟨S, k.lst h1 i, fun t ht => k.tupAt (h2 t ht), h3⟩
theorem Kp.isLam {Im : Addr → Prop} {H H' : Hp} (k : Kp Im H H') {f : Addr} {i : LI} (h : IsLam mkL H f i) : IsLam mkL H' f i := by
  obtain ⟨c', a, b⟩ := h
  exact ⟨c', k _ _ a (.inr (.inr ⟨_, rfl⟩)), k _ _ b (.inr (.inr ⟨_, rfl⟩))⟩
/-! ### rows -/
def nums (lo n : Nat) : List V := (List.range' lo n).map fun i : Nat => V.int (i : Int)
theorem nums_len (lo n : Nat) : (nums lo n).length = n := by simp [nums]
theorem nums_add (lo a b : Nat) : nums lo a ++ nums (lo + a) b = nums lo (a + b) := by
  unfold nums
  rw [← List.map_append, List.range'_append_1]
inductive RowsAt (Im : Addr → Prop) (H : Hp) (κ : Kd) : Nat → List V → List Ln → Prop where
  | nil (lo : Nat) : RowsAt Im H κ lo [] []
  | cons {lo : Nat} {t nt p : Addr} {vs : List V} {m1 m2 : List Ln} : H t = some (.tup [.ref nt, .ref p]) → H nt = some (.tup (nums lo m1.length)) → Im p → BlkAt κ H p m1 → m1 ≠ [] → RowsAt Im H κ (lo + m1.length) vs m2 → RowsAt Im H κ lo (.ref t :: vs) (m1 ++ m2)
theorem RowsAt.kp {Im : Addr → Prop} {H H' : Hp} {κ : Kd} {lo : Nat} {vs : List V} {ms : List Ln} (r : RowsAt Im H κ lo vs ms) (k : Kp Im H H') : RowsAt Im H' κ lo vs ms := by
  induction r with
  | nil lo => exact .nil lo
  | cons a b c d e _ ih => exact .cons (k.tup a) (k.tup b) c (k.blk c d) e ih
theorem RowsAt.im {Im Im' : Addr → Prop} {H : Hp} {κ : Kd} {lo : Nat} {vs : List V} {ms : List Ln} (r : RowsAt Im H κ lo vs ms) (h : ∀ b, Im b → H b ≠ none → Im' b) : RowsAt Im' H κ lo vs ms := by
  induction r with
  | nil lo => exact .nil lo
  | cons a b c d e _ ih =>
    refine .cons a b (h _ c ?_) d e ih
    rename_i κ' p _ _ _ _ 
    cases κ with
    | c =>
      obtain ⟨ns, z, _⟩ := d
      rw [z]
      exact fun q => nomatch q
    | l =>
      obtain ⟨ns, z, _⟩ := d
      rw [z]
      exact fun q => nomatch q
theorem RowsAt.im2 {Im Im' : Addr → Prop} {H : Hp} {κ : Kd} {lo : Nat} {vs : List V} {ms : List Ln} (r : RowsAt Im H κ lo vs ms) (h : ∀ b, Im b → (∃ xs, H b = some (.lst xs)) → Im' b) : RowsAt Im' H κ lo vs ms := by
  induction r with
  | nil lo => exact .nil lo
  | cons a b c d e _ ih =>
    refine .cons a b (h _ c ?_) d e ih
    rename_i κ' p _ _ _ _ 
    cases κ with
    | c =>
      obtain ⟨ns, z, _⟩ := d
      exact ⟨_, z⟩
    | l =>
      obtain ⟨ns, z, _⟩ := d
      exact ⟨_, z⟩
theorem RowsAt.len {Im : Addr → Prop} {H : Hp} {κ : Kd} {lo : Nat} {vs : List V} {ms : List Ln} (r : RowsAt Im H κ lo vs ms) : vs.length ≤ ms.length := by
  induction r with
  | nil lo => exact Nat.le_refl _
  | cons _ _ _ _ e _ ih =>
    rw [List.length_append, List.length_cons]
    have := List.length_pos_iff.mpr e
    omega
theorem RowsAt.split {Im : Addr → Prop} {H : Hp} {κ : Kd} : ∀ {vs ws : List V} {lo : Nat} {ms : List Ln}, RowsAt Im H κ lo (vs ++ ws) ms → ∃ m1 m2, ms = m1 ++ m2 ∧ RowsAt Im H κ lo vs m1 ∧ RowsAt Im H κ (lo + m1.length) ws m2
  | [], ws, lo, ms, r => ⟨[], ms, rfl, .nil lo, r⟩
  | v :: vs, ws, lo, ms, r => by
    cases r with
    | cons a b c d e r =>
      obtain ⟨m1, m2, e1, r1, r2⟩ := RowsAt.split r
      subst e1
      refine ⟨_, m2, (List.append_assoc ..).symm, .cons a b c d e r1, ?_⟩
      rw [List.length_append, ← Nat.add_assoc]
      exact r2
theorem RowsAt.app {Im : Addr → Prop} {H : Hp} {κ : Kd} {vs ws : List V} {lo : Nat} {m1 m2 : List Ln} (r1 : RowsAt Im H κ lo vs m1) (r2 : RowsAt Im H κ (lo + m1.length) ws m2) : RowsAt Im H κ lo (vs ++ ws) (m1 ++ m2) := by
  induction r1 with
  | nil lo => exact r2
  | cons a b c d e _ ih =>
    rw [List.append_assoc]
    refine .cons a b c d e (ih ?_)
    rw [List.length_append, ← Nat.add_assoc] at r2
    exact r2
/-! ### the kept members -/
def kvF (κ : Kd) : Nat → List Ln → List (Key × V)
  | _, [] => []
  | lo, m :: r => (.inl (lo : Int), mV κ m) :: kvF κ (lo + 1) r
theorem kvF_len (κ : Kd) : ∀ (lo : Nat) (ms : List Ln), (kvF κ lo ms).length = ms.length
  | _, [] => rfl
  | lo, m :: r => by
    show (kvF κ (lo + 1) r).length + 1 = r.length + 1
    rw [kvF_len]
theorem kvF_app (κ : Kd) : ∀ (lo : Nat) (a b : List Ln), kvF κ lo (a ++ b) = kvF κ lo a ++ kvF κ (lo + a.length) b
  | lo, [], b => rfl
  | lo, m :: r, b => by
    show _ :: kvF κ (lo + 1) (r ++ b) = _ :: (kvF κ (lo + 1) r ++ kvF κ (lo + (r.length + 1)) b)
    rw [kvF_app, show lo + 1 + r.length = lo + (r.length + 1) by omega]
theorem key_ne {i j : Int} (h : i ≠ j) : ¬ (Sum.inl i : Key) = Sum.inl j := fun e => h (Sum.inl.inj e)
theorem kvF_get (κ : Kd) : ∀ {ms : List Ln} {lo i : Nat} {m : Ln}, ms[i]? = some m → valV (kvF κ lo ms) (.inl ((lo + i : Nat) : Int)) = some (mV κ m)
  | [], lo, i, m, h => by simp at h
  | a :: r, lo, 0, m, h => by
    have e : a = m := Option.some.inj h
    subst e
    show ((((Sum.inl (lo : Int) : Key), mV κ a) :: kvF κ (lo + 1) r).find? fun kv => decide (kv.1 = (Sum.inl ((lo + 0 : Nat) : Int) : Key))).map (·.2) = _
    rw [List.find?_cons_of_pos (by simp)]
    rfl
  | a :: r, lo, i + 1, m, h => by
    have ih := kvF_get κ (ms := r) (lo := lo + 1) (i := i) (m := m) (by simpa using h)
    show ((((Sum.inl (lo : Int) : Key), mV κ a) :: kvF κ (lo + 1) r).find? fun kv => decide (kv.1 = (Sum.inl ((lo + (i + 1) : Nat) : Int) : Key))).map (·.2) = _
    rw [List.find?_cons_of_neg (by
      have : ¬ (Sum.inl (lo : Int) : Key) = Sum.inl ((lo + (i + 1) : Nat) : Int) := key_ne (by omega)
      simpa using this)]
    have e : lo + (i + 1) = lo + 1 + i := by omega
    rw [e]
    exact ih
theorem kvF_none (κ : Kd) : ∀ {ms : List Ln} {lo k : Nat}, lo + ms.length ≤ k → valV (kvF κ lo ms) (.inl (k : Int)) = none
  | [], lo, k, h => rfl
  | a :: r, lo, k, h => by
    have h' : lo + 1 + r.length ≤ k := by
      simp at h
      omega
    have ih := kvF_none κ (ms := r) (lo := lo + 1) (k := k) h'
    show ((((Sum.inl (lo : Int) : Key), mV κ a) :: kvF κ (lo + 1) r).find? fun kv => decide (kv.1 = (Sum.inl (k : Int) : Key))).map (·.2) = _
    rw [List.find?_cons_of_neg (by
      have : ¬ (Sum.inl (lo : Int) : Key) = Sum.inl (k : Int) := key_ne (by omega)
      simpa using this)]
    exact ih
theorem kvF_put (κ : Kd) (ms : List Ln) (m : Ln) : putK (kvF κ 0 ms) (.inl (ms.length : Int)) (mV κ m) = kvF κ 0 (ms ++ [m]) := by
  rw [putK_new _ (kvF_none κ (by omega)), kvF_app, Nat.zero_add]
  rfl
theorem kvF_merge (κ : Kd) : ∀ (b a : List Ln), mergeK (kvF κ 0 a) (kvF κ a.length b) = kvF κ 0 (a ++ b)
  | [], a => by
    rw [List.append_nil]
    rfl
  | m :: r, a => by
    show mergeK (putK (kvF κ 0 a) (.inl (a.length : Int)) (mV κ m)) (kvF κ (a.length + 1) r) = _
    rw [kvF_put]
    have ih := kvF_merge κ r (a ++ [m])
    rw [List.length_append, List.length_singleton, List.append_assoc] at ih
    exact ih
end OB
namespace OB
open PySem PySem.Spec PyProof.Rows L2 LamX NdefX
section
variable {P : Program} {w : World} {K : PySem.W.Frag} {mg : Str → Option Value} {base : Heap}
/-- nothing runs -/
def spFree (K : PySem.W.Frag) : Sp := fun vs H Q _ => ∃ (a dx : Addr) (F : BF), vs = [.ref a] ∧ H a = some (.ins (CB K) dx F.fs) ∧ F.b = false ∧ Q .non H
theorem scCF : FnScope ["self"] ["self"] (defScope sCheckFree) := ⟨rfl, rfl, rfl, by decide +kernel, rfl, by decide +kernel, by decide +kernel⟩
theorem ok_cf (T : Tx K mg base) : FO P w K mg base 1 ("Blocks", some "check_free") ["self"] (spFree K) := by
  refine fo_mk (T.sd.def_ 1 (d := OB.mk ("Blocks", some "check_free") "Logged.check_free" sCheckFree "check_free")) scCF (fun vs H Q E h => ?_) (fun _ _ _ _ _ _ us hl => match us, hl with | [_], _ => rfl) (fun A outer s H vs Q E hr h => ?_)
  · obtain ⟨a, dx, F, rfl, _⟩ := h
    rfl
  · obtain ⟨a, dx, F, rfl, ha, hb, q⟩ := h
    refine ⟨_, pss_one (ps_if (pt_truth (pe_fld (pv 0) rfl) (by intro _; rfl)) pss_never pss_nil), ?_⟩
    exact ⟨_, rfl, a, _, dx, _, _, rfl, ha, T.cl, T.na "is_busy", F.busy, false, hb.symm, iteF q⟩
theorem scCR : FnScope ["self"] ["self"] (defScope sCheckReady) := ⟨rfl, rfl, rfl, by decide +kernel, rfl, by decide +kernel, by decide +kernel⟩
theorem ok_cr (T : Tx K mg base) : FO P w K mg base 2 ("Blocks", some "check_ready") ["self"] (spFree K) := by
  have G : FO P w K mg base 1 ("Blocks", some "check_free") ["self"] (spFree K) := ok_cf T
  refine fo_mk (T.sd.def_ 2 (d := OB.mk ("Blocks", some "check_ready") "Logged.check_ready" sCheckReady "check_ready")) scCR (fun vs H Q E h => ?_) (fun _ _ _ _ _ _ us hl => match us, hl with | [_], _ => rfl) (fun A outer s H vs Q E hr h => ?_)
  · obtain ⟨a, dx, F, rfl, _⟩ := h
    rfl
  · obtain ⟨a, dx, F, rfl, ha, hb, q⟩ := h
    refine ⟨_, pss_one (ps_expr (pe_foM0 G (pv 0) T.cl (T.me "check_free") hr)), ?_⟩
    exact ⟨_, rfl, a, dx, _, rfl, ha, F.no "check_free", a, dx, F, rfl, ha, hb, q⟩
/-! ### keep -/
def spKeep (K : PySem.W.Frag) : Sp := fun vs H Q _ => ∃ (a dx : Addr) (F : BF) (v : V) (kvs : List (Key × V)), vs = [.ref a, v] ∧ H a = some (.ins (CB K) dx F.fs) ∧ H F.kd = some (.dK kvs) ∧ kvs.length < sizeLine ∧
  Q (.int F.n) (upd (upd H F.kd (.dK (putK kvs (.inl F.n) v))) a (.ins (CB K) dx ({ F with n := F.n + 1 } : BF).fs))
theorem scKeep : FnScope ["self", "member", "number"] ["self", "member"] (defScope sKeep) := ⟨rfl, rfl, rfl, by decide +kernel, rfl, by decide +kernel, by decide +kernel⟩
theorem ok_keep (T : Tx K mg base) : FO P w K mg base 1 ("Blocks", some "keep") ["self", "member"] (spKeep K) := by
  refine fo_mk (T.sd.def_ 4 (d := OB.mk ("Blocks", some "keep") "Logged.keep" sKeep "keep")) scKeep (fun vs H Q E h => ?_) (fun _ _ _ _ _ _ us hl => match us, hl with | [_, _], _ => rfl) (fun A outer s H vs Q E hr h => ?_)
  · obtain ⟨a, dx, F, v, kvs, rfl, _⟩ := h
    rfl
  · obtain ⟨a, dx, F, v, kvs, rfl, ha, hk, hz, q⟩ := h
    have hu := hu_of hr
    have nka : F.kd ≠ a := ne_of hk ha (fun z => nomatch z)
    refine ⟨_, pss_cons (ps_set (i := 2) scKeep.nd rfl (Or.inl rfl) (pe_fld (pv 0) rfl)) (pss_cons (ps_dput hu (pe_fld (pv 0) rfl) (pv 2) (pv 1) rfl)
      (pss_cons (ps_fldaug (pv 0) pe_int in_add) (pss_one (ps_ret (pv 2))))), ?_⟩
    refine ⟨_, rfl, a, _, dx, _, _, rfl, ha, T.cl, T.na "next_number", F.next, ?_⟩
    refine ⟨_, rfl, _, rfl, a, _, dx, _, .ref F.kd, rfl, ha, T.cl, T.na "kept", F.kept, .int F.n, rfl, F.kd, _, rfl, DPut.k (k := .inl F.n) hk hz, ?_⟩
    refine ⟨_, rfl, a, _, dx, _, _, rfl, (upd_ne nka.symm).trans ha, T.cl, T.na "next_number", F.next, F.n, 1, rfl, rfl, dx, _, (upd_ne nka.symm).trans ha, F.len, ?_⟩
    refine ⟨_, rfl, ?_⟩
    rw [F.put_next]
    exact q
/-! ### the three __init__ -/
def l1 (kd : Addr) : List (Str × V) := [("kept", .ref kd)]
def l2 (kd : Addr) : List (Str × V) := [("kept", .ref kd), ("next_number", .int 0)]
def l3 (kd : Addr) (en : Addr) : List (Str × V) := [("kept", .ref kd), ("next_number", .int 0), ("entries", .ref en)]
def l4 (kd : Addr) (en : Addr) : List (Str × V) := [("kept", .ref kd), ("next_number", .int 0), ("entries", .ref en), ("is_busy", .bl false)]
def l5 (kd : Addr) (en : Addr) (fa : Addr) : List (Str × V) := [("kept", .ref kd), ("next_number", .int 0), ("entries", .ref en), ("is_busy", .bl false), ("asker", .ref fa)]
def l6 (kd : Addr) (en : Addr) (fa : Addr) (fj : Addr) : List (Str × V) := [("kept", .ref kd), ("next_number", .int 0), ("entries", .ref en), ("is_busy", .bl false), ("asker", .ref fa), ("joiner", .ref fj)]
def l7 (kd : Addr) (en : Addr) (fa : Addr) (fj : Addr) (z : V) : List (Str × V) := [("kept", .ref kd), ("next_number", .int 0), ("entries", .ref en), ("is_busy", .bl false), ("asker", .ref fa), ("joiner", .ref fj), ("zero", z)]
def l8 (kd : Addr) (en : Addr) (fa : Addr) (fj : Addr) (z : V) (fb : Addr) : List (Str × V) := [("kept", .ref kd), ("next_number", .int 0), ("entries", .ref en), ("is_busy", .bl false), ("asker", .ref fa), ("joiner", .ref fj), ("zero", z), ("builder", .ref fb)]
theorem l1_put (kd : Addr) : putF "kept" (.ref kd) [] = l1 kd := rfl
theorem l2_put (kd : Addr) : putF "next_number" (.int 0) (l1 kd) = l2 kd := put_past (by decide +kernel)
theorem l3_put (kd : Addr) (en : Addr) : putF "entries" (.ref en) (l2 kd) = l3 kd en := (put_past (by decide +kernel)).trans (congrArg _ (put_past (by decide +kernel)))
theorem l4_put (kd : Addr) (en : Addr) : putF "is_busy" (.bl false) (l3 kd en) = l4 kd en := (put_past (by decide +kernel)).trans (congrArg _ ((put_past (by decide +kernel)).trans (congrArg _ (put_past (by decide +kernel)))))
theorem l5_put (kd : Addr) (en : Addr) (fa : Addr) : putF "asker" (.ref fa) (l4 kd en) = l5 kd en fa := (put_past (by decide +kernel)).trans (congrArg _ ((put_past (by decide +kernel)).trans (congrArg _ ((put_past (by decide +kernel)).trans (congrArg _ (put_past (by decide +kernel)))))))
theorem l6_put (kd : Addr) (en : Addr) (fa : Addr) (fj : Addr) : putF "joiner" (.ref fj) (l5 kd en fa) = l6 kd en fa fj := (put_past (by decide +kernel)).trans (congrArg _ ((put_past (by decide +kernel)).trans (congrArg _ ((put_past (by decide +kernel)).trans (congrArg _ ((put_past (by decide +kernel)).trans (congrArg _ (put_past (by decide +kernel)))))))))
theorem l7_put (kd : Addr) (en : Addr) (fa : Addr) (fj : Addr) (z : V) : putF "zero" (z) (l6 kd en fa fj) = l7 kd en fa fj z := (put_past (by decide +kernel)).trans (congrArg _ ((put_past (by decide +kernel)).trans (congrArg _ ((put_past (by decide +kernel)).trans (congrArg _ ((put_past (by decide +kernel)).trans (congrArg _ ((put_past (by decide +kernel)).trans (congrArg _ (put_past (by decide +kernel)))))))))))
theorem l8_put (kd : Addr) (en : Addr) (fa : Addr) (fj : Addr) (z : V) (fb : Addr) : putF "builder" (.ref fb) (l7 kd en fa fj z) = l8 kd en fa fj z fb := (put_past (by decide +kernel)).trans (congrArg _ ((put_past (by decide +kernel)).trans (congrArg _ ((put_past (by decide +kernel)).trans (congrArg _ ((put_past (by decide +kernel)).trans (congrArg _ ((put_past (by decide +kernel)).trans (congrArg _ ((put_past (by decide +kernel)).trans (congrArg _ (put_past (by decide +kernel)))))))))))))
theorem l9_put (kd : Addr) (en : Addr) (fa : Addr) (fj : Addr) (z : V) (fb : Addr) (rl : Addr) : putF "rows" (.ref rl) (l8 kd en fa fj z fb) = (⟨kd, 0, en, false, fa, fj, z, fb, rl⟩ : BF).fs := (put_past (by decide +kernel)).trans (congrArg _ ((put_past (by decide +kernel)).trans (congrArg _ ((put_past (by decide +kernel)).trans (congrArg _ ((put_past (by decide +kernel)).trans (congrArg _ ((put_past (by decide +kernel)).trans (congrArg _ ((put_past (by decide +kernel)).trans (congrArg _ ((put_past (by decide +kernel)).trans (congrArg _ (put_past (by decide +kernel)))))))))))))))
def spLI (K : PySem.W.Frag) : Sp := fun vs H Q _ => ∃ (a dx : Addr), vs = [.ref a] ∧ H a = some (.ins (CB K) dx []) ∧ ∀ (H' : Hp) (kd en : Addr), (∀ b o, H b = some o → b ≠ a → H' b = some o) → H kd = none → H en = none → H' kd = some (.dK []) → H' en = some (.lst []) → H' a = some (.ins (CB K) dx (l4 kd en)) → Q .non H'
theorem scLI : FnScope ["self"] ["self"] (defScope sLoggedInit) := ⟨rfl, rfl, rfl, by decide +kernel, rfl, by decide +kernel, by decide +kernel⟩
theorem ok_li (T : Tx K mg base) : FO P w K mg base 1 ("Logged", some "__init__") ["self"] (spLI K) := by
  refine fo_mk (T.sd.def_ 0 (d := OB.mk ("Logged", some "__init__") "Logged.__init__" sLoggedInit "__init__")) scLI (fun vs H Q E h => ?_) (fun _ _ _ _ _ _ us hl => match us, hl with | [_], _ => rfl) (fun A outer s H vs Q E hr h => ?_)
  · obtain ⟨a, dx, rfl, _⟩ := h
    rfl
  · obtain ⟨a, dx, rfl, ha, q⟩ := h
    refine ⟨_, pss_cons (ps_fld (pv 0) pe_dnewK rfl) (pss_cons (ps_fld (pv 0) pe_int rfl) (pss_cons (ps_fld (pv 0) (pe_lst pa_nil) rfl) (pss_one (ps_fld (pv 0) pe_bl rfl)))), ?_⟩
    intro kd hkd
    have nak : a ≠ kd := ne_of_none ha hkd
    refine ⟨_, rfl, a, _, dx, _, rfl, (upd_ne nak).trans ha, T.cl, T.na "kept", (by show 0 < 1000; decide), ?_⟩
    rw [l1_put]
    refine ⟨_, rfl, a, _, dx, _, rfl, upd_same, T.cl, T.na "next_number", (by show 1 < 1000; decide), ?_⟩
    rw [l2_put]
    refine ⟨Nat.zero_le _, fun en hen => ?_⟩
    have nae : a ≠ en := fun z => by
      rw [z, upd_same] at hen
      cases hen
    have hen1 : upd H kd (.dK []) en = none := by
      rw [upd_ne nae.symm, upd_ne nae.symm] at hen
      exact hen
    have nke : kd ≠ en := ne_of_none upd_same hen1
    have hen2 : H en = none := by
      rw [upd_ne nke.symm] at hen1
      exact hen1
    refine ⟨_, rfl, a, _, dx, _, rfl, (upd_ne nae).trans upd_same, T.cl, T.na "entries", (by show 2 < 1000; decide), ?_⟩
    rw [l3_put]
    refine ⟨_, rfl, a, _, dx, _, rfl, upd_same, T.cl, T.na "is_busy", (by show 3 < 1000; decide), ?_⟩
    rw [l4_put]
    refine q _ kd en (fun b o e n => ?_) hkd hen2 ?_ ?_ ?_
    · rw [upd_ne n, upd_ne n, upd_ne (ne_of_none e hen2), upd_ne n, upd_ne n, upd_ne (ne_of_none e hkd)]
      exact e
    · rw [upd_ne nak.symm, upd_ne nak.symm, upd_ne nke, upd_ne nak.symm, upd_ne nak.symm, upd_same]
    · rw [upd_ne nae.symm, upd_ne nae.symm, upd_same]
    · rw [upd_same]
def spAI (K : PySem.W.Frag) : Sp := fun vs H Q _ => ∃ (a dx fa fj : Addr) (z : V), vs = [.ref a, .ref fa, .ref fj, z] ∧ H a = some (.ins (CB K) dx []) ∧ ∀ (H' : Hp) (kd en : Addr), (∀ b o, H b = some o → b ≠ a → H' b = some o) → H kd = none → H en = none → H' kd = some (.dK []) → H' en = some (.lst []) → H' a = some (.ins (CB K) dx (l7 kd en fa fj z)) → Q .non H'
theorem scAI : FnScope ["self", "ask", "join", "zero"] ["self", "ask", "join", "zero"] (defScope sAskedInit) := ⟨rfl, rfl, rfl, by decide +kernel, rfl, by decide +kernel, by decide +kernel⟩
theorem ok_ai (T : Tx K mg base) : FO P w K mg base 2 ("Asked", some "__init__") ["self", "ask", "join", "zero"] (spAI K) := by
  obtain ⟨fdl, GL, bL⟩ := (ok_li (P := P) (w := w) T).ex
  refine fo_mk (T.sd.def_ 5 (d := OB.mk ("Asked", some "__init__") "Asked.__init__" sAskedInit "__init__")) scAI (fun vs H Q E h => ?_) (fun _ _ _ _ _ _ us hl => match us, hl with | [_, _, _, _], _ => rfl) (fun A outer s H vs Q E hr h => ?_)
  · obtain ⟨a, dx, fa, fj, z, rfl, _⟩ := h
    rfl
  · obtain ⟨a, dx, fa, fj, z, rfl, ha, q⟩ := h
    refine ⟨_, pss_cons (ps_expr (pe_cfun (pe_glob rfl (T.glo "Logged") (v := .ref _) rfl) (clsB_ok (ex_parts T).2.1) GL hr bL pass0 (pa_cons (pv 0) pa_nil)))
      (pss_cons (ps_fld (pv 0) (pv 1) rfl) (pss_cons (ps_fld (pv 0) (pv 2) rfl) (pss_one (ps_fld (pv 0) (pv 3) rfl)))), ?_⟩
    refine ⟨rfl, _, rfl, a, dx, rfl, ha, fun H1 kd en e1 hkd hen e2 e3 e4 => ?_⟩
    refine ⟨_, rfl, _, rfl, a, _, dx, _, rfl, e4, T.cl, T.na "asker", (by show 4 < 1000; decide), ?_⟩
    rw [l5_put]
    refine ⟨_, rfl, _, rfl, a, _, dx, _, rfl, upd_same, T.cl, T.na "joiner", (by show 5 < 1000; decide), ?_⟩
    rw [l6_put]
    refine ⟨_, rfl, _, rfl, a, _, dx, _, rfl, upd_same, T.cl, T.na "zero", (by show 6 < 1000; decide), ?_⟩
    rw [l7_put]
    have nka : kd ≠ a := (ne_of_none ha hkd).symm
    have nea : en ≠ a := (ne_of_none ha hen).symm
    refine q _ kd en (fun b o e n => ?_) hkd hen ?_ ?_ upd_same
    · rw [upd_ne n, upd_ne n, upd_ne n]
      exact e1 b o e n
    · rw [upd_ne nka, upd_ne nka, upd_ne nka]
      exact e2
    · rw [upd_ne nea, upd_ne nea, upd_ne nea]
      exact e3
def spBI (K : PySem.W.Frag) : Sp := fun vs H Q _ => ∃ (a dx fb fa fj : Addr) (z : V), vs = [.ref a, .ref fb, .ref fa, .ref fj, z] ∧ H a = some (.ins (CB K) dx []) ∧ ∀ (H' : Hp) (kd en rl : Addr), (∀ b o, H b = some o → b ≠ a → H' b = some o) → H kd = none → H en = none → H rl = none → en ≠ rl → H' kd = some (.dK []) → H' en = some (.lst []) → H' rl = some (.lst []) →
  H' a = some (.ins (CB K) dx (⟨kd, 0, en, false, fa, fj, z, fb, rl⟩ : BF).fs) → Q .non H'
theorem scBI : FnScope ["self", "build", "ask", "join", "zero"] ["self", "build", "ask", "join", "zero"] (defScope sBlocksInit) := ⟨rfl, rfl, rfl, by decide +kernel, rfl, by decide +kernel, by decide +kernel⟩
/-- Blocks.__init__, and how C(..) binds: with zero, without it -/
theorem ok_bi (T : Tx K mg base) : ∃ fd, FnOk P w K mg base CX0 3 (He.fAd K ("Blocks", some "__init__")) fd ["self", "build", "ask", "join", "zero"] (spBI K) ∧
    (∃ g, KBn K fd ["self", "build", "ask", "join", "zero"] 4 ["zero"] g (fun vs zs => vs ++ zs)) ∧ ∃ ds, Vals [V.non] ds ∧ Binds K fd ["self", "build", "ask", "join", "zero"] ds := by
  obtain ⟨fda, GA, bA⟩ := (ok_ai (P := P) (w := w) T).ex
  obtain ⟨fd, F⟩ := T.sd.def_ 8 (d := OB.mk ("Blocks", some "__init__") "Blocks.__init__" sBlocksInit "__init__" [] [("zero", .non)])
  refine ⟨fd, okD F scBI (fun vs H Q E h => ?_) (fun A outer s H vs Q E hr h => ?_), ?_, ?_⟩
  · obtain ⟨a, dx, fb, fa, fj, z, rfl, _⟩ := h
    rfl
  · obtain ⟨a, dx, fb, fa, fj, z, rfl, ha, q⟩ := h
    refine ⟨_, pss_cons (ps_expr (pe_cfun (pe_glob rfl (T.glo "Asked") (v := .ref _) rfl) (clsB_ok (ex_parts T).1) GA hr bA pass0 (pa_cons (pv 0) (pa_cons (pv 2) (pa_cons (pv 3) (pa_cons (pv 4) pa_nil))))))
      (pss_cons (ps_fld (pv 0) (pv 1) rfl) (pss_one (ps_fld (pv 0) (pe_lst pa_nil) rfl))), ?_⟩
    refine ⟨rfl, _, rfl, _, rfl, _, rfl, _, rfl, a, dx, fa, fj, z, rfl, ha, fun H1 kd en e1 hkd hen e2 e3 e4 => ?_⟩
    have nka : kd ≠ a := (ne_of_none ha hkd).symm
    have nea : en ≠ a := (ne_of_none ha hen).symm
    refine ⟨_, rfl, _, rfl, a, _, dx, _, rfl, e4, T.cl, T.na "builder", (by show 7 < 1000; decide), ?_⟩
    rw [l8_put]
    refine ⟨Nat.zero_le _, fun rl hrl => ?_⟩
    have nra : rl ≠ a := fun z => by
      rw [z, upd_same] at hrl
      cases hrl
    have hrl1 : H1 rl = none := by
      rw [upd_ne nra] at hrl
      exact hrl
    have nre : rl ≠ en := (ne_of_none e3 hrl1).symm
    have nrk : rl ≠ kd := (ne_of_none e2 hrl1).symm
    have hrl0 : H rl = none := by
      cases z : H rl with
      | none => rfl
      | some o =>
        have := e1 rl o z nra
        rw [hrl1] at this
        cases this
    refine ⟨_, rfl, a, _, dx, _, rfl, (upd_ne nra.symm).trans upd_same, T.cl, T.na "rows", (by show 8 < 1000; decide), ?_⟩
    rw [l9_put]
    refine q _ kd en rl (fun b o e n => ?_) hkd hen hrl0 nre.symm ?_ ?_ ?_ upd_same
    · rw [upd_ne n, upd_ne (ne_of_none e hrl0), upd_ne n]
      exact e1 b o e n
    · rw [upd_ne nka, upd_ne nrk.symm, upd_ne nka]
      exact e2
    · rw [upd_ne nea, upd_ne nre.symm, upd_ne nea]
      exact e3
    · rw [upd_ne nra, upd_same]
  · obtain ⟨mv, h⟩ := F.kbinds0 (ps := ["self", "build", "ask", "join", "zero"]) 4 ["zero"] [] (fun us _ ws => us ++ ws) (by intro z; cases z) (fun q h => by cases h) (fun r1 _ r3 => r1.append r3) (fun D doc pm an cdv ct us mv ws h1 h2 h3 => match us, h1, ws, h3 with | [_, _, _, _], _, [_], _ => rfl)
    exact ⟨_, h⟩
  · exact F.binds0 (ps := ["self", "build", "ask", "join", "zero"]) 4 (by intro z; cases z) rfl (fun D doc pm an cdv ct us ks h1 h2 => match us, h1, ks, h2 with | [_, _, _, _], _, [_], _ => ⟨_, _, _, _, _, _, rfl, rfl, rfl⟩)
end
end OB
namespace OB
open PySem PySem.Spec PyProof.Rows L2 LamX NdefX
/-! ### loops by their turns, whatever the body -/
theorem it_list {K : PySem.W.Frag} {a : Addr} {xs : List V} {Body : V → Hp → (Hp → Prop) → Prop} {H0 : Hp} {Qd : Hp → Prop} (Pv : Nat → Hp → Prop) (h0 : Pv 0 H0) (hl : ∀ i H, i ≤ xs.length → Pv i H → SqL K H a xs)
    (hs : ∀ i x H, xs[i]? = some x → Pv i H → Body x H (Pv (i + 1))) (hd : ∀ H, Pv xs.length H → Qd H) :
    ∃ W : Nat → Nat → Hp → Prop, (∃ m, W 0 m H0) ∧ ∀ i m H, W i m H →
      ((Itl K a).stop i H ∧ Qd H) ∨ ((Itl K a).go i H ∧ ∃ Nx : Hp → Prop, (∀ H', Nx H' → ∃ m', m' < m ∧ W (i + 1) m' H') ∧ ∀ x H', (Itl K a).yld i H x H' → Body x H' Nx) := by
  refine ⟨fun i m H => m = xs.length - i ∧ i ≤ xs.length ∧ Pv i H, ⟨xs.length, by simp, Nat.zero_le _, h0⟩, ?_⟩
  rintro i m H ⟨rfl, hi, p⟩
  have q := hl i H hi p
  by_cases hlt : i < xs.length
  · refine .inr ⟨⟨xs, xs[i], q, by simp [hlt]⟩, Pv (i + 1), fun H' p' => ⟨xs.length - (i + 1), by omega, rfl, hlt, p'⟩, fun x H' y => ?_⟩
    obtain ⟨e, y⟩ := y
    subst e
    exact hs i x _ (y xs q) p
  · have e : i = xs.length := by omega
    subst e
    exact .inl ⟨⟨xs, q, Nat.le_refl _⟩, hd H p⟩
theorem it_tup {K : PySem.W.Frag} {a : Addr} {xs : List V} {Body : V → Hp → (Hp → Prop) → Prop} {H0 : Hp} {Qd : Hp → Prop} (Pv : Nat → Hp → Prop) (h0 : Pv 0 H0) (hl : ∀ i H, i ≤ xs.length → Pv i H → SqT K H a xs)
    (hs : ∀ i x H, xs[i]? = some x → Pv i H → Body x H (Pv (i + 1))) (hd : ∀ H, Pv xs.length H → Qd H) :
    ∃ W : Nat → Nat → Hp → Prop, (∃ m, W 0 m H0) ∧ ∀ i m H, W i m H →
      ((Itt K a).stop i H ∧ Qd H) ∨ ((Itt K a).go i H ∧ ∃ Nx : Hp → Prop, (∀ H', Nx H' → ∃ m', m' < m ∧ W (i + 1) m' H') ∧ ∀ x H', (Itt K a).yld i H x H' → Body x H' Nx) := by
  refine ⟨fun i m H => m = xs.length - i ∧ i ≤ xs.length ∧ Pv i H, ⟨xs.length, by simp, Nat.zero_le _, h0⟩, ?_⟩
  rintro i m H ⟨rfl, hi, p⟩
  have q := hl i H hi p
  by_cases hlt : i < xs.length
  · refine .inr ⟨⟨xs, xs[i], q, by simp [hlt]⟩, Pv (i + 1), fun H' p' => ⟨xs.length - (i + 1), by omega, rfl, hlt, p'⟩, fun x H' y => ?_⟩
    obtain ⟨e, y⟩ := y
    subst e
    exact hs i x _ (y xs q) p
  · have e : i = xs.length := by omega
    subst e
    exact .inl ⟨⟨xs, q, Nat.le_refl _⟩, hd H p⟩
/-! ### slices -/
def cutK (n : Nat) (z : Int) : Nat := HT.sIx n 0 (some z)
theorem cut_lo (xs : List V) (z : Int) : cutV xs (some z) none = xs.drop (cutK xs.length z) := by
  unfold cutV
  rw [HT.sIx_none]
  refine List.take_of_length_le ?_
  rw [List.length_drop]
  exact Nat.le_refl _
theorem cut_hi (xs : List V) (z : Int) : cutV xs none (some z) = xs.take (cutK xs.length z) := by
  unfold cutV
  rw [HT.sIx_none, List.drop_zero, Nat.sub_zero]
  rfl
theorem nums_get {lo n i : Nat} (h : i < n) : (nums lo n)[i]? = some (.int ((lo + i : Nat) : Int)) := by
  unfold nums
  rw [List.getElem?_map, List.getElem?_range' h]
  simp
theorem nums_take {lo n i : Nat} (h : i ≤ n) : (nums lo n).take i = nums lo i := by
  have e := nums_add lo i (n - i)
  rw [show i + (n - i) = n by omega] at e
  rw [← e, List.take_append_of_le_length (by rw [nums_len]; exact Nat.le_refl _), List.take_of_length_le (by rw [nums_len]; exact Nat.le_refl _)]
section
variable {P : Program} {w : World} {K : PySem.W.Frag} {mg : Str → Option Value} {base : Heap}
def spNN (K : PySem.W.Frag) : Sp := fun vs H Q _ => ∃ (a dx : Addr) (F : BF) (ms : List Ln) (κ : Kd) (Im : Addr → Prop) (rs : List V), vs = [.ref a] ∧ H a = some (.ins (CB K) dx F.fs) ∧ H F.kd = some (.dK (kvF κ 0 ms)) ∧ F.n = ms.length ∧ H F.rl = some (.lst rs) ∧ RowsAt Im H κ 0 rs ms ∧ ms.length < 1000 ∧
  ∀ (e : Nat) (m1 m2 : List Ln) (p : Addr) (H' : Hp), IsExp (ms.length + 1) e → ms = m1 ++ m2 → RowsAt Im H κ 0 (rs.take (cutK rs.length ((rs.length : Int) - e))) m1 → RowsAt Im H κ m1.length (rs.drop (cutK rs.length ((rs.length : Int) - e))) m2 →
    Same H H' → H p = none → H' p = some (.tup (nums m1.length (m2.length + 1))) → Q (.ref p) H'
theorem scNN : FnScope ["self", "merged", "found", "numbers", "block", "number"] ["self"] (defScope sNextNumbers) := ⟨rfl, rfl, rfl, by decide +kernel, rfl, by decide +kernel, by decide +kernel⟩
theorem ok_nn (T : Tx K mg base) : FO P w K mg base 2 ("Blocks", some "next_numbers") ["self"] (spNN K) := by
  have G : FO P w K mg base 1 ("exponent", none) ["many"] spExp := ok_exp T
  refine fo_mk (T.sd.def_ 9 (d := OB.mk ("Blocks", some "next_numbers") "Blocks.next_numbers" sNextNumbers "next_numbers")) scNN (fun vs H Q E h => ?_) (fun _ _ _ _ _ _ us hl => match us, hl with | [_], _ => rfl) (fun A outer s H vs Q E hr h => ?_)
  · obtain ⟨a, dx, F, ms, κ, Im, rs, rfl, _⟩ := h
    rfl
  · obtain ⟨a, dx, F, ms, κ, Im, rs, rfl, ha, hk, hn, hrl, hrows, hz, q⟩ := h
    have hlen := T.bi "len"
    refine ⟨_, pss_cons (ps_set (i := 1) scNN.nd rfl (Or.inl rfl) (pe_fo G hr rfl (T.glo "exponent") (pa_cons (pe_op op_add (pe_callB call_lenD (by rfl) hlen PySem.boot_len (pa_cons (pe_fld (pv 0) rfl) pa_nil)) pe_int) pa_nil)))
      (pss_cons (ps_setLc2 (i := 2) (own := [("numbers", 3), ("block", 4), ("number", 5)]) (vs1 := [5]) (wi1 := iTup K (tVar 3)) (te := tVar 5) (g := gTup K 2 (gCons (gName 3) (gCons (gName 4) gNil))) (g1 := gName 5) (tt := tYes) (tt1 := tYes) rfl scNN.nd rfl rfl (sw_true rfl rfl rfl (by decide +kernel))
        (pi_list (pe_slice sl_list (pe_fld (pv 0) rfl) (po_some (pe_op op_sub (pe_callB call_len_seq (by rfl) hlen PySem.boot_len (pa_cons (pe_fld (pv 0) rfl) pa_nil)) (pv 1))) po_none)) (blkOk_by (own := [("numbers", 3), ("block", 4), ("number", 5)]) (N := ["self", "merged", "found", "numbers", "block", "number"]) (sc := defScope sNextNumbers) (by decide +kernel)) (by decide)
        (fun _ _ _ _ _ => pg_tup rfl (pgs_cons (pg_name (i := 3) scNN.nd rfl (Or.inl rfl)) (pgs_cons (pg_name (i := 4) scNN.nd rfl (Or.inl rfl)) pgs_nil))) (fun _ _ _ _ _ => pts_nil) (fun _ _ _ _ _ => pi_tup (pv 3)) (fun _ _ _ _ _ => pg_name (i := 5) scNN.nd rfl (Or.inl rfl)) (fun _ _ _ _ _ => pts_nil) (fun _ _ _ _ _ => pv 5))
      (pss_one (ps_ret (pe_callTy call_tuple_of (by rfl) (T.bi "tuple") (by decide +kernel) (pa_cons (pe_op op_cat (pv 2) (pe_lst (pa_cons (pe_fld (pv 0) rfl) pa_nil))) pa_nil))))), ?_⟩
    refine ⟨_, rfl, a, _, dx, _, _, rfl, ha, T.cl, T.na "kept", F.kept, F.kd, _, rfl, hk, _, _, rfl, rfl, ms.length + 1, ?_, by omega, fun e he => ?_⟩
    · rw [kvF_len]
      rfl
    obtain ⟨k, hk0⟩ : ∃ k, k = cutK rs.length ((rs.length : Int) - e) := ⟨_, rfl⟩
    have rsplit : RowsAt Im H κ 0 (rs.take k ++ rs.drop k) ms := by
      rw [List.take_append_drop]
      exact hrows
    obtain ⟨m1, m2, em, r1, r2⟩ := rsplit.split
    rw [Nat.zero_add] at r2
    refine ⟨_, rfl, a, _, dx, _, _, rfl, ha, T.cl, T.na "rows", F.rows, _, rfl, a, _, dx, _, _, rfl, ha, T.cl, T.na "rows", F.rows, F.rl, _, rfl, .inl (SqL.of hrl), _, rfl, _, _, rfl, rfl, _, rfl, F.rl, _, rfl, SqL.of hrl, fun sl hsl => ?_⟩
    rw [cut_lo, ← hk0]
    have sH1 : Same H (upd H sl (.lst (rs.drop k))) := fun b o e => (upd_ne (ne_of_none e hsl)).trans e
    have hsl1 : upd H sl (.lst (rs.drop k)) sl = some (.lst (rs.drop k)) := upd_same
    obtain ⟨H1, eH1⟩ : ∃ H1, H1 = upd H sl (.lst (rs.drop k)) := ⟨_, rfl⟩
    rw [← eH1] at sH1 hsl1 ⊢
    have hm2 : m1.length + m2.length = ms.length := by rw [em, List.length_append]
    refine ⟨sl, rfl, ⟨_, SqL.of hsl1⟩, fun D hD => it_list (K := K) (a := sl) (xs := rs.drop k) (fun i H' => ∃ ma mb, m2 = ma ++ mb ∧ RowsAt Im H κ (m1.length + ma.length) ((rs.drop k).drop i) mb ∧ Same H1 H' ∧ H' D = some (.lst (nums m1.length ma.length)))
      ⟨[], m2, rfl, r2, fun b o e => (upd_ne (ne_of_none e hD)).trans e, upd_same⟩ (fun i H' _ ⟨_, _, _, _, sm, _⟩ => SqL.of (sm _ _ hsl1)) ?_ ?_⟩
    · rintro i x H' hi ⟨ma, mb, e2, ra, sm, hd⟩
      have edrop : (rs.drop k).drop i = x :: (rs.drop k).drop (i + 1) := by
        obtain ⟨hlt, ex⟩ := List.getElem?_eq_some_iff.mp hi
        rw [← ex]
        exact List.drop_eq_getElem_cons hlt
      rw [edrop] at ra
      cases ra with
      | @cons _ t nt p _ mc md ht hnt hp hb hne rr =>
        refine ⟨t, _, rfl, SqT.of (sm _ _ (sH1 _ _ ht)), rfl, _, _, rfl, _, _, rfl, rfl, rfl, ?_⟩
        have hnt' : ∀ {H3 : Hp}, Same H1 H3 → H3 nt = some (.tup (nums (m1.length + ma.length) mc.length)) := fun s3 => s3 _ _ (sH1 _ _ hnt)
        refine ⟨_, rfl, nt, rfl, ⟨_, SqT.of (hnt' sm)⟩, it_tup (K := K) (a := nt) (xs := nums (m1.length + ma.length) mc.length) (fun j H'' => Same H1 H'' ∧ H'' D = some (.lst (nums m1.length (ma.length + j))) ∧ j ≤ mc.length)
          ⟨sm, hd, Nat.zero_le _⟩ (fun j H'' _ ⟨s3, _, _⟩ => SqT.of (hnt' s3)) ?_ ?_⟩
        · rintro j y H'' hj ⟨s3, h3, l3⟩
          have hj2 : j < mc.length := by
            have := (List.getElem?_eq_some_iff.mp hj).1
            rw [nums_len] at this
            exact this
          have ey : y = .int ((m1.length + ma.length + j : Nat) : Int) := by
            rw [nums_get hj2] at hj
            exact (Option.some.inj hj).symm
          subst ey
          refine ⟨rfl, _, rfl, _, h3, ?_, fun b o e => ?_, ?_, hj2⟩
          · rw [nums_len]
            have : ma.length + mc.length ≤ m2.length := by
              rw [e2, List.length_append, List.length_append]
              omega
            exact small1000 (by omega)
          · refine (upd_ne (fun z => ?_)).trans (s3 b o e)
            rw [z, hD] at e
            cases e
          · rw [upd_same]
            have e5 := nums_add m1.length (ma.length + j) 1
            rw [← Nat.add_assoc] at e5
            rw [show ma.length + (j + 1) = ma.length + j + 1 by omega, ← e5]
            rfl
        · rintro H'' ⟨s3, h3, _⟩
          rw [nums_len] at h3
          refine ⟨ma ++ mc, md, by rw [e2, List.append_assoc], ?_, s3, ?_⟩
          · rw [List.length_append, ← Nat.add_assoc]
            exact rr
          · rw [List.length_append]
            exact h3
    · rintro H' ⟨ma, mb, e2, ra, sm, hd⟩
      have emb : mb = [] := by
        rw [List.drop_length] at ra
        cases ra
        rfl
      have ema : ma = m2 := by rw [e2, emb, List.append_nil]
      rw [ema] at hd
      have ha' : H' a = some (.ins (CB K) dx F.fs) := sm _ _ (sH1 _ _ ha)
      -- tuple(found + [self.next_number])
      refine ⟨_, rfl, _, rfl, a, _, dx, _, _, rfl, ha', T.cl, T.na "next_number", F.next, (by show 1 ≤ sizeLine; decide), fun l2 hl2 => ?_⟩
      have nDl : D ≠ l2 := ne_of_none hd hl2
      refine ⟨D, l2, _, _, rfl, rfl, (upd_ne nDl).trans hd, upd_same, ?_, fun l3 hl3 => ?_⟩
      · rw [nums_len]
        exact Nat.le_of_lt (small1000 (by show m2.length + 1 ≤ 1000; omega))
      · refine ⟨l3, _, rfl, .inl ⟨SqL.of upd_same, fun p hp => ?_⟩⟩
        have n3p : l3 ≠ p := ne_of_none upd_same hp
        have hp2 : upd H' l2 (.lst [.int F.n]) p = none := (upd_ne n3p.symm).symm.trans hp
        have n2p : l2 ≠ p := ne_of_none upd_same hp2
        have hp3 : H' p = none := (upd_ne n2p.symm).symm.trans hp2
        have hp4 : H p = none := sH1.free (sm.free hp3)
        refine q e m1 m2 p _ he em (by rw [← hk0]; exact r1) (by rw [← hk0]; exact r2) (fun b o z => ?_) hp4 ?_
        · have z1 := sm _ _ (sH1 _ _ z)
          have z2 : upd H' l2 (.lst [.int F.n]) b = some o := (upd_ne (ne_of_none z1 hl2)).trans z1
          have z3 : upd (upd H' l2 (.lst [.int F.n])) l3 (.lst (nums m1.length m2.length ++ [.int F.n])) b = some o := (upd_ne (ne_of_none z2 hl3)).trans z2
          exact (upd_ne (ne_of_none z3 hp)).trans z3
        · rw [upd_same]
          have e5 := nums_add m1.length m2.length 1
          have e6 : nums (m1.length + m2.length) 1 = [V.int F.n] := by
            rw [hm2, hn]
            rfl
          rw [← e5, e6]
end
end OB
namespace OB
open PySem PySem.Spec PyProof.Rows L2 LamX NdefX
theorem tabs_wr {T : List (Addr × Str)} {H : Hp} {a : Addr} {o o' : HO} (t : Tabs T H) (h : H a = some o) (n1 : ∀ ps, o ≠ .tbl ps) (n2 : ∀ φ, o ≠ .ext φ) : Tabs T (upd H a o') := fun p hp => by
  obtain ⟨ps, a1, a2, a3⟩ := t p hp
  have na : p.1 ≠ a := fun z => by
    rw [z, h] at a1
    exact n1 ps (Option.some.inj a1)
  refine ⟨ps, (upd_ne na).trans a1, a2, fun pos cv hc => ?_⟩
  obtain ⟨c0, b1, b2⟩ := a3 pos cv hc
  refine ⟨c0, b1, (upd_ne fun z => ?_).trans b2⟩
  rw [z, h] at b2
  exact n2 _ (Option.some.inj b2)
theorem tabs_ins {T : List (Addr × Str)} {H : Hp} {a C dx : Addr} {fs : List (Str × V)} {o' : HO} (t : Tabs T H) (h : H a = some (.ins C dx fs)) : Tabs T (upd H a o') := tabs_wr t h (fun _ z => nomatch z) (fun _ z => nomatch z)
theorem tabs_lst {T : List (Addr × Str)} {H : Hp} {a : Addr} {xs : List V} {o' : HO} (t : Tabs T H) (h : H a = some (.lst xs)) : Tabs T (upd H a o') := tabs_wr t h (fun _ z => nomatch z) (fun _ z => nomatch z)
theorem tabs_dK {T : List (Addr × Str)} {H : Hp} {a : Addr} {xs : List (Key × V)} {o' : HO} (t : Tabs T H) (h : H a = some (.dK xs)) : Tabs T (upd H a o') := tabs_wr t h (fun _ z => nomatch z) (fun _ z => nomatch z)
theorem tabs_new {T : List (Addr × Str)} {H : Hp} {a : Addr} {o' : HO} (t : Tabs T H) (h : H a = none) : Tabs T (upd H a o') := t.ext fun b o e => (upd_ne (ne_of_none e h)).trans e
theorem Fz.kp {S : Addr → Prop} {Im : Addr → Prop} {H H' : Hp} (f : Fz S H H') (h : ∀ b, S b → Free Im H b) : Kp Im H H' := fun b o e x => f b o e (fun z => h b z o e x) x.not_tbl
theorem small2M {n : Nat} (h : n ≤ 2000000) : n < sizeLine := by
  rw [sizeLine_eq]
  omega
theorem same_new {H : Hp} {p : Addr} {o : HO} (h : H p = none) : Same H (upd H p o) := fun _ _ e => (upd_ne (ne_of_none e h)).trans e
theorem bf_eq {F : BF} (h : F.b = false) : ({ F with b := false } : BF) = F := by
  cases F
  cases h
  rfl
/-- self.call(entry, lambda: ..) in a collection that is not busy -/
theorem self_step {C : Addr} {T : List (Addr × Str)} {te tb : TE} {σ : L2.St} {H' : Hp} {Q : VK} {i : Nat} {a dx : Addr} {F : BF} {es : List V} {Z : V → Hp → Prop} (hσ : σ[i]? = some (some (.ref a))) (ha : H' a = some (.ins C dx F.fs)) (hb : F.b = false) (hen : H' F.en = some (.lst es)) (hz : es.length < sizeLine)
    (hte : ∀ R : VK, (∀ ev H2, Same H' H2 → Tabs T H2 → R ev H2) → te σ H' R)
    (htb : ∀ (H4 : Hp) (R : VK), Fz (fun b => b = a) H' H4 → Tabs T H4 → H4 a = some (.ins C dx ({ F with b := true } : BF).fs) → (∀ v H5, ExtN H4 H5 → Tabs T H5 → Z v H5 → R v H5) → tb σ H4 R)
    (fin : ∀ ev v H5, Fz (fun b => b = a) H' H5 → Tabs T H5 → Z v H5 → (∃ fs, H5 a = some (.ins C dx fs)) → H5 F.en = some (.lst es) → Q v (upd (upd H5 a (.ins C dx F.fs)) F.en (.lst (es ++ [ev])))) : tSelf C T (tVar i) te tb σ H' Q := by
  refine ⟨_, hσ, a, rfl, ⟨dx, _, ha, F.no "call"⟩, hte _ fun ev H2 s2 t2 => ⟨t2, fun H3 e3 t3 => ?_⟩⟩
  have ha3 : H3 a = some (.ins C dx F.fs) := e3 _ _ (s2 _ _ ha) (fun _ z => nomatch z)
  have nea : F.en ≠ a := ne_of hen ha (fun z => nomatch z)
  refine ⟨dx, _, ha3, F.len, htb _ _ ?_ (tabs_ins t3 ha3) (by rw [F.put_busy, upd_same]) fun v H5 e5 t5 z5 => ?_⟩
  · exact fun b o e n t => (upd_ne n).trans (e3 _ _ (s2 _ _ e) t)
  · have fz : Fz (fun b => b = a) H' H5 := fun b o e n t => e5 _ _ ((upd_ne n).trans (e3 _ _ (s2 _ _ e) t)) t
    have ha5 : H5 a = some (.ins C dx ({ F with b := true } : BF).fs) := e5 _ _ (by rw [F.put_busy, upd_same]) (fun _ z => nomatch z)
    have hen5 : H5 F.en = some (.lst es) := fz _ _ hen nea (fun _ z => nomatch z)
    have ef : putF "is_busy" (.bl false) ({ F with b := true } : BF).fs = F.fs := by
      rw [BF.put_busy]
      exact congrArg BF.fs (bf_eq hb)
    refine ⟨_, F.en, es, ha5, BF.len _, ?_, hen5, hz, ?_⟩
    · rw [ef]
      exact F.entries
    · rw [ef]
      exact fin ev v H5 fz t5 z5 ⟨_, ha5⟩ hen5
section
variable {P : Program} {w : World} {K : PySem.W.Frag} {mg : Str → Option Value} {base : Heap}
abbrev dflMark (K : PySem.W.Frag) : Addr := He.dflAt ("Blocks", some "ask_rows") 0 K
/-- what a writes when it is asked: itself and its log -/
abbrev SA (a en : Addr) : Addr → Prop := fun b => b = a ∨ b = en
def spAR (K : PySem.W.Frag) : Sp := fun vs H Q _ => ∃ (a dx : Addr) (F : BF) (ms : List Ln) (κ : Kd) (Im : Addr → Prop) (rs es : List V) (q : Int), vs = [.ref a, .ref F.rl, .int q, .ref (dflMark K)] ∧ H a = some (.ins (CB K) dx F.fs) ∧ F.b = false ∧ F.z = zeroV κ ∧ H F.rl = some (.lst rs) ∧ Im F.rl ∧ RowsAt Im H κ 0 rs ms ∧
  IsLam mkL H F.fa (.ask κ) ∧ IsLam mkL H F.fj (.jn κ) ∧ H F.en = some (.lst es) ∧ ¬ Im F.en ∧ ms.length < 64 ∧ es.length ≤ 1000000 ∧ q.natAbs < 2 ^ 100 ∧ Tabs (Tbs K) H ∧
  ∀ v H' es', Ans κ q ms v → Fz (SA a F.en) H H' → Tabs (Tbs K) H' → H' a = some (.ins (CB K) dx F.fs) → H' F.en = some (.lst es') → es'.length ≤ es.length + 128 → Q v H'
theorem scAR : FnScope ["self", "rows", "question", "mark", "many", "numbers", "answer", "block", "found"] ["self", "rows", "question", "mark"] (defScope sAskRows) := ⟨rfl, rfl, rfl, by decide +kernel, rfl, by decide +kernel, by decide +kernel⟩
theorem ok_ar (T : Tx K mg base) : ∃ fd, FnOk P w K mg base CX0 8 (He.fAd K ("Blocks", some "ask_rows")) fd ["self", "rows", "question", "mark"] (spAR K) ∧ ∃ ds, Vals [V.ref (dflMark K)] ds ∧ Binds K fd ["self", "rows", "question", "mark"] ds := by
  obtain ⟨fd, F0⟩ := T.sd.def_ 6 (d := OB.mk ("Blocks", some "ask_rows") "Asked.ask_rows" sAskRows "ask_rows" [.adr (He.dflAt ("Blocks", some "ask_rows") 0)])
  obtain ⟨fdc, FC⟩ := T.sd.def_ 3 (d := OB.mk ("Blocks", some "call") "Logged.call" sCall "call")
  refine ⟨fd, okD F0 scAR (fun vs H Q E h => ?_) (fun A outer s H vs Q E hr h => ?_), ?_⟩
  · obtain ⟨a, dx, F, ms, κ, Im, rs, es, q, rfl, _⟩ := h
    rfl
  · have LA := l_all (P := P) (w := w) T
    have tu := tt_uniq (ex_parts T).2.2.2 (mem_tbs tb_ask)
    have TB := T.tb _ (tf_of tb_ask)
    have hlen := T.bi "len"
    refine ⟨_, pss_cons (ps_asg (pe_tup (pa_cons (pe_fld (pv 0) rfl) (pa_cons pe_int pa_nil))) (pg_tup rfl (pgs_cons (pg_name (i := 6) scAR.nd rfl (Or.inr rfl)) (pgs_cons (pg_name (i := 4) scAR.nd rfl (Or.inl rfl)) pgs_nil))))
      (pss_cons (ps_for PassesOwn.never rfl (pi_list (pv 1)) (pg_tup rfl (pgs_cons (pg_name (i := 5) scAR.nd rfl (Or.inl rfl)) (pgs_cons (pg_name (i := 7) scAR.nd rfl (Or.inr rfl)) pgs_nil)))
        (pss_cons (ps_set (i := 8) scAR.nd rfl (Or.inr rfl) (pe_selfcall (T := Tbs K) (pv 0) T.cl (T.na "is_busy") (T.na "entries") (T.me "call") FC (pe_op op_catT (pe_op op_catT (pe_tup (pa_cons pe_str pa_nil)) (pv 3)) (pe_tup (pa_cons (pv 5) pa_nil))) TB rfl (mem_tbs tb_ask) tu hr (lamS_by (sc := defScope sAskRows) (by decide +kernel))
            (tb := tCallF K (CB K) "asker" mkL (spL K) (tVar 0) (tCons (tVar 7) (tCons (tVar 2) tNil))) (fun A' outer' s' H' f c' hr' => pe_callF (pv 0) T.cl (T.na "asker") LA hr' (pa_cons (pv 7) (pa_cons (pv 2) pa_nil)))))
        (pss_cons (ps_if (pt_cmpR op_gt (pv 4) pe_int (nomark _))
            (pss_one (ps_set (i := 8) scAR.nd rfl (Or.inr rfl) (pe_selfcall (T := Tbs K) (pv 0) T.cl (T.na "is_busy") (T.na "entries") (T.me "call") FC (pe_op op_catT (pe_op op_catT (pe_tup (pa_cons pe_str pa_nil)) (pv 3)) (pe_tup (pa_cons (pv 4) (pa_cons (pe_callB call_len_seq (by rfl) hlen PySem.boot_len (pa_cons (pv 5) pa_nil)) pa_nil)))) TB rfl (mem_tbs tb_ask) tu hr (lamS_by (sc := defScope sAskRows) (by decide +kernel))
              (tb := tCallF K (CB K) "joiner" mkL (spL K) (tVar 0) (tCons (tVar 6) (tCons (tVar 8) tNil))) (fun A' outer' s' H' f c' hr' => pe_callF (pv 0) T.cl (T.na "joiner") LA hr' (pa_cons (pv 6) (pa_cons (pv 8) pa_nil)))))) pss_nil)
        (pss_cons (ps_set (i := 6) scAR.nd rfl (Or.inr rfl) (pv 8))
        (pss_one (ps_aug (i := 4) scAR.nd rfl (Or.inl rfl) (pe_callB call_len_seq (by rfl) hlen PySem.boot_len (pa_cons (pv 5) pa_nil)) ip_add))))))
      (pss_one (ps_ret (pv 6)))), ?_⟩
    obtain ⟨a, dx, F, ms, κ, Im, rs, es, q, rfl, ha, hb, hzr, hrl, iml, hrows, hfa, hfj, hen, nim, hz, hes, hq, hT, k⟩ := h
    have fzk : ∀ {H' : Hp}, Fz (SA a F.en) H H' → Kp Im H H' := fun f => f.kp fun b hb' => by
      rcases hb' with rfl | rfl
      · exact free_ins ha
      · exact free_lst hen nim
    have nea : F.en ≠ a := ne_of hen ha (fun z => nomatch z)
    have mk0 : ∀ H' : Hp, SqT K H' (dflMark K) [] := tup0_ok (ex_parts T).2.2.1
    -- answer, many = self.zero, 0
    refine ⟨_, rfl, a, _, dx, _, _, rfl, ha, T.cl, T.na "zero", F.zero, (by show 2 ≤ sizeLine; decide), fun p0 hp0 => ?_⟩
    have F0 : Fz (SA a F.en) H (upd H p0 (.tup [F.z, .int 0])) := Fz.new hp0
    refine ⟨p0, _, rfl, SqT.of upd_same, rfl, _, _, rfl, _, _, rfl, rfl, ?_⟩
    have hrl0 : upd H p0 (.tup [F.z, .int 0]) F.rl = some (.lst rs) := (upd_ne (ne_of_none hrl hp0)).trans hrl
    obtain ⟨H0, eH0⟩ : ∃ H0, H0 = upd H p0 (.tup [F.z, .int 0]) := ⟨_, rfl⟩
    have ha0 : H0 a = some (.ins (CB K) dx F.fs) := by rw [eH0]; exact (upd_ne (ne_of_none ha hp0)).trans ha
    have hen0 : H0 F.en = some (.lst es) := by rw [eH0]; exact (upd_ne (ne_of_none hen hp0)).trans hen
    have hT0 : Tabs (Tbs K) H0 := by rw [eH0]; exact tabs_new hT hp0
    rw [← eH0] at F0 hrl0 ⊢
    refine ⟨_, rfl, F.rl, rfl, ⟨_, SqL.of hrl0⟩, for_list (K := K) (a := F.rl) (xs := rs) (fun i σ H' => ∃ (ma mb : List Ln) (ans : V) (nv bv fv : Option V) (es' : List V), ms = ma ++ mb ∧ RowsAt Im H κ ma.length (rs.drop i) mb ∧
        σ = [some (.ref a), some (.ref F.rl), some (.int q), some (.ref (dflMark K)), some (.int (ma.length : Int)), nv, some ans, bv, fv] ∧ Ans κ q ma ans ∧ Fz (SA a F.en) H H' ∧ Tabs (Tbs K) H' ∧ H' a = some (.ins (CB K) dx F.fs) ∧ H' F.en = some (.lst es') ∧ es'.length ≤ es.length + 2 * i)
      ⟨[], ms, F.z, none, none, none, es, rfl, hrows, rfl, by rw [hzr]; exact ans_zero κ q, F0, hT0, ha0, hen0, Nat.le_refl _⟩ (fun i σ H' _ ⟨_, _, _, _, _, _, _, _, _, _, _, fz, _⟩ => SqL.of ((fzk fz).lst hrl iml)) ?_ ?_⟩
    · rintro i x σ H' hi ⟨ma, mb, ans, nv, bv, fv, es', em, ra, rfl, han, fz, hT', ha', hen', hes'⟩
      have ilt : i < rs.length := (List.getElem?_eq_some_iff.mp hi).1
      have hrl64 : rs.length < 64 := Nat.lt_of_le_of_lt hrows.len hz
      have edrop : rs.drop i = x :: rs.drop (i + 1) := by
        obtain ⟨hlt, ex⟩ := List.getElem?_eq_some_iff.mp hi
        rw [← ex]
        exact List.drop_eq_getElem_cons hlt
      rw [edrop] at ra
      cases ra with
      | @cons _ t nt p _ mc md ht hnt hp hbk hne rr =>
        have kp := fzk fz
        have hms : ma.length + mc.length ≤ ms.length := by
          rw [em, List.length_append, List.length_append]
          omega
        have hnt' : ∀ {H3 : Hp}, Same H' H3 → SqT K H3 nt (nums ma.length mc.length) := fun s3 => SqT.of (s3 _ _ (kp.tup hnt))
        refine ⟨t, _, rfl, SqT.of (kp.tup ht), rfl, _, _, rfl, _, _, rfl, rfl, ?_⟩
        -- the end of the turn
        have tail : ∀ (D : Ends) (v : V) (H7 : Hp) (es7 : List V), Ans κ q (ma ++ mc) v → Fz (SA a F.en) H H7 → Tabs (Tbs K) H7 → H7 a = some (.ins (CB K) dx F.fs) → H7 F.en = some (.lst es7) → es7.length ≤ es.length + 2 * (i + 1) →
            (∀ (σ : L2.St) (H' : Hp), (∃ (ma mb : List Ln) (ans : V) (nv bv fv : Option V) (es' : List V), ms = ma ++ mb ∧ RowsAt Im H κ ma.length (rs.drop (i + 1)) mb ∧
              σ = [some (.ref a), some (.ref F.rl), some (.int q), some (.ref (dflMark K)), some (.int (ma.length : Int)), nv, some ans, bv, fv] ∧ Ans κ q ma ans ∧ Fz (SA a F.en) H H' ∧ Tabs (Tbs K) H' ∧ H' a = some (.ins (CB K) dx F.fs) ∧ H' F.en = some (.lst es') ∧ es'.length ≤ es.length + 2 * (i + 1)) → D.nx σ H') →
            tSeq (tAsg (tVar 8) (gName 6)) (tAug 4 (tCB (fun xs H Q => ∃ p ys, xs = [V.ref p] ∧ (SqL K H p ys ∨ SqT K H p ys) ∧ Q (.int ys.length) H) (tCons (tVar 5) tNil)) (ipI fun i j => i + j)) D
              [some (.ref a), some (.ref F.rl), some (.int q), some (.ref (dflMark K)), some (.int (ma.length : Int)), some (.ref nt), some ans, some (.ref p), some v] H7 := fun D v H7 es7 an7 fz7 t7 a7 e7 l7 nx => by
          refine ⟨_, rfl, _, rfl, _, rfl, nt, _, rfl, .inr (SqT.of ((fzk fz7).tup hnt)), _, _, rfl, rfl, nx _ _ ⟨ma ++ mc, md, v, some (.ref nt), some (.ref p), some v, es7, ?_, ?_, ?_, an7, fz7, t7, a7, e7, l7⟩⟩
          · rw [em, List.append_assoc]
          · rw [List.length_append]
            exact rr
          · show [some (V.ref a), some (.ref F.rl), some (.int q), some (.ref (dflMark K)), some (.int ((ma.length : Int) + ((nums ma.length mc.length).length : Nat))), some (.ref nt), some v, some (.ref p), some v] = _
            rw [nums_len, List.length_append]
            rfl
        have fin : ∀ {H5 : Hp} {es5 : List V} {ev : V}, Fz (SA a F.en) H H5 → Tabs (Tbs K) H5 → (∃ fs, H5 a = some (.ins (CB K) dx fs)) → H5 F.en = some (.lst es5) →
            Fz (SA a F.en) H (upd (upd H5 a (.ins (CB K) dx F.fs)) F.en (.lst (es5 ++ [ev]))) ∧ Tabs (Tbs K) (upd (upd H5 a (.ins (CB K) dx F.fs)) F.en (.lst (es5 ++ [ev]))) ∧
            (upd (upd H5 a (.ins (CB K) dx F.fs)) F.en (.lst (es5 ++ [ev]))) a = some (.ins (CB K) dx F.fs) ∧ (upd (upd H5 a (.ins (CB K) dx F.fs)) F.en (.lst (es5 ++ [ev]))) F.en = some (.lst (es5 ++ [ev])) := fun {H5 es5 ev} f5 t5 ⟨fs5, a5⟩ e5 =>
          ⟨(f5.trans (Fz.wr (.inl rfl))).trans (Fz.wr (.inr rfl)), tabs_lst (tabs_ins t5 a5) ((upd_ne nea).trans e5), (upd_ne nea.symm).trans upd_same, upd_same⟩
        have fa : ∀ {H1 H2 : Hp}, Fz (fun b => b = a) H1 H2 → Fz (SA a F.en) H1 H2 := fun f => f.mono fun b z => .inl z
        -- found = self.call(("ask",) + mark + (numbers,), ..)
        refine self_step (C := CB K) (F := F) (es := es') (Z := fun v _ => Ans κ q mc v) rfl ha' hb hen' (small2M (by omega)) (fun R hR => ?_) (fun H4 R f4 t4 a4 hR => ?_) (fun ev v H5 f5 t5 z5 a5 e5 => ?_)
        · refine ⟨(by show 1 ≤ sizeLine; decide), fun p1 hp1 => ⟨_, rfl, p1, dflMark K, _, [], rfl, rfl, SqT.of upd_same, mk0 _, (by intro z; cases z), (by show 1 ≤ sizeLine; decide), fun _ => ?_, fun z => absurd rfl z⟩⟩
          refine ⟨_, rfl, (by show 1 ≤ sizeLine; decide), fun p2 hp2 => ⟨p1, p2, _, _, rfl, rfl, SqT.of ((upd_ne (ne_of_none upd_same hp2)).trans upd_same), SqT.of upd_same, (by intro z; cases z), (by show 2 ≤ sizeLine; decide), (fun z => nomatch z), fun _ p3 hp3 => hR _ _ (((same_new hp1).trans (same_new hp2)).trans (same_new hp3)) (tabs_new (tabs_new (tabs_new hT' hp1) hp2) hp3)⟩⟩
        · have k4 : Kp Im H H4 := kp.trans (f4.kp fun b hb' => by
            rw [hb']
            exact free_ins ha')
          exact ⟨_, rfl, a, dx, _, F.fa, rfl, a4, BF.asker _, ⟨_, k4.isLam hfa⟩, _, rfl, _, rfl, .ask κ, k4.isLam hfa, p, q, mc, rfl, k4.blk hp hbk, hq, by omega, fun v hv => hR v H4 (ExtN.refl _) t4 hv⟩
        · obtain ⟨f6, t6, a6, e6⟩ := fin (ev := ev) (fz.trans (fa f5)) t5 a5 e5
          obtain ⟨H6, eH6⟩ : ∃ H6, H6 = upd (upd H5 a (.ins (CB K) dx F.fs)) F.en (.lst (es' ++ [ev])) := ⟨_, rfl⟩
          rw [← eH6] at f6 t6 a6 e6 ⊢
          refine ⟨_, rfl, _, _, rfl, rfl, _, rfl, ?_⟩
          have l6 : (es' ++ [ev]).length = es'.length + 1 := by simp
          refine ite2 (fun c => ?_) (fun c => ?_)
          · refine self_step (C := CB K) (F := F) (es := es' ++ [ev]) (Z := fun v _ => Ans κ q (ma ++ mc) v) rfl a6 hb e6 (small2M (by omega)) (fun R hR => ?_) (fun H4 R f4 t4 a4 hR => ?_) (fun ev2 v2 H8 f8 t8 z8 a8 e8 => ?_)
            · refine ⟨(by show 1 ≤ sizeLine; decide), fun p1 hp1 => ⟨_, rfl, p1, dflMark K, _, [], rfl, rfl, SqT.of upd_same, mk0 _, (by intro z; cases z), (by show 1 ≤ sizeLine; decide), fun _ => ?_, fun z => absurd rfl z⟩⟩
              refine ⟨_, rfl, _, rfl, nt, _, rfl, .inr (SqT.of ((upd_ne (ne_of_none ((fzk f6).tup hnt) hp1)).trans ((fzk f6).tup hnt))), (by show 2 ≤ sizeLine; decide), fun p2 hp2 => ⟨p1, p2, _, _, rfl, rfl, SqT.of ((upd_ne (ne_of_none upd_same hp2)).trans upd_same), SqT.of upd_same, (by intro z; cases z), (by show 3 ≤ sizeLine; decide), (fun z => nomatch z), fun _ p3 hp3 => hR _ _ (((same_new hp1).trans (same_new hp2)).trans (same_new hp3)) (tabs_new (tabs_new (tabs_new t6 hp1) hp2) hp3)⟩⟩
            · have k4 : Kp Im H H4 := (fzk f6).trans (f4.kp fun b hb' => by
                rw [hb']
                exact free_ins a6)
              exact ⟨_, rfl, a, dx, _, F.fj, rfl, a4, BF.joiner _, ⟨_, k4.isLam hfj⟩, _, rfl, _, rfl, .jn κ, k4.isLam hfj, q, ma, mc, _, _, rfl, han, z5, fun v hv => hR v H4 (ExtN.refl _) t4 hv⟩
            · obtain ⟨f9, t9, a9, e9⟩ := fin (ev := ev2) (f6.trans (fa f8)) t8 a8 e8
              exact tail _ v2 _ _ z8 f9 t9 a9 e9 (by
                rw [List.length_append, l6]
                simp
                omega) (fun σ H' z => z)
          · have em0 : ma = [] := by
              have : ¬ (0 : Int) < ma.length := fun z => c (decide_eq_true z)
              exact List.eq_nil_of_length_eq_zero (by omega)
            exact tail _ v _ _ (by rw [em0]; exact z5) f6 t6 a6 e6 (by omega) (fun σ H' z => z)
    · rintro σ H' ⟨ma, mb, ans, nv, bv, fv, es', em, ra, rfl, han, fz, hT', ha', hen', hes'⟩
      have emb : mb = [] := by
        rw [List.drop_length] at ra
        cases ra
        rfl
      have ema : ma = ms := by rw [em, emb, List.append_nil]
      subst ema
      have := hrows.len
      exact ⟨_, rfl, k ans H' es' han fz hT' ha' hen' (by omega)⟩
  · exact F0.binds1 (ps := ["self", "rows", "question", "mark"]) 3 0 (by intro z; cases z) rfl fun T kV doc pm an cdv ct us its h1 h2 => match us, h1, its, h2 with | [_, _, _], _, [_], _ => ⟨_, rfl, rfl⟩
end
end OB
namespace OB
open PySem PySem.Spec PyProof.Rows L2 LamX NdefX
/-- a collection of blocks, whole -/
structure ColAt (K : PySem.W.Frag) (Im : Addr → Prop) (H : Hp) (κ : Kd) (a dx : Addr) (F : BF) (ms : List Ln) (rs es : List V) : Prop where
  at_ : H a = some (.ins (CB K) dx F.fs)
  n : F.n = ms.length
  b : F.b = false
  z : F.z = zeroV κ
  kd : H F.kd = some (.dK (kvF κ 0 ms))
  rl : H F.rl = some (.lst rs)
  iml : Im F.rl
  rows : RowsAt Im H κ 0 rs ms
  fa : IsLam mkL H F.fa (.ask κ)
  fj : IsLam mkL H F.fj (.jn κ)
  fb : IsLam mkL H F.fb (.bld κ)
  en : H F.en = some (.lst es)
  nim : ¬ Im F.en
  mok : ∀ m ∈ ms, MOk κ H m
theorem sIx_m1 (n d : Nat) : HT.sIx (n + 1) d (some (-1)) = n := by
  show (if (-1 : Int) < 0 then ((-1 : Int) + ((n + 1 : Nat) : Int)).toNat else min (-1 : Int).toNat (n + 1)) = n
  rw [if_pos (by decide)]
  omega
theorem Kp.same {Im : Addr → Prop} {H H' : Hp} (s : Same H H') : Kp Im H H' := fun b o e _ => s b o e
theorem Fz.same {S : Addr → Prop} {H H' : Hp} (s : Same H H') : Fz S H H' := fun b o e _ _ => s b o e
/-- what may change is there -/
def Dom (Im : Addr → Prop) (H : Hp) : Prop := ∀ x, ¬ Im x → ∃ o, H x = some o ∧ ∀ ps, o ≠ .tbl ps
section
variable {K : PySem.W.Frag} {Im : Addr → Prop} {H H' : Hp} {κ : Kd} {a dx : Addr} {F : BF} {ms : List Ln} {rs es : List V}
theorem ColAt.move (c : ColAt K Im H κ a dx F ms rs es) (k : Kp Im H H') (h1 : H' a = H a) (h2 : H' F.kd = H F.kd) {es' : List V} (h3 : H' F.en = some (.lst es')) : ColAt K Im H' κ a dx F ms rs es' :=
  ⟨h1.trans c.at_, c.n, c.b, c.z, h2.trans c.kd, k.lst c.rl c.iml, c.iml, c.rows.kp k, k.isLam c.fa, k.isLam c.fj, k.isLam c.fb, h3, c.nim, fun m hm => k.mok (c.mok m hm)⟩
/-- what add may write -/
abbrev SK (a kd en : Addr) : Addr → Prop := fun b => b = a ∨ b = kd ∨ b = en
theorem ColAt.kp (c : ColAt K Im H κ a dx F ms rs es) (f : Fz (SK a F.kd F.en) H H') : Kp Im H H' := f.kp fun b hb => by
  rcases hb with rfl | rfl | rfl
  · exact free_ins c.at_
  · exact free_dK c.kd
  · exact free_lst c.en c.nim
end
theorem Dom.im {Im S : Addr → Prop} {H H' : Hp} {x : Addr} (d : Dom Im H) (f : Fz S H H') (h : ∀ b, S b → H' b ≠ none) (n : H' x = none) : Im x := by
  refine Classical.byContradiction fun z => ?_
  obtain ⟨o, ho, hn⟩ := d x z
  by_cases zb : S x
  · exact h x zb n
  · rw [f _ _ ho zb hn] at n
    cases n
section
variable {P : Program} {w : World} {K : PySem.W.Frag} {mg : Str → Option Value} {base : Heap}
def spQ (K : PySem.W.Frag) : Sp := fun vs H Q _ => ∃ (a dx : Addr) (F : BF) (ms : List Ln) (κ : Kd) (Im : Addr → Prop) (rs es : List V) (q : Int), vs = [.ref a, .int q] ∧ ColAt K Im H κ a dx F ms rs es ∧ ms.length < 64 ∧ es.length ≤ 1000000 ∧ q.natAbs < 2 ^ 100 ∧ Tabs (Tbs K) H ∧
  ∀ v H' es', Ans κ q ms v → Fz (SA a F.en) H H' → Tabs (Tbs K) H' → ColAt K Im H' κ a dx F ms rs es' → es'.length ≤ es.length + 128 → Q v H'
theorem scQ : FnScope ["self", "question"] ["self", "question"] (defScope sQuery) := ⟨rfl, rfl, rfl, by decide +kernel, rfl, by decide +kernel, by decide +kernel⟩
theorem ok_q (T : Tx K mg base) : FO P w K mg base 9 ("Blocks", some "query") ["self", "question"] (spQ K) := by
  have G : FO P w K mg base 2 ("Blocks", some "check_ready") ["self"] (spFree K) := ok_cr T
  obtain ⟨fda, FA, ds, hds, hbs⟩ := ok_ar (P := P) (w := w) T
  refine fo_mk (T.sd.def_ 11 (d := OB.mk ("Blocks", some "query") "Blocks.query" sQuery "query")) scQ (fun vs H Q E h => ?_) (fun _ _ _ _ _ _ us hl => match us, hl with | [_, _], _ => rfl) (fun A outer s H vs Q E hr h => ?_)
  · obtain ⟨a, dx, F, ms, κ, Im, rs, es, q, rfl, _⟩ := h
    rfl
  · obtain ⟨a, dx, F, ms, κ, Im, rs, es, q, rfl, c, hz, hes, hq, hT, k⟩ := h
    refine ⟨_, pss_cons (ps_expr (pe_foM0 G (pv 0) T.cl (T.me "check_ready") (hr.mono (by decide)))) (pss_one (ps_ret (pe_meth (pv 0) T.cl (T.me "ask_rows") FA hr hbs hds pass0 (pa_cons (pe_fld (pv 0) rfl) (pa_cons (pv 1) pa_nil))))), ?_⟩
    refine ⟨_, rfl, a, dx, _, rfl, c.at_, F.no "check_ready", a, dx, F, rfl, c.at_, c.b, ?_⟩
    refine ⟨_, rfl, a, dx, _, rfl, c.at_, F.no "ask_rows", _, rfl, a, _, dx, _, _, rfl, c.at_, T.cl, T.na "rows", F.rows, _, rfl, ?_⟩
    refine ⟨a, dx, F, ms, κ, Im, rs, es, q, rfl, c.at_, c.b, c.z, c.rl, c.iml, c.rows, c.fa, c.fj, c.en, c.nim, hz, hes, hq, hT, fun v H' es' h1 f t h2 h3 h4 => k v H' es' h1 f t ?_ h4⟩
    have nka : ¬ SA a F.en F.kd := by
      rintro (z | z)
      · exact ne_of c.kd c.at_ (fun z => nomatch z) z
      · exact ne_of c.kd c.en (fun z => nomatch z) z
    refine c.move (c.kp (f.mono fun b hb => ?_)) (h2.trans c.at_.symm) ((f _ _ c.kd nka fun _ z => nomatch z).trans c.kd.symm) h3
    rcases hb with z | z
    · exact .inl z
    · exact .inr (.inr z)
/-! ### add -/
def spAdd (K : PySem.W.Frag) : Sp := fun vs H Q _ => ∃ (a dx : Addr) (F : BF) (ms : List Ln) (κ : Kd) (Im : Addr → Prop) (rs es : List V) (m : Ln), vs = [.ref a, mV κ m] ∧ ColAt K Im H κ a dx F ms rs es ∧ MOk κ H m ∧ Dom Im H ∧ ms.length < 63 ∧ es.length ≤ 1000000 ∧ Tabs (Tbs K) H ∧
  ∀ v H' n' rl' rs' es', Fz (SK a F.kd F.en) H H' → Tabs (Tbs K) H' → ColAt K Im H' κ a dx ({ F with n := n', rl := rl' } : BF) (ms ++ [m]) rs' es' → es'.length ≤ es.length + 1 → Q v H'
theorem scAdd : FnScope ["self", "member", "numbers", "block", "merged", "members", "number"] ["self", "member"] (defScope sAdd) := ⟨rfl, rfl, rfl, by decide +kernel, rfl, by decide +kernel, by decide +kernel⟩
theorem ok_add (T : Tx K mg base) : FO P w K mg base 8 ("Blocks", some "add") ["self", "member"] (spAdd K) := by
  have G : FO P w K mg base 2 ("Blocks", some "check_ready") ["self"] (spFree K) := ok_cr T
  have GN : FO P w K mg base 2 ("Blocks", some "next_numbers") ["self"] (spNN K) := ok_nn T
  have GK : FO P w K mg base 1 ("Blocks", some "keep") ["self", "member"] (spKeep K) := ok_keep T
  have GE : FO P w K mg base 1 ("exponent", none) ["many"] spExp := ok_exp T
  obtain ⟨fdc, FC⟩ := T.sd.def_ 3 (d := OB.mk ("Blocks", some "call") "Logged.call" sCall "call")
  refine fo_mk (T.sd.def_ 10 (d := OB.mk ("Blocks", some "add") "Blocks.add" sAdd "add")) scAdd (fun vs H Q E h => ?_) (fun _ _ _ _ _ _ us hl => match us, hl with | [_, _], _ => rfl) (fun A outer s H vs Q E hr h => ?_)
  · obtain ⟨a, dx, F, ms, κ, Im, rs, es, m, rfl, _⟩ := h
    rfl
  · have LA := l_all (P := P) (w := w) T
    have tu := tt_uniq (ex_parts T).2.2.2 (mem_tbs tb_add)
    have TB := T.tb _ (tf_of tb_add)
    have hlen := T.bi "len"
    have hu := hu_of hr
    refine ⟨_, pss_cons (ps_expr (pe_foM0 G (pv 0) T.cl (T.me "check_ready") (hr.mono (by decide))))
      (pss_cons (ps_set (i := 2) scAdd.nd rfl (Or.inl rfl) (pe_foM0 GN (pv 0) T.cl (T.me "next_numbers") (hr.mono (by decide))))
      (pss_cons (ps_set (i := 5) scAdd.nd rfl (Or.inr rfl) (pe_op op_cat (pe_lc (own := [("number", 6)]) (wi := iTup K _) (te := tDGet (tFld K (tVar 0) "kept") (tVar 6)) (g := gName 6) (tt := tYes) rfl scAdd.nd
          (pi_tup (pe_slice sl_tup (pv 2) po_none (po_some (pe_un un_neg pe_int)))) (blkOk_by (own := [("number", 6)]) (N := ["self", "member", "numbers", "block", "merged", "members", "number"]) (sc := defScope sAdd) (by decide +kernel))
          (fun _ _ _ _ _ => pg_name (i := 6) scAdd.nd rfl (Or.inl rfl)) (fun _ _ _ _ _ => pts_nil) (fun _ _ _ _ _ => pe_dget hu (pe_fld (pv 0) rfl) (pv 6) (fun _ _ => rfl))) (pe_lst (pa_cons (pv 1) pa_nil))))
      (pss_cons (ps_set (i := 3) scAdd.nd rfl (Or.inl rfl) (pe_selfcall (T := Tbs K) (pv 0) T.cl (T.na "is_busy") (T.na "entries") (T.me "call") FC (pe_tup (pa_cons pe_str (pa_cons (pv 2) pa_nil))) TB rfl (mem_tbs tb_add) tu hr (lamS_by (sc := defScope sAdd) (by decide +kernel))
            (tb := tCallF K (CB K) "builder" mkL (spL K) (tVar 0) (tCons (tVar 5) tNil)) (fun A' outer' s' H' f c' hr' => pe_callF (pv 0) T.cl (T.na "builder") LA hr' (pa_cons (pv 5) pa_nil))))
      (pss_cons (ps_set (i := 4) scAdd.nd rfl (Or.inl rfl) (pe_fo GE (hr.mono (by decide)) rfl (T.glo "exponent") (pa_cons (pe_op op_add (pe_callB call_lenD (by rfl) hlen PySem.boot_len (pa_cons (pe_fld (pv 0) rfl) pa_nil)) pe_int) pa_nil)))
      (pss_cons (ps_fld (pv 0) (pe_op op_cat (pe_slice sl_list (pe_fld (pv 0) rfl) po_none (po_some (pe_op op_sub (pe_callB call_len_seq (by rfl) hlen PySem.boot_len (pa_cons (pe_fld (pv 0) rfl) pa_nil)) (pv 4)))) (pe_lst (pa_cons (pe_tup (pa_cons (pv 2) (pa_cons (pv 3) pa_nil))) pa_nil))) rfl)
      (pss_one (ps_ret (pe_foM GK (pv 0) T.cl (T.me "keep") (hr.mono (by decide)) (pa_cons (pv 1) pa_nil))))))))), ?_⟩
    obtain ⟨a, dx, F, ms, κ, Im, rs, es, m, rfl, c, hmok, hdom, hz, hes, hT, q⟩ := h
    have nka : F.kd ≠ a := ne_of c.kd c.at_ (fun z => nomatch z)
    have nea : F.en ≠ a := ne_of c.en c.at_ (fun z => nomatch z)
    have nke : F.kd ≠ F.en := ne_of c.kd c.en (fun z => nomatch z)
    -- check_ready, next_numbers
    refine ⟨_, rfl, a, dx, _, rfl, c.at_, F.no "check_ready", a, dx, F, rfl, c.at_, c.b, ?_⟩
    refine ⟨_, rfl, a, dx, _, rfl, c.at_, F.no "next_numbers", a, dx, F, ms, κ, Im, rs, rfl, c.at_, c.kd, c.n, c.rl, c.rows, (by omega), fun e m1 m2 p H1 he em r1 r2 s1 hp0 hp => ?_⟩
    obtain ⟨k, hk⟩ : ∃ k, k = cutK rs.length ((rs.length : Int) - e) := ⟨_, rfl⟩
    rw [← hk] at r1 r2
    have hml : m1.length + m2.length = ms.length := by rw [em, List.length_append]
    have T1 : Tabs (Tbs K) H1 := hT.ext s1
    -- numbers[:-1]
    have hnl : (nums m1.length (m2.length + 1)).length = m2.length + 1 := nums_len _ _
    refine ⟨_, rfl, ⟨_, rfl, _, rfl, p, _, rfl, SqT.of hp, ?_, fun p2 hp2 => ?_⟩⟩
    · rw [hnl, sIx_m1]
      omega
    have ecut : cutV (nums m1.length (m2.length + 1)) none (some (-1)) = nums m1.length m2.length := by
      rw [cut_hi]
      show (nums m1.length (m2.length + 1)).take (HT.sIx _ 0 (some (-1))) = _
      rw [hnl, sIx_m1, nums_take (by omega)]
    rw [ecut]
    have s2 : Same H (upd H1 p2 (.tup (nums m1.length m2.length))) := fun b o e => same_new hp2 _ _ (s1 _ _ e)
    have s12 : Same H1 (upd H1 p2 (.tup (nums m1.length m2.length))) := same_new hp2
    have h2p : upd H1 p2 (.tup (nums m1.length m2.length)) p2 = some (.tup (nums m1.length m2.length)) := upd_same
    obtain ⟨H2, eH2⟩ : ∃ H2, H2 = upd H1 p2 (.tup (nums m1.length m2.length)) := ⟨_, rfl⟩
    rw [← eH2] at s2 s12 h2p ⊢
    refine ⟨p2, rfl, ⟨_, SqT.of h2p⟩, fun D hD => it_tup (K := K) (a := p2) (xs := nums m1.length m2.length) (fun i H' => Same H2 H' ∧ H' D = some (.lst ((m2.take i).map (mV κ))))
      ⟨same_new hD, upd_same⟩ (fun i H' _ ⟨s3, _⟩ => SqT.of (s3 _ _ h2p)) ?_ ?_⟩
    · rintro i x H' hi ⟨s3, h3⟩
      have hj : i < m2.length := by
        have := (List.getElem?_eq_some_iff.mp hi).1
        rw [nums_len] at this
        exact this
      have ex : x = .int ((m1.length + i : Nat) : Int) := by
        rw [nums_get hj] at hi
        exact (Option.some.inj hi).symm
      subst ex
      have hget : valV (kvF κ 0 ms) (.inl ((m1.length + i : Nat) : Int)) = some (mV κ m2[i]) := by
        have h0 : ms[m1.length + i]? = some m2[i] := by
          rw [em, List.getElem?_append_right (by omega), Nat.add_sub_cancel_left]
          exact List.getElem?_eq_getElem hj
        have := kvF_get κ (lo := 0) h0
        rw [Nat.zero_add] at this
        exact this
      have hdg : DGet H' F.kd (.int ((m1.length + i : Nat) : Int)) (some (mV κ m2[i])) := by
        have := DGet.k (k := .inl ((m1.length + i : Nat) : Int)) (s3 _ _ (s2 _ _ c.kd))
        rw [hget] at this
        exact this
      refine ⟨rfl, _, rfl, a, _, dx, _, _, rfl, s3 _ _ (s2 _ _ c.at_), T.cl, T.na "kept", F.kept, _, rfl, F.kd, _, rfl, hdg, _, h3, ?_, fun b o e => ?_, ?_⟩
      · rw [List.length_map, List.length_take]
        exact small1000 (by omega)
      · refine (upd_ne (fun z => ?_)).trans (s3 b o e)
        rw [z, hD] at e
        cases e
      · rw [upd_same, List.take_add_one, List.getElem?_eq_getElem hj, List.map_append]
        rfl
    · rintro H3 ⟨s3, h3⟩
      rw [nums_len, List.take_length] at h3
      refine ⟨_, rfl, (by show 1 ≤ sizeLine; decide), fun l2 hl2 => ?_⟩
      have nDl : D ≠ l2 := ne_of_none h3 hl2
      refine ⟨D, l2, _, _, rfl, rfl, (upd_ne nDl).trans h3, upd_same, ?_, fun L hL => ?_⟩
      · rw [List.length_map]
        exact Nat.le_of_lt (small1000 (by show m2.length + 1 ≤ 1000; omega))
      have s15 : Same H1 (upd (upd H3 l2 (.lst [mV κ m])) L (.lst (m2.map (mV κ) ++ [mV κ m]))) := ((s12.trans s3).trans (same_new hl2)).trans (same_new hL)
      have h5L : upd (upd H3 l2 (.lst [mV κ m])) L (.lst (m2.map (mV κ) ++ [mV κ m])) L = some (.lst ((m2 ++ [m]).map (mV κ))) := by
        rw [upd_same, List.map_append]
        rfl
      obtain ⟨H5, eH5⟩ : ∃ H5, H5 = upd (upd H3 l2 (.lst [mV κ m])) L (.lst (m2.map (mV κ) ++ [mV κ m])) := ⟨_, rfl⟩
      rw [← eH5] at s15 h5L ⊢
      have s5 : Same H H5 := s1.trans s15
      have T5 : Tabs (Tbs K) H5 := hT.ext s5
      -- block = self.call(..)
      refine self_step (C := CB K) (F := F) (es := es) (Z := fun v H' => ∃ bp, v = .ref bp ∧ Im bp ∧ BlkAt κ H' bp (m2 ++ [m])) rfl (s5 _ _ c.at_) c.b (s5 _ _ c.en) (small2M (by omega)) (fun R hR => ?_) (fun H4 R f4 t4 a4 hR => ?_) (fun ev v H6 f6 t6 z6 a6 e6 => ?_)
      · exact ⟨_, rfl, (by show 2 ≤ sizeLine; decide), fun p1 hp1 => hR _ _ (same_new hp1) (tabs_new T5 hp1)⟩
      · have k4 : Kp Im H H4 := (Kp.same s5).trans (f4.kp fun b hb' => by
          rw [hb']
          exact free_ins (s5 _ _ c.at_))
        have h4L : H4 L = some (.lst ((m2 ++ [m]).map (mV κ))) := f4 _ _ h5L (ne_of h5L (s5 _ _ c.at_) (fun z => nomatch z)) (fun _ z => nomatch z)
        refine ⟨_, rfl, a, dx, _, F.fb, rfl, a4, BF.builder _, ⟨_, k4.isLam c.fb⟩, _, rfl, .bld κ, k4.isLam c.fb, L, m2 ++ [m], rfl, h4L, fun x hx => k4.mok ?_, by simp, ?_, t4, fun bp H7 e7 t7 n7 b7 => hR _ H7 e7 t7 ⟨bp, rfl, ?_, b7⟩⟩
        · rcases List.mem_append.mp hx with z | z
          · exact c.mok x (by rw [em]; exact List.mem_append.mpr (.inr z))
          · rw [List.mem_singleton.mp z]
            exact hmok
        · rw [List.length_append, List.length_singleton]
          omega
        · exact hdom.im ((Fz.same s5).trans f4) (fun b hb => by rw [hb, a4]; exact fun z => nomatch z) n7
      · obtain ⟨bp, rfl, hbp, blk6⟩ := z6
        obtain ⟨fs6, a6⟩ := a6
        have kd6 : H6 F.kd = some (.dK (kvF κ 0 ms)) := f6 _ _ (s5 _ _ c.kd) nka (fun _ z => nomatch z)
        have k67 : Kp Im H6 (upd (upd H6 a (.ins (CB K) dx F.fs)) F.en (.lst (es ++ [ev]))) := (Kp.wr (free_ins a6)).trans (Kp.wr (free_lst ((upd_ne nea).trans e6) c.nim))
        have k17 := ((Kp.same (Im := Im) s15).trans (f6.kp fun b hb' => by
          rw [hb']
          exact free_ins (s5 _ _ c.at_))).trans k67
        have f7 : Fz (SK a F.kd F.en) H (upd (upd H6 a (.ins (CB K) dx F.fs)) F.en (.lst (es ++ [ev]))) := (((Fz.same s5).trans (f6.mono fun b z => .inl z)).trans (Fz.wr (.inl rfl))).trans (Fz.wr (.inr (.inr rfl)))
        have t7 : Tabs (Tbs K) (upd (upd H6 a (.ins (CB K) dx F.fs)) F.en (.lst (es ++ [ev]))) := tabs_lst (tabs_ins t6 a6) ((upd_ne nea).trans e6)
        have a7 : upd (upd H6 a (.ins (CB K) dx F.fs)) F.en (.lst (es ++ [ev])) a = some (.ins (CB K) dx F.fs) := (upd_ne nea.symm).trans upd_same
        have e7 : upd (upd H6 a (.ins (CB K) dx F.fs)) F.en (.lst (es ++ [ev])) F.en = some (.lst (es ++ [ev])) := upd_same
        have kd7 : upd (upd H6 a (.ins (CB K) dx F.fs)) F.en (.lst (es ++ [ev])) F.kd = some (.dK (kvF κ 0 ms)) := (upd_ne nke).trans ((upd_ne nka).trans kd6)
        obtain ⟨H7, eH7⟩ : ∃ H7, H7 = upd (upd H6 a (.ins (CB K) dx F.fs)) F.en (.lst (es ++ [ev])) := ⟨_, rfl⟩
        rw [← eH7] at k67 k17 f7 t7 a7 e7 kd7 ⊢
        have blk7 := k67.blk hbp blk6
        have hp7 := k17.tup hp
        have hrl7 : H7 F.rl = some (.lst rs) := k17.lst (s1 _ _ c.rl) c.iml
        -- merged
        refine ⟨_, rfl, a, _, dx, _, _, rfl, a7, T.cl, T.na "kept", F.kept, F.kd, _, rfl, kd7, _, _, rfl, rfl, ms.length + 1, ?_, by omega, fun e' he' => ?_⟩
        · rw [kvF_len]
          rfl
        have ee : e' = e := isExp_one he' he
        subst ee
        -- self.rows
        refine ⟨_, rfl, a, _, dx, _, _, rfl, a7, T.cl, T.na "rows", F.rows, _, rfl, a, _, dx, _, _, rfl, a7, T.cl, T.na "rows", F.rows, F.rl, _, rfl, .inl (SqL.of hrl7), _, rfl, _, _, rfl, rfl, _, rfl, F.rl, _, rfl, SqL.of hrl7, fun sl hsl => ?_⟩
        rw [cut_hi, ← hk]
        refine ⟨_, rfl, _, rfl, (by show 2 ≤ sizeLine; decide), fun tp htp => ⟨(by show 1 ≤ sizeLine; decide), fun l3 hl3 => ?_⟩⟩
        have hsl1 : upd (upd H7 sl (.lst (rs.take k))) tp (.tup [.ref p, .ref bp]) sl = some (.lst (rs.take k)) := (same_new htp) _ _ upd_same
        refine ⟨sl, l3, _, _, rfl, rfl, (same_new hl3) _ _ hsl1, upd_same, ?_, fun rl' hrl' => ?_⟩
        · have := c.rows.len
          rw [List.length_take]
          exact Nat.le_of_lt (small1000 (by show _ + 1 ≤ 1000; omega))
        have s7n := ((same_new (o := .lst (rs.take k)) hsl).trans (same_new (o := .tup [.ref p, .ref bp]) htp)).trans (same_new (o := .lst [.ref tp]) hl3)
        have htpn := (same_new (o := .lst [.ref tp]) hl3) _ _ (upd_same (H := upd H7 sl (.lst (rs.take k))) (a := tp) (o := .tup [.ref p, .ref bp]))
        obtain ⟨Hn, eHn⟩ : ∃ Hn, Hn = upd (upd (upd H7 sl (.lst (rs.take k))) tp (.tup [.ref p, .ref bp])) l3 (.lst [.ref tp]) := ⟨_, rfl⟩
        rw [← eHn] at s7n htpn hrl' ⊢
        have imr : Im rl' := hdom.im (f7.trans (Fz.same s7n)) (fun b hb z => by
          rcases hb with hb | hb | hb
          · rw [hb, s7n _ _ a7] at z
            cases z
          · rw [hb, s7n _ _ kd7] at z
            cases z
          · rw [hb, s7n _ _ e7] at z
            cases z) hrl'
        have s78 := s7n.trans (same_new (o := .lst (rs.take k ++ [.ref tp])) hrl')
        have htp8 := (same_new (o := .lst (rs.take k ++ [.ref tp])) hrl') _ _ htpn
        have hrl8 := upd_same (H := Hn) (a := rl') (o := .lst (rs.take k ++ [.ref tp]))
        obtain ⟨H8, eH8⟩ : ∃ H8, H8 = upd Hn rl' (.lst (rs.take k ++ [.ref tp])) := ⟨_, rfl⟩
        rw [← eH8] at s78 htp8 hrl8 ⊢
        have a8 := s78 _ _ a7
        have kd8 := s78 _ _ kd7
        have e8 := s78 _ _ e7
        refine ⟨_, rfl, a, _, dx, _, rfl, a8, T.cl, T.na "rows", F.len, ?_⟩
        rw [F.put_rows]
        have ka := Kp.wr (Im := Im) (H := H8) (o := .ins (CB K) dx ({ F with rl := rl' } : BF).fs) (free_ins a8)
        have fa := Fz.wr (S := SK a F.kd F.en) (H := H8) (a := a) (o := .ins (CB K) dx ({ F with rl := rl' } : BF).fs) (.inl rfl)
        have ta := tabs_ins (o' := .ins (CB K) dx ({ F with rl := rl' } : BF).fs) (t7.ext s78) a8
        have aa := upd_same (H := H8) (a := a) (o := .ins (CB K) dx ({ F with rl := rl' } : BF).fs)
        have kda := (upd_ne (H := H8) (o := .ins (CB K) dx ({ F with rl := rl' } : BF).fs) nka).trans kd8
        have ea := (upd_ne (H := H8) (o := .ins (CB K) dx ({ F with rl := rl' } : BF).fs) nea).trans e8
        obtain ⟨Ha, eHa⟩ : ∃ Ha, Ha = upd H8 a (.ins (CB K) dx ({ F with rl := rl' } : BF).fs) := ⟨_, rfl⟩
        rw [← eHa] at ka fa ta aa kda ea ⊢
        -- keep
        refine ⟨_, rfl, a, dx, _, rfl, aa, BF.no _ "keep", _, rfl, a, dx, ({ F with rl := rl' } : BF), mV κ m, kvF κ 0 ms, rfl, aa, kda, ?_, ?_⟩
        · rw [kvF_len]
          exact small1000 (by omega)
        have en : F.n = (ms.length : Int) := c.n
        have ep : putK (kvF κ 0 ms) (.inl ({ F with rl := rl' } : BF).n) (mV κ m) = kvF κ 0 (ms ++ [m]) := by
          show putK (kvF κ 0 ms) (.inl F.n) (mV κ m) = _
          rw [en, kvF_put]
        rw [ep]
        have kb := Kp.wr (Im := Im) (H := Ha) (o := .dK (kvF κ 0 (ms ++ [m]))) (free_dK kda)
        have fb := Fz.wr (S := SK a F.kd F.en) (H := Ha) (a := F.kd) (o := .dK (kvF κ 0 (ms ++ [m]))) (.inr (.inl rfl))
        have tb := tabs_dK (o' := .dK (kvF κ 0 (ms ++ [m]))) ta kda
        have kdb := upd_same (H := Ha) (a := F.kd) (o := .dK (kvF κ 0 (ms ++ [m])))
        have ab := (upd_ne (H := Ha) (o := .dK (kvF κ 0 (ms ++ [m]))) nka.symm).trans aa
        have eb := (upd_ne (H := Ha) (o := .dK (kvF κ 0 (ms ++ [m]))) nke.symm).trans ea
        obtain ⟨Hb, eHb⟩ : ∃ Hb, Hb = upd Ha F.kd (.dK (kvF κ 0 (ms ++ [m]))) := ⟨_, rfl⟩
        show Q (.int F.n) (upd (upd Ha F.kd (.dK (kvF κ 0 (ms ++ [m])))) a (.ins (CB K) dx ({ F with n := F.n + 1, rl := rl' } : BF).fs))
        rw [← eHb] at kb fb tb kdb ab eb ⊢
        have k78 : Kp Im H7 H8 := Kp.same s78
        have k8b := (ka.trans kb).trans (Kp.wr (o := .ins (CB K) dx ({ F with n := F.n + 1, rl := rl' } : BF).fs) (free_ins ab))
        have k7b := k78.trans k8b
        have k0b := ((Kp.same s1).trans k17).trans k7b
        refine q _ _ (F.n + 1) rl' (rs.take k ++ [.ref tp]) (es ++ [ev]) (((((f7.trans (Fz.same s78)).trans fa).trans fb).trans (Fz.wr (.inl rfl)))) (tabs_ins tb ab) ⟨upd_same, ?_, c.b, c.z, (upd_ne nka).trans kdb, k8b.lst hrl8 imr, imr, ?_, k0b.isLam c.fa, k0b.isLam c.fj, k0b.isLam c.fb, (upd_ne nea).trans eb, c.nim, fun x hx => k0b.mok ?_⟩ ?_
        · show F.n + 1 = ((ms ++ [m]).length : Int)
          rw [en, List.length_append]
          rfl
        · have := (r1.kp k0b).app (RowsAt.cons (lo := 0 + m1.length) (nt := p) (p := bp) (m1 := m2 ++ [m]) (m2 := []) (vs := []) (k8b.tup htp8) ?_ hbp (k7b.blk hbp blk7) (by simp) (.nil _))
          · rw [List.append_nil, ← List.append_assoc, ← em] at this
            exact this
          · rw [List.length_append, List.length_singleton, Nat.zero_add]
            exact k7b.tup hp7
        · rcases List.mem_append.mp hx with z | z
          · exact c.mok x z
          · rw [List.mem_singleton.mp z]
            exact hmok
        · rw [List.length_append]
          exact Nat.le_refl _
end
end OB
namespace OB
open PySem PySem.Spec PyProof.Rows L2 LamX NdefX
section
variable {P : Program} {w : World} {K : PySem.W.Frag} {mg : Str → Option Value} {base : Heap}
def spBr (K : PySem.W.Frag) : Sp := fun vs H Q _ => ∃ (a dx : Addr) (F : BF) (ms : List Ln) (κ : Kd) (Im : Addr → Prop) (rs es : List V), vs = [.ref a] ∧ ColAt K Im H κ a dx F ms rs es ∧ ms.length < 1000 ∧
  ∀ (o dx' : Addr) (F' : BF) (H' : Hp), Same H H' → H o = none → H F'.kd = none → H F'.en = none → H F'.rl = none → F'.rl ≠ F'.en →
    (∀ Im' : Addr → Prop, (∀ b, Im b → (∃ xs, H b = some (.lst xs)) → Im' b) → Im' F'.rl → ¬ Im' F'.en → ColAt K Im' H' κ o dx' F' ms rs []) → Q (.ref o) H'
theorem scBr : FnScope ["self", "other"] ["self"] (defScope sBranch) := ⟨rfl, rfl, rfl, by decide +kernel, rfl, by decide +kernel, by decide +kernel⟩
theorem ok_br (T : Tx K mg base) : FO P w K mg base 5 ("Blocks", some "branch") ["self"] (spBr K) := by
  have G : FO P w K mg base 2 ("Blocks", some "check_ready") ["self"] (spFree K) := ok_cr T
  obtain ⟨fdi, FI, ⟨g, hkb⟩, _⟩ := ok_bi (P := P) (w := w) T
  refine fo_mk (T.sd.def_ 12 (d := OB.mk ("Blocks", some "branch") "Blocks.branch" sBranch "branch")) scBr (fun vs H Q E h => ?_) (fun _ _ _ _ _ _ us hl => match us, hl with | [_], _ => rfl) (fun A outer s H vs Q E hr h => ?_)
  · obtain ⟨a, dx, F, ms, κ, Im, rs, es, rfl, _⟩ := h
    rfl
  · have hu := hu_of hr
    refine ⟨_, pss_cons (ps_expr (pe_foM0 G (pv 0) T.cl (T.me "check_ready") (hr.mono (by decide))))
      (pss_cons (ps_set (i := 1) scBr.nd rfl (Or.inl rfl) (pe_makeK (ks := ["zero"]) (n := 3) T.mkr FI hr rfl (T.glo "Blocks") hkb pass0 (pa_cons (pe_fld (pv 0) rfl) (pa_cons (pe_fld (pv 0) rfl) (pa_cons (pe_fld (pv 0) rfl) pa_nil))) (pk_cons (pe_fld (pv 0) rfl) pk_nil)))
      (pss_cons (ps_expr (pe_bm PySem.F.plainAttrs_dict PySem.F.slot_dict_update PySem.F.type_dict_update mt_dupdate (pe_fld (pv 1) rfl) (pa_cons (pe_fld (pv 0) rfl) pa_nil)))
      (pss_cons (ps_fld (pv 1) (pe_fld (pv 0) rfl) rfl)
      (pss_cons (ps_fld (pv 1) (pe_callTy call_list_of (by rfl) (T.bi "list") (by decide +kernel) (pa_cons (pe_fld (pv 0) rfl) pa_nil)) rfl)
      (pss_one (ps_ret (pv 1))))))), ?_⟩
    obtain ⟨a, dx, F, ms, κ, Im, rs, es, rfl, c, hz, q⟩ := h
    refine ⟨_, rfl, a, dx, _, rfl, c.at_, F.no "check_ready", a, dx, F, rfl, c.at_, c.b, ?_⟩
    refine ⟨_, rfl, a, _, dx, _, _, rfl, c.at_, T.cl, T.na "builder", F.builder, _, rfl, a, _, dx, _, _, rfl, c.at_, T.cl, T.na "asker", F.asker, _, rfl, a, _, dx, _, _, rfl, c.at_, T.cl, T.na "joiner", F.joiner,
      _, rfl, a, _, dx, _, _, rfl, c.at_, T.cl, T.na "zero", F.zero, rfl, rfl, fun o dx' ho hdx hne => ?_⟩
    have s1 : Same H (upd (upd H dx' (.own o)) o (.ins (CB K) dx' [])) := (same_new hdx).trans (same_new ((upd_ne hne.symm).trans ho))
    refine ⟨o, dx', F.fb, F.fa, F.fj, F.z, rfl, upd_same, fun H1 kd en rl e1 k1 k2 k3 ner hkd hen hrl ho1 => ⟨rfl, ?_⟩⟩
    obtain ⟨H0, eH0⟩ : ∃ H0, H0 = upd (upd H dx' (.own o)) o (.ins (CB K) dx' []) := ⟨_, rfl⟩
    have ho0 : H0 o = some (.ins (CB K) dx' []) := by
      rw [eH0]
      exact upd_same
    rw [← eH0] at s1 e1 k1 k2 k3
    have s2 : Same H H1 := fun b u e => e1 b u (s1 b u e) (fun z => by
      rw [z, ho] at e
      cases e)
    have nko : kd ≠ o := (ne_of_none ho0 k1).symm
    have neo : en ≠ o := (ne_of_none ho0 k2).symm
    have nro : rl ≠ o := (ne_of_none ho0 k3).symm
    have nak : F.kd ≠ kd := ne_of_none c.kd (s1.free k1)
    have nek : en ≠ kd := ne_of hen hkd (fun z => nomatch z)
    have nrk : rl ≠ kd := ne_of hrl hkd (fun z => nomatch z)
    refine ⟨_, rfl, o, _, dx', _, _, rfl, ho1, T.cl, T.na "kept", BF.kept _, .inr (.inr (.inl ⟨rfl, .inl ⟨_, hkd⟩⟩)), _, rfl, a, _, dx, _, _, rfl, s2 _ _ c.at_, T.cl, T.na "kept", F.kept, kd, F.kd, [], kvF κ 0 ms, rfl, rfl, nak.symm, hkd, .inl (s2 _ _ c.kd), ?_, ?_⟩
    · rw [kvF_len]
      exact Nat.le_of_lt (small1000 (by show 0 + ms.length ≤ 1000; omega))
    have emk : mergeK [] (kvF κ 0 ms) = kvF κ 0 ms := kvF_merge κ ms []
    rw [emk]
    have s3 : ∀ b u, H1 b = some u → b ≠ kd → upd H1 kd (.dK (kvF κ 0 ms)) b = some u := fun b u e n => (upd_ne n).trans e
    have hkd3 : upd H1 kd (.dK (kvF κ 0 ms)) kd = some (.dK (kvF κ 0 ms)) := upd_same
    obtain ⟨H3, eH3⟩ : ∃ H3, H3 = upd H1 kd (.dK (kvF κ 0 ms)) := ⟨_, rfl⟩
    rw [← eH3] at s3 hkd3 ⊢
    have s03 : Same H H3 := fun b u e => s3 b u (s2 b u e) (ne_of_none e (s1.free k1))
    have ho3 := s3 _ _ ho1 nko.symm
    refine ⟨_, rfl, a, _, dx, _, _, rfl, s03 _ _ c.at_, T.cl, T.na "next_number", F.next, _, rfl, o, _, dx', _, rfl, ho3, T.cl, T.na "next_number", BF.len _, ?_⟩
    rw [BF.put_next]
    have s4 : ∀ b u, H3 b = some u → b ≠ o → upd H3 o (.ins (CB K) dx' (⟨kd, F.n, en, false, F.fa, F.fj, F.z, F.fb, rl⟩ : BF).fs) b = some u := fun b u e n => (upd_ne n).trans e
    have ho4 : upd H3 o (.ins (CB K) dx' (⟨kd, F.n, en, false, F.fa, F.fj, F.z, F.fb, rl⟩ : BF).fs) o = _ := upd_same
    obtain ⟨H4, eH4⟩ : ∃ H4, H4 = upd H3 o (.ins (CB K) dx' (⟨kd, F.n, en, false, F.fa, F.fj, F.z, F.fb, rl⟩ : BF).fs) := ⟨_, rfl⟩
    rw [← eH4] at s4 ho4
    show _
    rw [← eH4]
    have s04 : Same H H4 := fun b u e => s4 b u (s03 b u e) (ne_of_none e ho)
    refine ⟨_, rfl, a, _, dx, _, _, rfl, s04 _ _ c.at_, T.cl, T.na "rows", F.rows, F.rl, rs, rfl, .inl (SqL.of (s04 _ _ c.rl)), fun l hl => ?_⟩
    have s5 := same_new (o := .lst rs) hl
    refine ⟨_, rfl, o, _, dx', _, rfl, s5 _ _ ho4, T.cl, T.na "rows", BF.len _, _, rfl, ?_⟩
    rw [BF.put_rows]
    have hl0 : H l = none := s04.free hl
    have hen4 : H4 en = some (.lst []) := s4 _ _ (s3 _ _ hen nek) neo
    have nlo : l ≠ o := (ne_of_none ho4 hl).symm
    have nle : l ≠ en := (ne_of_none hen4 hl).symm
    have s05 : Same H (upd (upd H4 l (.lst rs)) o (.ins (CB K) dx' (⟨kd, F.n, en, false, F.fa, F.fj, F.z, F.fb, l⟩ : BF).fs)) := fun b u e => (upd_ne (ne_of_none e ho)).trans (s5 _ _ (s04 b u e))
    refine q o dx' ⟨kd, F.n, en, false, F.fa, F.fj, F.z, F.fb, l⟩ _ s05 ho (s1.free k1) (s1.free k2) hl0 nle (fun Im' hi hl' he' => ?_)
    have kp := Kp.same (Im := Im) s05
    refine ⟨upd_same, c.n, rfl, c.z, (upd_ne nko).trans (s5 _ _ (s4 _ _ hkd3 nko)), (upd_ne nlo).trans upd_same, hl', (c.rows.im2 hi).kp (Kp.same s05), kp.isLam c.fa, kp.isLam c.fj, kp.isLam c.fb, (upd_ne neo).trans (s5 _ _ hen4), he', fun m hm => kp.mok (c.mok m hm)⟩
end
end OB
namespace OB
open PySem PySem.Spec PyProof.Rows L2 LamX NdefX
theorem Fz.one {b : Addr} {H : Hp} {o : HO} : Fz (fun x => x = b) H (upd H b o) := fun x u e n _ => (upd_ne n).trans e
/-- a bag: what is left of its cell, the seed, the count -/
def BagAt (H : Hp) (b : Addr) : Prop := ∃ g s n : Int, H b = some (.lst [.int g, .int s, .int n]) ∧ 0 ≤ g ∧ 0 ≤ s ∧ s < 2147483647
/-- only the bag changed -/
structure Bs (b : Addr) (H H' : Hp) : Prop where
  fz : Fz (fun x => x = b) H H'
  tb : ∀ T, Tabs T H → Tabs T H'
  bag : BagAt H' b
theorem Bs.trans {b : Addr} {H H1 H2 : Hp} (x : Bs b H H1) (y : Bs b H1 H2) : Bs b H H2 := ⟨x.fz.trans y.fz, fun T t => y.tb T (x.tb T t), y.bag⟩
theorem Bs.refl {b : Addr} {H : Hp} (h : BagAt H b) : Bs b H H := ⟨Fz.refl _ _, fun _ t => t, h⟩
theorem Bs.new {b p : Addr} {H : Hp} {o : HO} (h : BagAt H b) (n : H p = none) : Bs b H (upd H p o) := ⟨Fz.new n, fun _ t => tabs_new t n, by
  obtain ⟨g, s, m, e, r⟩ := h
  exact ⟨g, s, m, (upd_ne (ne_of_none e n)).trans e, r⟩⟩
section
variable {P : Program} {w : World} {K : PySem.W.Frag} {mg : Str → Option Value} {base : Heap}
def spTake : Sp := fun vs H Q _ => ∃ (b : Addr) (k : Int), vs = [.ref b, .int k] ∧ BagAt H b ∧ 0 < k ∧ k.natAbs < 2 ^ 100 ∧ ∀ (r : Int) (H' : Hp), 0 ≤ r → r < k → Bs b H H' → Q (.int r) H'
theorem scTake : FnScope ["_law_bag_here", "_law_many", "_law_digit"] ["_law_bag_here", "_law_many"] (defScope sTake) := ⟨rfl, rfl, rfl, by decide +kernel, rfl, by decide +kernel, by decide +kernel⟩
theorem ok_take (T : Tx K mg base) : FO P w K mg base 1 ("_law_take", none) ["_law_bag_here", "_law_many"] spTake := by
  refine fo_mk (T.sd.def_ 20 (d := OB.mk ("_law_take", none) "_law_take" sTake "_law_take")) scTake (fun vs H Q E h => ?_) (fun _ _ _ _ _ _ us hl => match us, hl with | [_, _], _ => rfl) (fun A outer s H vs Q E hr h => ?_)
  · obtain ⟨b, k, rfl, _⟩ := h
    rfl
  · obtain ⟨b, k, rfl, ⟨g, sd, n, hb, hg, hs0, hs1⟩, hk, hk9, q⟩ := h
    refine ⟨_, pss_cons (ps_if (pt_cmpR op_gt (pe_ix ix_list (pv 0) pe_int (fun _ _ => rfl)) pe_int (nomark _))
        (pss_cons (ps_set (i := 2) scTake.nd rfl (Or.inl rfl) (pe_op op_mod (pe_ix ix_list (pv 0) pe_int (fun _ _ => rfl)) (pv 1)))
          (pss_cons (ps_asg (pe_op op_fdivW (pe_ix ix_list (pv 0) pe_int (fun _ _ => rfl)) (pv 1)) (pg_sub (pv 0) pe_int set_list)) (pss_one (ps_ret (pv 2))))) pss_nil)
      (pss_cons (ps_asg (pe_op op_add (pe_ix ix_list (pv 0) pe_int (fun _ _ => rfl)) pe_int) (pg_sub (pv 0) pe_int set_list))
      (pss_cons (ps_asg (pe_op op_mod (pe_op op_add (pe_op op_add (pe_op op_mul (pe_ix ix_list (pv 0) pe_int (fun _ _ => rfl)) pe_int) (pe_op op_mul pe_int (pe_ix ix_list (pv 0) pe_int (fun _ _ => rfl)))) pe_int) pe_int) (pg_sub (pv 0) pe_int set_list))
      (pss_one (ps_ret (pe_op op_mod (pe_op op_mod (pe_op op_pow (pe_op op_fdiv (pe_ix ix_list (pv 0) pe_int (fun _ _ => rfl)) pe_int) pe_int) pe_int) (pv 1)))))), ?_⟩
    refine ⟨_, rfl, b, _, _, .int g, rfl, rfl, SqL.of hb, rfl, _, _, rfl, rfl, _, rfl, ?_⟩
    refine ite2 (fun c => ?_) (fun c => ?_)
    · refine ⟨_, rfl, b, _, _, .int g, rfl, rfl, SqL.of hb, rfl, _, rfl, _, _, rfl, rfl, hk, ?_⟩
      refine ⟨_, rfl, b, _, _, .int g, rfl, rfl, SqL.of hb, rfl, _, rfl, _, _, rfl, rfl, wide_div hk hk9 (by decide) (by decide), ?_⟩
      refine ⟨_, rfl, b, _, _, 0, rfl, rfl, hb, rfl, _, rfl, ?_⟩
      exact q _ _ (Int.emod_nonneg _ (by omega)) (Int.emod_lt_of_pos _ hk) ⟨Fz.one, fun _ t => tabs_lst t hb, _, _, _, upd_same, Int.ediv_nonneg hg (by omega), hs0, hs1⟩
    · refine ⟨_, rfl, b, _, _, .int n, rfl, rfl, SqL.of hb, rfl, _, _, rfl, rfl, _, rfl, b, _, _, 2, rfl, rfl, hb, rfl, ?_⟩
      refine ⟨_, rfl, b, _, _, .int sd, rfl, rfl, SqL.of upd_same, rfl, _, _, rfl, rfl, .inr ⟨by decide, by decide⟩, _, rfl, b, _, _, .int (n + 1), rfl, rfl, SqL.of upd_same, rfl, _, _, rfl, rfl, .inl ⟨by decide, by decide⟩, _, _, rfl, rfl, _, _, rfl, rfl, _, _, rfl, rfl, (by show (0 : Int) < 2147483647; decide), ?_⟩
      refine ⟨_, rfl, b, _, _, 1, rfl, rfl, upd_same, rfl, ?_⟩
      have h0 := Int.emod_nonneg (sd * 69621 + 6007 * (n + 1) + 19) (b := 2147483647) (by decide)
      have h1 := Int.emod_lt_of_pos (sd * 69621 + 6007 * (n + 1) + 19) (b := 2147483647) (by decide)
      refine ⟨_, rfl, b, _, _, .int ((sd * 69621 + 6007 * (n + 1) + 19) % 2147483647), rfl, rfl, SqL.of upd_same, rfl, _, _, rfl, rfl, (by show (0 : Int) < 8 ∧ (8 : Int) < 1073741824; decide), _, _, rfl, rfl, ⟨by decide, by decide, ?_⟩, _, _, rfl, rfl, (by show (0 : Int) < 2147483629; decide), _, rfl, _, _, rfl, rfl, hk, ?_⟩
      · have h2 : 2 ^ 64 = 18446744073709551616 := by decide
        rw [h2]
        omega
      · refine q _ _ (Int.emod_nonneg _ (by omega)) (Int.emod_lt_of_pos _ hk) ⟨Fz.one.trans Fz.one, fun _ t => tabs_lst (tabs_lst t hb) upd_same, _, _, _, upd_same, hg, h0, h1⟩
/-! ### _law_integer -/
def spInt : Sp := fun vs H Q _ => ∃ b : Addr, vs = [.ref b] ∧ BagAt H b ∧ ∀ (z : Int) (H' : Hp), z.natAbs < 10 ^ 20 → Bs b H H' → Q (.int z) H'
theorem scInt : FnScope ["_law_bag_here", "_law_some"] ["_law_bag_here"] (defScope sInteger) := ⟨rfl, rfl, rfl, by decide +kernel, rfl, by decide +kernel, by decide +kernel⟩
theorem ten20 : ((10 : Int) ^ (20 : Int).toNat) = 100000000000000000000 := by decide
theorem ok_int (T : Tx K mg base) : FO P w K mg base 2 ("_law_integer", none) ["_law_bag_here"] spInt := by
  have G : FO P w K mg base 1 ("_law_take", none) ["_law_bag_here", "_law_many"] spTake := ok_take T
  refine fo_mk (T.sd.def_ 21 (d := OB.mk ("_law_integer", none) "_law_integer" sInteger "_law_integer")) scInt (fun vs H Q E h => ?_) (fun _ _ _ _ _ _ us hl => match us, hl with | [_], _ => rfl) (fun A outer s H vs Q E hr h => ?_)
  · obtain ⟨b, rfl, _⟩ := h
    rfl
  · obtain ⟨b, rfl, hb, q⟩ := h
    have gt := T.glo "_law_take"
    refine ⟨_, pss_cons (ps_set (i := 1) scInt.nd rfl (Or.inl rfl) (pe_lst (pa_cons (pe_fo G hr rfl gt (pa_cons (pv 0) (pa_cons pe_int pa_nil))) (pa_cons (pe_op op_sub pe_int (pe_fo G hr rfl gt (pa_cons (pv 0) (pa_cons pe_int pa_nil))))
        (pa_cons (pe_fo G hr rfl gt (pa_cons (pv 0) (pa_cons (pe_op op_pow pe_int pe_int) pa_nil))) (pa_cons (pe_op op_sub pe_int (pe_fo G hr rfl gt (pa_cons (pv 0) (pa_cons (pe_op op_pow pe_int pe_int) pa_nil)))) pa_nil))))))
      (pss_one (ps_ret (pe_ix ix_list (pv 1) (pe_fo G hr rfl gt (pa_cons (pv 0) (pa_cons pe_int pa_nil))) (fun _ _ => rfl)))), ?_⟩
    have e10 : (10 : Nat) ^ 20 = 100000000000000000000 := by decide
    have e2 : (2 : Nat) ^ 100 = 1267650600228229401496703205376 := by decide
    refine ⟨_, rfl, b, 30, rfl, hb, by decide, by decide, fun r1 H1 a1 b1 s1 => ?_⟩
    refine ⟨_, rfl, b, 30, rfl, s1.bag, by decide, by decide, fun r2 H2 a2 b2 s2 => ⟨_, _, rfl, rfl, ?_⟩⟩
    refine ⟨_, rfl, _, _, rfl, rfl, ⟨by decide, by decide, by decide⟩, b, _, rfl, s2.bag, (by rw [ten20]; decide), (by rw [ten20]; decide), fun r3 H3 a3 b3 s3 => ?_⟩
    refine ⟨_, rfl, _, _, rfl, rfl, ⟨by decide, by decide, by decide⟩, b, _, rfl, s3.bag, (by rw [ten20]; decide), (by rw [ten20]; decide), fun r4 H4 a4 b4 s4 => ⟨_, _, rfl, rfl, (by show 4 ≤ sizeLine; decide), fun l hl => ?_⟩⟩
    rw [ten20] at b3 b4
    have s5 := Bs.new (o := .lst [.int r1, .int (0 - r2), .int r3, .int (0 - r4)]) s4.bag hl
    have nlb : l ≠ b := fun z => by
      obtain ⟨_, _, _, e, _⟩ := s4.bag
      rw [z, e] at hl
      cases hl
    refine ⟨_, rfl, _, rfl, b, 4, rfl, s5.bag, by decide, by decide, fun r5 H6 a5 b5 s6 => ?_⟩
    have hl6 : H6 l = some (.lst [.int r1, .int (0 - r2), .int r3, .int (0 - r4)]) := s6.fz _ _ upd_same nlb (fun _ z => nomatch z)
    have sA : Bs b H H6 := ((((s1.trans s2).trans s3).trans s4).trans s5).trans s6
    have h5 : r5 = 0 ∨ r5 = 1 ∨ r5 = 2 ∨ r5 = 3 := by omega
    rcases h5 with rfl | rfl | rfl | rfl
    · exact ⟨l, _, _, .int r1, rfl, rfl, SqL.of hl6, rfl, q _ _ (by omega) sA⟩
    · exact ⟨l, _, _, .int (0 - r2), rfl, rfl, SqL.of hl6, rfl, q _ _ (by omega) sA⟩
    · exact ⟨l, _, _, .int r3, rfl, rfl, SqL.of hl6, rfl, q _ _ (by omega) sA⟩
    · exact ⟨l, _, _, .int (0 - r4), rfl, rfl, SqL.of hl6, rfl, q _ _ (by omega) sA⟩
/-! ### _law_bag -/
def spBag (K : PySem.W.Frag) : Sp := fun vs H Q _ => ∃ (a : Addr) (ns : List Int) (k : Nat), vs = [.ref a, .int k] ∧ SqL K H a (ns.map V.int) ∧ k ≤ 2 ∧ ∀ (b : Addr) (H' : Hp), H b = none → Same H H' → BagAt H' b → Q (.ref b) H'
theorem scBag : FnScope ["_law_script", "_law_at", "_law_cell", "_law_great", "_law_primes"] ["_law_script", "_law_at"] (defScope sBag) := ⟨rfl, rfl, rfl, by decide +kernel, rfl, by decide +kernel, by decide +kernel⟩
theorem ok_bag (T : Tx K mg base) : FO P w K mg base 1 ("_law_bag", none) ["_law_script", "_law_at"] (spBag K) := by
  refine fo_mk (T.sd.def_ 19 (d := OB.mk ("_law_bag", none) "_law_bag" sBag "_law_bag")) scBag (fun vs H Q E h => ?_) (fun _ _ _ _ _ _ us hl => match us, hl with | [_, _], _ => rfl) (fun A outer s H vs Q E hr h => ?_)
  · obtain ⟨a, ns, k, rfl, _⟩ := h
    rfl
  · obtain ⟨a, ns, k, rfl, ha, hk, q⟩ := h
    have habs : mg "abs" = none := T.bi "abs"
    refine ⟨_, pss_cons (ps_set (i := 2) scBag.nd rfl (Or.inl rfl) pe_int)
      (pss_cons (ps_if (pt_cmpR op_lt (pv 1) (pe_callB call_len_seq (by rfl) (T.bi "len") PySem.boot_len (pa_cons (pv 0) pa_nil)) (nomark _)) (pss_one (ps_set (i := 2) scBag.nd rfl (Or.inl rfl) (pe_ix ix_list (pv 0) (pv 1) (fun _ _ => rfl)))) pss_nil)
      (pss_cons (ps_set (i := 3) scBag.nd rfl (Or.inl rfl) pe_int)
      (pss_cons (ps_if (pt_cmpR op_ge (pe_callB call_abs (by rfl) habs (by decide +kernel) (pa_cons (pv 2) pa_nil)) (pe_op op_pow pe_int pe_int) (nomark _)) (pss_one (ps_set (i := 3) scBag.nd rfl (Or.inl rfl) (pe_callB call_abs (by rfl) habs (by decide +kernel) (pa_cons (pv 2) pa_nil)))) pss_nil)
      (pss_cons (ps_set (i := 4) scBag.nd rfl (Or.inl rfl) (pe_lst (pa_cons pe_int (pa_cons pe_int (pa_cons pe_int (pa_cons pe_int (pa_cons pe_int (pa_cons pe_int (pa_cons pe_int (pa_cons pe_int pa_nil))))))))))
      (pss_one (ps_ret (pe_lst (pa_cons (pv 3) (pa_cons (pe_op op_mod (pe_op op_pow (pe_op op_add (pe_op op_add (pe_op op_mod (pv 2) pe_int) (pe_op op_mul pe_int (pv 1))) pe_int) pe_int) (pe_ix ix_list (pv 4) (pe_op op_mod (pv 1) pe_int) (fun _ _ => rfl))) (pa_cons pe_int pa_nil)))))))))), ?_⟩
    have hpow : ∀ cell : Int, CPow (cell % 2147483647 + 104711 * (k : Int) + 23) 5 := fun cell => by
      have h0 := Int.emod_nonneg cell (b := 2147483647) (by decide)
      have h1 := Int.emod_lt_of_pos cell (b := 2147483647) (by decide)
      have h2 : 2 ^ 64 = 18446744073709551616 := by decide
      refine ⟨by decide, by decide, ?_⟩
      rw [h2]
      omega
    obtain ⟨pr, hpr, p0, p1⟩ : ∃ pr : Int, ([.int 2147483629, .int 2147483587, .int 2147483579, .int 2147483563, .int 2147483549, .int 2147483543, .int 2147483497, .int 2147483489] : List V)[k]? = some (.int pr) ∧ 0 < pr ∧ pr < 2147483647 := by
      have h3 : k = 0 ∨ k = 1 ∨ k = 2 := by omega
      rcases h3 with rfl | rfl | rfl
      · exact ⟨2147483629, rfl, by decide, by decide⟩
      · exact ⟨2147483587, rfl, by decide, by decide⟩
      · exact ⟨2147483579, rfl, by decide, by decide⟩
    have habs0 : ∀ cell : Int, 0 ≤ (if cell < 0 then -cell else cell) := fun cell => by
      split <;> omega
    refine ⟨_, rfl, _, rfl, a, _, rfl, .inl ha, _, _, rfl, rfl, _, rfl, ?_⟩
    refine ite2 (fun c => ?_) (fun c => ?_)
    · have hlt : k < ns.length := by
        have := of_decide_eq_true c
        rw [List.length_map] at this
        omega
      have hget : (ns.map V.int)[k]? = some (.int ns[k]) := by
        rw [List.getElem?_map, List.getElem?_eq_getElem hlt]
        rfl
      refine ⟨_, rfl, _, rfl, a, _, _, _, rfl, rfl, ha, at_of rfl hget, ?_⟩
      refine ⟨_, rfl, _, rfl, _, _, rfl, rfl, ⟨by decide, by decide, by decide⟩, _, _, rfl, rfl, _, rfl, ?_⟩
      refine ite2 (fun d => ⟨_, rfl, _, rfl, ?_⟩) (fun d => ?_)
      all_goals
        refine ⟨(by show 8 ≤ sizeLine; decide), fun l hl => ?_⟩
        refine ⟨_, rfl, _, rfl, _, _, rfl, rfl, (by show (0 : Int) < 2147483647; decide), _, rfl, _, _, rfl, rfl, .inl ⟨by decide, by decide⟩, _, _, rfl, rfl, _, _, rfl, rfl, _, _, rfl, rfl, hpow _, _, rfl, _, rfl, _, _, rfl, rfl, (by show (0 : Int) < 8; decide), l, _, _, .int pr, rfl, rfl, SqL.of upd_same, at_of (j := k) (by omega) hpr, _, _, rfl, rfl, p0, (by show 3 ≤ sizeLine; decide), fun b hb => ?_⟩
        refine q b _ ?_ ((same_new hl).trans (same_new hb)) ⟨_, _, _, upd_same, (by first | exact habs0 _ | decide), Int.emod_nonneg _ (by omega), Int.lt_trans (Int.emod_lt_of_pos _ p0) p1⟩
        exact (same_new hl).free hb
    · refine ⟨_, rfl, _, rfl, _, _, rfl, rfl, ⟨by decide, by decide, by decide⟩, _, _, rfl, rfl, _, rfl, ?_⟩
      refine ite2 (fun d => ⟨_, rfl, _, rfl, ?_⟩) (fun d => ?_)
      all_goals
        refine ⟨(by show 8 ≤ sizeLine; decide), fun l hl => ?_⟩
        refine ⟨_, rfl, _, rfl, _, _, rfl, rfl, (by show (0 : Int) < 2147483647; decide), _, rfl, _, _, rfl, rfl, .inl ⟨by decide, by decide⟩, _, _, rfl, rfl, _, _, rfl, rfl, _, _, rfl, rfl, hpow _, _, rfl, _, rfl, _, _, rfl, rfl, (by show (0 : Int) < 8; decide), l, _, _, .int pr, rfl, rfl, SqL.of upd_same, at_of (j := k) (by omega) hpr, _, _, rfl, rfl, p0, (by show 3 ≤ sizeLine; decide), fun b hb => ?_⟩
        refine q b _ ?_ ((same_new hl).trans (same_new hb)) ⟨_, _, _, upd_same, (by first | exact habs0 _ | decide), Int.emod_nonneg _ (by omega), Int.lt_trans (Int.emod_lt_of_pos _ p0) p1⟩
        exact (same_new hl).free hb
end
end OB
namespace OB
open PySem PySem.Spec PyProof.Rows L2 LamX NdefX
/-- nothing of note was at x -/
def Fr (H : Hp) (x : Addr) : Prop := ∀ u, H x = some u → ∃ ps, u = .tbl ps
theorem Fr.of {H : Hp} {x : Addr} (h : H x = none) : Fr H x := fun u e => by rw [h] at e; cases e
theorem Fr.back {H H' : Hp} {x : Addr} (e : ExtN H H') (h : H' x = none) : Fr H x := fun u hu => by
  refine Classical.byContradiction fun z => ?_
  rw [e x u hu (fun ps y => z ⟨ps, y⟩)] at h
  cases h
theorem Fr.ne {H : Hp} {x b : Addr} {u : HO} (f : Fr H x) (h : H b = some u) (n : ∀ ps, u ≠ .tbl ps) : b ≠ x := fun z => by
  rw [z] at h
  obtain ⟨ps, e⟩ := f u h
  exact n ps e
def CPost (K : PySem.W.Frag) (κ : Kd) (H : Hp) (Q : VK) : Prop := ∀ (o dx : Addr) (F : BF) (H' : Hp), ExtN H H' → Tabs (Tbs K) H' → Fr H o → Fr H F.kd → Fr H F.en → Fr H F.rl → F.rl ≠ F.en → (∀ Im' : Addr → Prop, Im' F.rl → ¬ Im' F.en → ColAt K Im' H' κ o dx F [] [] []) → Q (.ref o) H'
theorem mk_col {K : PySem.W.Frag} {κ : Kd} {H H3 : Hp} {Q : VK} {fb fa fj o dx : Addr} (k : CPost K κ H Q) (hb : IsLam mkL H3 fb (.bld κ)) (ha : IsLam mkL H3 fa (.ask κ)) (hj : IsLam mkL H3 fj (.jn κ)) (e : ExtN H H3) (t : Tabs (Tbs K) H3) (ho : H3 o = none) (hd : H3 dx = none) (hne : dx ≠ o)
    {H' : Hp} {kd en rl : Addr} (e1 : ∀ b u, upd (upd H3 dx (.own o)) o (.ins (CB K) dx []) b = some u → b ≠ o → H' b = some u) (n1 : upd (upd H3 dx (.own o)) o (.ins (CB K) dx []) kd = none) (n2 : upd (upd H3 dx (.own o)) o (.ins (CB K) dx []) en = none) (n3 : upd (upd H3 dx (.own o)) o (.ins (CB K) dx []) rl = none) (ner : en ≠ rl)
    (hkd : H' kd = some (.dK [])) (hen : H' en = some (.lst [])) (hrl : H' rl = some (.lst [])) (ho' : H' o = some (.ins (CB K) dx (⟨kd, 0, en, false, fa, fj, zeroV κ, fb, rl⟩ : BF).fs)) : Q (.ref o) H' := by
  have s0 : Same H3 (upd (upd H3 dx (.own o)) o (.ins (CB K) dx [])) := (same_new hd).trans (same_new ((upd_ne hne.symm).trans ho))
  have s1 : Same H3 H' := fun b u z => e1 b u (s0 b u z) (ne_of_none z ho)
  have fr : ∀ {x : Addr}, upd (upd H3 dx (.own o)) o (.ins (CB K) dx []) x = none → Fr H x := fun z => Fr.back e (s0.free z)
  refine k o dx ⟨kd, 0, en, false, fa, fj, zeroV κ, fb, rl⟩ H' (fun b u z n => s1 b u (e b u z n)) (t.ext s1) (Fr.back e ho) (fr n1) (fr n2) (fr n3) ner.symm fun Im' hi hne' => ?_
  have kp : Kp Im' H3 H' := Kp.same s1
  exact ⟨ho', rfl, rfl, rfl, hkd, hrl, hi, .nil _, kp.isLam ha, kp.isLam hj, kp.isLam hb, hen, hne', fun m hm => (nomatch hm)⟩
section
variable {P : Program} {w : World} {K : PySem.W.Frag} {mg : Str → Option Value} {base : Heap}
def spNew (K : PySem.W.Frag) (κ : Kd) : Sp := fun vs H Q _ => vs = [] ∧ Tabs (Tbs K) H ∧ CPost K κ H Q
theorem scCo : FnScope [] [] (defScope sCounts) := ⟨rfl, rfl, rfl, by decide +kernel, rfl, by decide +kernel, by decide +kernel⟩
theorem ok_co (T : Tx K mg base) : FO P w K mg base 5 ("_law_counts", none) [] (spNew K .c) := by
  obtain ⟨fdi, FI, ⟨g, hkb⟩, _⟩ := ok_bi (P := P) (w := w) T
  refine fo_mk (T.sd.def_ 22 (d := OB.mk ("_law_counts", none) "_law_counts" sCounts "_law_counts")) scCo (fun vs H Q E h => ?_) (fun _ _ _ _ _ _ us hl => match us, hl with | [], _ => rfl) (fun A outer s H vs Q E hr h => ?_)
  · obtain ⟨rfl, _⟩ := h
    rfl
  · have TB := T.tb _ (tf_of tb_lc)
    have tu := tt_uniq (ex_parts T).2.2.2 (mem_tbs tb_lc)
    refine ⟨_, pss_one (ps_ret (pe_makeK (ks := ["zero"]) (n := 3) T.mkr FI hr rfl (T.glo "Blocks") hkb pass0
      (pa_cons (pe_lamV (T := Tbs K) TB rfl (mem_tbs tb_lc) tu) (pa_cons (pe_lamV (T := Tbs K) TB rfl (mem_tbs tb_lc) tu) (pa_cons (pe_lamV (T := Tbs K) TB rfl (mem_tbs tb_lc) tu) pa_nil))) (pk_cons pe_int pk_nil))), ?_⟩
    obtain ⟨rfl, hT, k⟩ := h
    refine ⟨hT, fun fb cb H1 e1 t1 f1 h1 c1 => ⟨t1, fun fa ca H2 e2 t2 f2 h2 c2 => ⟨t2, fun fj cj H3 e3 t3 f3 h3 c3 => ⟨rfl, rfl, fun o dx ho hd hne => ⟨o, dx, fb, fa, fj, .int 0, rfl, upd_same, fun H4 kd en rl x1 x2 x3 x4 x5 x6 x7 x8 x9 => ⟨rfl, ?_⟩⟩⟩⟩⟩⟩
    have ib : IsLam mkL H1 fb (.bld .c) := ⟨cb, h1, c1⟩
    have ia : IsLam mkL H2 fa (.ask .c) := ⟨ca, h2, c2⟩
    have ij : IsLam mkL H3 fj (.jn .c) := ⟨cj, h3, c3⟩
    exact mk_col k ((ib.ext e2).ext e3) (ia.ext e3) ij (fun b u z n => e3 b u (e2 b u (e1 b u z n) n) n) t3 ho hd hne x1 x2 x3 x4 x5 x6 x7 x8 x9
theorem scLi : FnScope [] [] (defScope sLines) := ⟨rfl, rfl, rfl, by decide +kernel, rfl, by decide +kernel, by decide +kernel⟩
theorem ok_lin (T : Tx K mg base) : FO P w K mg base 5 ("_law_lines", none) [] (spNew K .l) := by
  obtain ⟨fdi, FI, _, ds, hds, hb⟩ := ok_bi (P := P) (w := w) T
  refine fo_mk (T.sd.def_ 24 (d := OB.mk ("_law_lines", none) "_law_lines" sLines "_law_lines")) scLi (fun vs H Q E h => ?_) (fun _ _ _ _ _ _ us hl => match us, hl with | [], _ => rfl) (fun A outer s H vs Q E hr h => ?_)
  · obtain ⟨rfl, _⟩ := h
    rfl
  · have TB := T.tb _ (tf_of tb_ll)
    have tu := tt_uniq (ex_parts T).2.2.2 (mem_tbs tb_ll)
    refine ⟨_, pss_one (ps_ret (pe_make T.mkr FI hr rfl (T.glo "Blocks") hb hds pass0
      (pa_cons (pe_lamV (T := Tbs K) TB rfl (mem_tbs tb_ll) tu) (pa_cons (pe_lamV (T := Tbs K) TB rfl (mem_tbs tb_ll) tu) (pa_cons (pe_lamV (T := Tbs K) TB rfl (mem_tbs tb_ll) tu) pa_nil))))), ?_⟩
    obtain ⟨rfl, hT, k⟩ := h
    refine ⟨hT, fun fb cb H1 e1 t1 f1 h1 c1 => ⟨t1, fun fa ca H2 e2 t2 f2 h2 c2 => ⟨t2, fun fj cj H3 e3 t3 f3 h3 c3 => fun o dx ho hd hne => ⟨o, dx, fb, fa, fj, .non, rfl, upd_same, fun H4 kd en rl x1 x2 x3 x4 x5 x6 x7 x8 x9 => ⟨rfl, ?_⟩⟩⟩⟩⟩
    have ib : IsLam mkL H1 fb (.bld .l) := ⟨cb, h1, c1⟩
    have ia : IsLam mkL H2 fa (.ask .l) := ⟨ca, h2, c2⟩
    have ij : IsLam mkL H3 fj (.jn .l) := ⟨cj, h3, c3⟩
    exact mk_col k ((ib.ext e2).ext e3) (ia.ext e3) ij (fun b u z n => e3 b u (e2 b u (e1 b u z n) n) n) t3 ho hd hne x1 x2 x3 x4 x5 x6 x7 x8 x9
end
end OB
namespace OB
open PySem PySem.Spec PyProof.Rows L2 LamX NdefX
abbrev Own := Addr → Option (Nat × Nat)
def Imo (own : Own) : Addr → Prop := fun b => own b = none
def MutO (u : HO) : Prop := (∃ C dx fs, u = .ins C dx fs) ∨ (∃ kvs, u = .dK kvs) ∨ ∃ xs, u = .lst xs
theorem MutO.nt {u : HO} (m : MutO u) : ∀ ps, u ≠ .tbl ps := fun ps z => by
  subst z
  rcases m with ⟨C, dx, fs, e⟩ | ⟨kvs, e⟩ | ⟨xs, e⟩ <;> cases e
def MutAt (H : Hp) (b : Addr) : Prop := ∃ u, H b = some u ∧ MutO u
theorem MutAt.ins {H : Hp} {b C dx : Addr} {fs : List (Str × V)} (h : H b = some (.ins C dx fs)) : MutAt H b := ⟨_, h, .inl ⟨_, _, _, rfl⟩⟩
theorem MutAt.dK {H : Hp} {b : Addr} {kvs : List (Key × V)} (h : H b = some (.dK kvs)) : MutAt H b := ⟨_, h, .inr (.inl ⟨_, rfl⟩)⟩
theorem MutAt.lst {H : Hp} {b : Addr} {xs : List V} (h : H b = some (.lst xs)) : MutAt H b := ⟨_, h, .inr (.inr ⟨_, rfl⟩)⟩
/-- each owned thing is there, and may change -/
def Dm (own : Own) (H : Hp) : Prop := ∀ b x, own b = some x → MutAt H b
theorem Dm.dom {own : Own} {H : Hp} (d : Dm own H) : Dom (Imo own) H := fun x hx => by
  cases e : own x with
  | none => exact absurd e hx
  | some p =>
    obtain ⟨u, h1, h2⟩ := d x p e
    exact ⟨u, h1, h2.nt⟩
theorem Dm.free {own : Own} {H : Hp} (d : Dm own H) {b : Addr} (h : own b ≠ none) : Free (Imo own) H b := by
  intro o ho f
  cases e : own b with
  | none => exact h e
  | some p =>
    obtain ⟨u, h1, h2⟩ := d b p e
    rw [h1] at ho
    obtain rfl := Option.some.inj ho
    rcases h2 with ⟨C, dx, fs, rfl⟩ | ⟨kvs, rfl⟩ | ⟨xs, rfl⟩ <;> rcases f with ⟨_, z⟩ | ⟨_, z, z2⟩ | ⟨_, z⟩ <;> first | (cases z; done) | exact h z2
theorem Dm.kp {own : Own} {S : Addr → Prop} {H H' : Hp} (d : Dm own H) (f : Fz S H H') (h : ∀ b, S b → own b ≠ none) : Kp (Imo own) H H' := f.kp fun b hb => d.free (h b hb)
theorem Dm.step {own : Own} {S : Addr → Prop} {H H' : Hp} (d : Dm own H) (f : Fz S H H') (h : ∀ b, S b → MutAt H' b) : Dm own H' := fun b x e => by
  by_cases s : S b
  · exact h b s
  · obtain ⟨u, h1, h2⟩ := d b x e
    exact ⟨u, f _ _ h1 s h2.nt, h2⟩
theorem own_ne {own : Own} {x y : Addr} {p q : Nat × Nat} (h : own x = some p) (g : own y = some q) (n : p ≠ q) : x ≠ y := fun z => n (by
  rw [z, g] at h
  exact (Option.some.inj h).symm)
/-- a home's collection -/
def ColH (K : PySem.W.Frag) (own : Own) (H : Hp) (i o : Nat) (κ : Kd) (a : Addr) (ms : List Ln) (E : Nat) : Prop := ∃ (dx : Addr) (F : BF) (rs es : List V), ColAt K (Imo own) H κ a dx F ms rs es ∧ es.length ≤ E ∧ own a = some (i, o) ∧ own F.kd = some (i, o + 1) ∧ own F.en = some (i, o + 2)
theorem ColH.fr {K : PySem.W.Frag} {own : Own} {H H' : Hp} {i o : Nat} {κ : Kd} {a : Addr} {ms : List Ln} {E : Nat} {S : Addr → Prop} (c : ColH K own H i o κ a ms E) (d : Dm own H) (f : Fz S H H') (h : ∀ x, S x → ∃ j k, own x = some (j, k) ∧ ¬ (j = i ∧ o ≤ k ∧ k < o + 3)) : ColH K own H' i o κ a ms E := by
  obtain ⟨dx, F, rs, es, c, he, h0, h1, h2⟩ := c
  have ns : ∀ {x : Addr} {k : Nat}, own x = some (i, k) → o ≤ k → k < o + 3 → ¬ S x := fun e l1 l2 s => by
    obtain ⟨j, k', e', n⟩ := h _ s
    rw [e] at e'
    cases e'
    exact n ⟨rfl, l1, l2⟩
  refine ⟨dx, F, rs, es, c.move (d.kp f fun b s => ?_) ((f _ _ c.at_ (ns h0 (by omega) (by omega)) fun _ z => nomatch z).trans c.at_.symm) ((f _ _ c.kd (ns h1 (by omega) (by omega)) fun _ z => nomatch z).trans c.kd.symm) (f _ _ c.en (ns h2 (by omega) (by omega)) fun _ z => nomatch z), he, h0, h1, h2⟩
  obtain ⟨j, k, e, _⟩ := h b s
  rw [e]
  exact fun z => nomatch z
theorem ColH.mono {K : PySem.W.Frag} {own : Own} {H : Hp} {i o : Nat} {κ : Kd} {a : Addr} {ms : List Ln} {E E' : Nat} (c : ColH K own H i o κ a ms E) (h : E ≤ E') : ColH K own H i o κ a ms E' := by
  obtain ⟨dx, F, rs, es, c, he, r⟩ := c
  exact ⟨dx, F, rs, es, c, Nat.le_trans he h, r⟩
/-- what a question, an add may write -/
abbrev Oz (own : Own) (i o : Nat) : Addr → Prop := fun x => ∃ k, own x = some (i, k) ∧ o ≤ k ∧ k < o + 3
section
variable {K : PySem.W.Frag} {own : Own} {H : Hp} {i o : Nat} {κ : Kd} {a : Addr} {ms : List Ln} {E : Nat}
theorem q_step {q : Int} {R : VK} {σ : L2.St} {iv jv : Nat} (hσ : σ[iv]? = some (some (.ref a))) (hσ2 : σ[jv]? = some (some (.int q))) (c : ColH K own H i o κ a ms E) (d : Dm own H) (hz : ms.length < 64) (hE : E ≤ 1000000) (hq : q.natAbs < 2 ^ 100) (hT : Tabs (Tbs K) H)
    (k : ∀ v H', Ans κ q ms v → Fz (Oz own i o) H H' → Tabs (Tbs K) H' → ColH K own H' i o κ a ms (E + 128) → Dm own H' → R v H') {e : XK} :
    tMeth (CB K) "query" (spQ K) [] e (tVar iv) (tCons (tVar jv) tNil) σ H R := by
  obtain ⟨dx, F, rs, es, c, he, h0, h1, h2⟩ := c
  refine ⟨_, hσ, a, dx, _, rfl, c.at_, F.no "query", _, hσ2, a, dx, F, ms, κ, Imo own, rs, es, q, rfl, c, hz, by omega, hq, hT, fun v H' es' hv f t c' l => ?_⟩
  have s : ∀ b, SA a F.en b → Oz own i o b ∧ MutAt H' b := fun b hb => by
    rcases hb with rfl | rfl
    · exact ⟨⟨o, h0, by omega, by omega⟩, .ins c'.at_⟩
    · exact ⟨⟨o + 2, h2, by omega, by omega⟩, .lst c'.en⟩
  exact k v H' hv (f.mono fun b hb => (s b hb).1) t ⟨dx, F, rs, es', c', by omega, h0, h1, h2⟩ (d.step f fun b hb => (s b hb).2)
theorem a_step {m : Ln} {R : VK} {σ : L2.St} {iv : Nat} {ta : TE} (hσ : σ[iv]? = some (some (.ref a))) (hta : ∀ R : VK, R (mV κ m) H → ta σ H R) (c : ColH K own H i o κ a ms E) (d : Dm own H) (hm : MOk κ H m) (hz : ms.length < 63) (hE : E ≤ 1000000) (hT : Tabs (Tbs K) H)
    (k : ∀ v H', Fz (Oz own i o) H H' → Tabs (Tbs K) H' → ColH K own H' i o κ a (ms ++ [m]) (E + 1) → Dm own H' → R v H') {e : XK} :
    tMeth (CB K) "add" (spAdd K) [] e (tVar iv) (tCons ta tNil) σ H R := by
  obtain ⟨dx, F, rs, es, c, he, h0, h1, h2⟩ := c
  refine ⟨_, hσ, a, dx, _, rfl, c.at_, F.no "add", hta _ ⟨a, dx, F, ms, κ, Imo own, rs, es, m, rfl, c, hm, d.dom, hz, by omega, hT, fun v H' n' rl' rs' es' f t c' l => ?_⟩⟩
  have s : ∀ b, SK a F.kd F.en b → Oz own i o b ∧ MutAt H' b := fun b hb => by
    rcases hb with rfl | rfl | rfl
    · exact ⟨⟨o, h0, by omega, by omega⟩, .ins c'.at_⟩
    · exact ⟨⟨o + 1, h1, by omega, by omega⟩, .dK c'.kd⟩
    · exact ⟨⟨o + 2, h2, by omega, by omega⟩, .lst c'.en⟩
  exact k v H' (f.mono fun b hb => (s b hb).1) t ⟨dx, _, rs', es', c', by omega, h0, h1, h2⟩ (d.step f fun b hb => (s b hb).2)
end
/-- a home: what its four parts hold -/
structure HomeAt (K : PySem.W.Frag) (own : Own) (H : Hp) (i : Nat) (ac al il pl : Addr) (mc ml xi xp : List Ln) (E : Nat) : Prop where
  c : ColH K own H i 0 .c ac mc E
  l : ColH K own H i 3 .l al ml E
  hil : H il = some (.lst (xi.map (mV .c)))
  hpl : H pl = some (.lst (xp.map (mV .l)))
  oi : own il = some (i, 6)
  op : own pl = some (i, 7)
section
variable {K : PySem.W.Frag} {own : Own} {H H' : Hp} {i : Nat} {ac al il pl : Addr} {mc ml mc' ml' xi xp : List Ln} {E E' : Nat} {S : Addr → Prop}
theorem HomeAt.fr (c : HomeAt K own H i ac al il pl mc ml xi xp E) (d : Dm own H) (f : Fz S H H') (h : ∀ x, S x → ∃ j k, own x = some (j, k) ∧ j ≠ i) : HomeAt K own H' i ac al il pl mc ml xi xp E := by
  have ns : ∀ {x : Addr} {k : Nat}, own x = some (i, k) → ¬ S x := fun e s => by
    obtain ⟨j, k', e', n⟩ := h _ s
    rw [e] at e'
    cases e'
    exact n rfl
  have g : ∀ o x, S x → ∃ j k, own x = some (j, k) ∧ ¬ (j = i ∧ o ≤ k ∧ k < o + 3) := fun o x s => by
    obtain ⟨j, k, e, n⟩ := h x s
    exact ⟨j, k, e, fun z => n z.1⟩
  exact ⟨c.c.fr d f (g 0), c.l.fr d f (g 3), f _ _ c.hil (ns c.oi) (fun _ z => nomatch z), f _ _ c.hpl (ns c.op) (fun _ z => nomatch z), c.oi, c.op⟩
theorem HomeAt.mono (c : HomeAt K own H i ac al il pl mc ml xi xp E) (h : E ≤ E') : HomeAt K own H i ac al il pl mc ml xi xp E' := ⟨c.c.mono h, c.l.mono h, c.hil, c.hpl, c.oi, c.op⟩
theorem HomeAt.setC (c : HomeAt K own H i ac al il pl mc ml xi xp E) (d : Dm own H) (f : Fz (Oz own i 0) H H') (h : ColH K own H' i 0 .c ac mc' E') (l : E ≤ E') : HomeAt K own H' i ac al il pl mc' ml xi xp E' := by
  have ns : ∀ {x : Addr} {k : Nat}, own x = some (i, k) → 3 ≤ k → ¬ Oz own i 0 x := fun e n s => by
    obtain ⟨k', e', _, n'⟩ := s
    rw [e] at e'
    cases e'
    omega
  exact ⟨h, (c.l.fr d f fun x ⟨k, e, _, n⟩ => ⟨i, k, e, by omega⟩).mono l, f _ _ c.hil (ns c.oi (by decide)) (fun _ z => nomatch z), f _ _ c.hpl (ns c.op (by decide)) (fun _ z => nomatch z), c.oi, c.op⟩
theorem HomeAt.setL (c : HomeAt K own H i ac al il pl mc ml xi xp E) (d : Dm own H) (f : Fz (Oz own i 3) H H') (h : ColH K own H' i 3 .l al ml' E') (l : E ≤ E') : HomeAt K own H' i ac al il pl mc ml' xi xp E' := by
  have ns : ∀ {x : Addr} {k : Nat}, own x = some (i, k) → 6 ≤ k → ¬ Oz own i 3 x := fun e n s => by
    obtain ⟨k', e', _, n'⟩ := s
    rw [e] at e'
    cases e'
    omega
  exact ⟨(c.c.fr d f fun x ⟨k, e, n, _⟩ => ⟨i, k, e, by omega⟩).mono l, h, f _ _ c.hil (ns c.oi (by decide)) (fun _ z => nomatch z), f _ _ c.hpl (ns c.op (by decide)) (fun _ z => nomatch z), c.oi, c.op⟩
theorem HomeAt.setI (c : HomeAt K own H i ac al il pl mc ml xi xp E) (d : Dm own H) (m : Ln) : HomeAt K own (upd H il (.lst (xi.map (mV .c) ++ [mV .c m]))) i ac al il pl mc ml (xi ++ [m]) xp E := by
  have f : Fz (fun x => x = il) H (upd H il (.lst (xi.map (mV .c) ++ [mV .c m]))) := Fz.one
  refine ⟨c.c.fr d f fun x hx => ⟨i, 6, by rw [hx]; exact c.oi, by omega⟩, c.l.fr d f fun x hx => ⟨i, 6, by rw [hx]; exact c.oi, by omega⟩, ?_, (upd_ne (own_ne c.op c.oi (by simp))).trans c.hpl, c.oi, c.op⟩
  rw [upd_same, List.map_append]
  rfl
theorem HomeAt.setP (c : HomeAt K own H i ac al il pl mc ml xi xp E) (d : Dm own H) (m : Ln) : HomeAt K own (upd H pl (.lst (xp.map (mV .l) ++ [mV .l m]))) i ac al il pl mc ml xi (xp ++ [m]) E := by
  have f : Fz (fun x => x = pl) H (upd H pl (.lst (xp.map (mV .l) ++ [mV .l m]))) := Fz.one
  refine ⟨c.c.fr d f fun x hx => ⟨i, 7, by rw [hx]; exact c.op, by omega⟩, c.l.fr d f fun x hx => ⟨i, 7, by rw [hx]; exact c.op, by omega⟩, (upd_ne (own_ne c.oi c.op (by simp))).trans c.hil, ?_, c.oi, c.op⟩
  rw [upd_same, List.map_append]
  rfl
end
end OB
namespace OB
open PySem PySem.Spec PyProof.Rows L2 LamX NdefX
section
variable {P : Program} {w : World} {K : PySem.W.Frag} {mg : Str → Option Value} {base : Heap}
def spRight (K : PySem.W.Frag) : Sp := fun vs H Q _ => ∃ (b ac al il pl : Addr) (mc ml : List Ln) (own : Own) (i jb E : Nat), vs = [.ref b, .ref ac, .ref al, .ref il, .ref pl] ∧ BagAt H b ∧ own b = some (jb, 0) ∧ jb ≠ i ∧ HomeAt K own H i ac al il pl mc ml mc ml E ∧ Dm own H ∧ mc.length < 64 ∧ ml.length < 64 ∧ E ≤ 900000 ∧ Tabs (Tbs K) H ∧
  ∀ H', Fz (fun x => own x = some (jb, 0) ∨ ∃ k, own x = some (i, k)) H H' → Tabs (Tbs K) H' → BagAt H' b → Dm own H' → HomeAt K own H' i ac al il pl mc ml mc ml (E + 512) → Q (.bl true) H'
abbrev nRi : List Str := ["_law_bag_here", "_law_counts_here", "_law_lines_here", "_law_integers", "_law_pairs", "_law_turn", "_law_bound", "_law_x", "_law_due", "_law_one", "_law_a", "_law_b"]
theorem scRi : FnScope nRi ["_law_bag_here", "_law_counts_here", "_law_lines_here", "_law_integers", "_law_pairs"] (defScope sRight) := ⟨rfl, rfl, rfl, by decide +kernel, rfl, by decide +kernel, by decide +kernel⟩
theorem ok_ri (T : Tx K mg base) : FO P w K mg base 10 ("_law_right", none) ["_law_bag_here", "_law_counts_here", "_law_lines_here", "_law_integers", "_law_pairs"] (spRight K) := by
  have GI : FO P w K mg base 2 ("_law_integer", none) ["_law_bag_here"] spInt := ok_int T
  have GQ : FO P w K mg base 9 ("Blocks", some "query") ["self", "question"] (spQ K) := ok_q T
  refine fo_mk (T.sd.def_ 25 (d := OB.mk ("_law_right", none) "_law_right" sRight "_law_right")) scRi (fun vs H Q E h => ?_) (fun _ _ _ _ _ _ us hl => match us, hl with | [_, _, _, _, _], _ => rfl) (fun A outer s H vs Q E hr h => ?_)
  · obtain ⟨b, ac, al, il, pl, mc, ml, own, i, jb, E, rfl, _⟩ := h
    rfl
  · have hlen := T.bi "len"
    have gi := T.glo "_law_integer"
    have hr2 := hr.mono (j := 2) (by decide)
    refine ⟨_, pss_cons (ps_for PassesOwn.never rfl (pi_range1 rfl (T.bi "range") (pa_cons pe_int pa_nil)) (pg_name (i := 5) scRi.nd rfl (Or.inl rfl))
        (pss_cons (ps_asg (pe_tup (pa_cons (pe_fo GI hr2 rfl gi (pa_cons (pv 0) pa_nil)) (pa_cons (pe_fo GI hr2 rfl gi (pa_cons (pv 0) pa_nil)) pa_nil))) (pg_tup rfl (pgs_cons (pg_name (i := 6) scRi.nd rfl (Or.inr rfl)) (pgs_cons (pg_name (i := 7) scRi.nd rfl (Or.inr rfl)) pgs_nil))))
        (pss_cons (ps_if (pt_cmpR op_ne (pe_foM GQ (pv 1) T.cl (T.me "query") hr (pa_cons (pv 6) pa_nil)) (pe_callB call_len_seq (by rfl) hlen PySem.boot_len (pa_cons
            (pe_lc (own := [("_law_one", 9)]) (wi := iList K (tVar 3)) (te := tVar 9) (g := gName 9) (tt := tTest (tOp (rI0 fun i j => .bl (decide (i < j))) (tVar 9) (tVar 6))) rfl scRi.nd (pi_list (pv 3)) (blkOk_by (own := [("_law_one", 9)]) (N := nRi) (sc := defScope sRight) (by decide +kernel))
              (fun _ _ _ _ _ => pg_name (i := 9) scRi.nd rfl (Or.inl rfl)) (fun _ _ _ _ _ => pts_one (pt_cmpR op_lt (pv 9) (pv 6) (nomark _))) (fun _ _ _ _ _ => pv 9)) pa_nil)) (nomark _)) pss_never pss_nil)
        (pss_cons (ps_set (i := 8) scRi.nd rfl (Or.inl rfl) (pe_callBK (cr_minD rfl) (by rfl) (T.bi "min") (by decide +kernel) (pa_cons
            (pe_lc (own := [("_law_a", 10), ("_law_b", 11)]) (wi := iList K (tVar 4)) (te := tOp (rI0 fun i j => .int (i + j)) (tOp (rI CMulW fun i j => .int (i * j)) (tVar 10) (tVar 7)) (tVar 11)) (g := gTup K 2 (gCons (gName 10) (gCons (gName 11) gNil))) (tt := tYes) rfl scRi.nd (pi_list (pv 4)) (blkOk_by (own := [("_law_a", 10), ("_law_b", 11)]) (N := nRi) (sc := defScope sRight) (by decide +kernel))
              (fun _ _ _ _ _ => pg_tup rfl (pgs_cons (pg_name (i := 10) scRi.nd rfl (Or.inl rfl)) (pgs_cons (pg_name (i := 11) scRi.nd rfl (Or.inl rfl)) pgs_nil))) (fun _ _ _ _ _ => pts_nil) (fun _ _ _ _ _ => pe_op op_add (pe_op op_mulW (pv 10) (pv 7)) (pv 11))) pa_nil) (pk_cons pe_non pk_nil)))
        (pss_one (ps_if (PW.pt (pw_or (pt_cmpR op_ne (pe_foM GQ (pv 2) T.cl (T.me "query") hr (pa_cons (pv 7) pa_nil)) (pv 8) (nomark _)) (pw_or1 (pt_truth (pe_callB call_isi (by rfl) (T.bi "isinstance") (by decide +kernel) (pa_cons (pv 8) (pa_cons (pe_bltn (v := .ty "bool") (u := .type "bool") rfl (T.bi "bool") (by decide +kernel) rfl (by decide)) pa_nil))) (by intro _; rfl))))) pss_never pss_nil))))))
      (pss_one (ps_ret pe_bl)), ?_⟩
    obtain ⟨b, ac, al, il, pl, mc, ml, own, i, jb, L, rfl, hb, ob, nj, hm, hd, hc, hl, hL, hT, q⟩ := h
    refine ⟨2, rfl, by decide, by decide, for_range (lo := 0) (n := 2) (fun j σ H' => ∃ v5 v6 v7 v8 : Option V, σ = [some (.ref b), some (.ref ac), some (.ref al), some (.ref il), some (.ref pl), v5, v6, v7, v8, none, none, none] ∧ Fz (fun x => own x = some (jb, 0) ∨ ∃ k, own x = some (i, k)) H H' ∧ Tabs (Tbs K) H' ∧ BagAt H' b ∧ Dm own H' ∧ HomeAt K own H' i ac al il pl mc ml mc ml (L + 256 * j))
      ⟨none, none, none, none, rfl, Fz.refl _ _, hT, hb, hd, hm⟩ ?_ ?_⟩
    · rintro j σ H' hj ⟨v5, v6, v7, v8, rfl, fz, t, hb', hd', hm'⟩
      refine ⟨_, rfl, b, rfl, hb', fun z1 H1 z1b s1 => ⟨_, rfl, b, rfl, s1.bag, fun z2 H2 z2b s2 => ⟨(by show 2 ≤ sizeLine; decide), fun p hp => ⟨p, _, rfl, SqT.of upd_same, rfl, _, _, rfl, _, _, rfl, rfl, ?_⟩⟩⟩⟩
      have s3 := (s1.trans s2).trans (Bs.new (o := .tup [.int z1, .int z2]) s2.bag hp)
      obtain ⟨H3, eH3⟩ : ∃ H3, H3 = upd H2 p (.tup [.int z1, .int z2]) := ⟨_, rfl⟩
      rw [← eH3] at s3 ⊢
      have e2 : (2 : Nat) ^ 100 = 1267650600228229401496703205376 := by decide
      have e10 : (10 : Nat) ^ 20 = 100000000000000000000 := by decide
      have z1c : z1.natAbs < 2 ^ 100 := by omega
      have z2c : z2.natAbs < 2 ^ 100 := by omega
      have fz3 := fz.trans (s3.fz.mono fun x hx => .inl (by rw [hx]; exact ob))
      have t3 := s3.tb _ t
      have d3 : Dm own H3 := hd'.step s3.fz fun x hx => by
        obtain ⟨_, _, _, e, _⟩ := s3.bag
        rw [hx]
        exact .lst e
      have hm3 := hm'.fr hd' s3.fz fun x hx => ⟨jb, 0, by rw [hx]; exact ob, nj⟩
      refine q_step rfl rfl hm3.c d3 hc (by omega) z1c t3 fun v H4 hv f4 t4 c4 d4 => ?_
      obtain rfl : v = .int (cnt z1 (mc.map fun m => m.2.1)) := hv
      have hm4 := hm3.setC d3 f4 c4 (by omega)
      have b4 : BagAt H4 b := by
        obtain ⟨g, sd, n, e, r⟩ := s3.bag
        refine ⟨g, sd, n, f4 _ _ e (fun ⟨k, e', _⟩ => ?_) (fun _ z => nomatch z), r⟩
        rw [ob] at e'
        cases e'
        exact nj rfl
      have fz4 := fz3.trans (f4.mono fun x ⟨k, e, _⟩ => .inr ⟨k, e⟩)
      -- [one for one in integers if one < bound]
      refine ⟨_, rfl, il, rfl, ⟨_, SqL.of hm4.hil⟩, fun D hD => it_list (K := K) (a := il) (xs := mc.map (mV .c)) (fun k H'' => Same H4 H'' ∧ H'' D = some (.lst ((((mc.take k).map fun m => m.2.1).filter fun z => decide (z < z1)).map V.int)))
        ⟨same_new hD, upd_same⟩ (fun k H'' _ ⟨s', _⟩ => SqL.of (s' _ _ hm4.hil)) ?_ ?_⟩
      · rintro k x H'' hk ⟨s', h'⟩
        have hk2 : k < mc.length := by
          have := (List.getElem?_eq_some_iff.mp hk).1
          rw [List.length_map] at this
          exact this
        have ex : x = .int mc[k].2.1 := by
          rw [List.getElem?_map, List.getElem?_eq_getElem hk2] at hk
          exact (Option.some.inj hk).symm
        subst ex
        have et : ((mc.take (k + 1)).map fun m => m.2.1).filter (fun z => decide (z < z1)) = ((mc.take k).map fun m => m.2.1).filter (fun z => decide (z < z1)) ++ [mc[k].2.1].filter (fun z => decide (z < z1)) := by
          rw [List.take_add_one, List.getElem?_eq_getElem hk2, List.map_append, List.filter_append]
          rfl
        refine ⟨rfl, _, rfl, _, rfl, _, _, rfl, rfl, _, rfl, ?_⟩
        refine ite2 (fun c => ?_) (fun c => ⟨s', ?_⟩)
        · refine ⟨_, rfl, _, h', ?_, fun b o e => ?_, ?_⟩
          · rw [List.length_map]
            refine small1000 (Nat.le_trans (List.length_filter_le _ _) ?_)
            rw [List.length_map, List.length_take]
            omega
          · refine (upd_ne (fun z => ?_)).trans (s' b o e)
            rw [z, hD] at e
            cases e
          · rw [upd_same, et, List.filter_cons_of_pos (p := fun z => decide (z < z1)) c, List.map_append]
            rfl
        · rw [et, List.filter_cons_of_neg (p := fun z => decide (z < z1)) c, List.filter_nil, List.append_nil]
          exact h'
      rintro H5 ⟨s5, h5⟩
      rw [List.length_map, List.take_length] at h5
      refine ⟨D, _, rfl, .inl (SqL.of h5), rfl, _, rfl, ?_⟩
      refine ite2 (fun c => absurd c ?_) (fun c => ?_)
      · rw [List.length_map]
        simp [cnt]
      have t5 : Tabs (Tbs K) H5 := t4.ext s5
      have fz5 := fz4.trans (Fz.same s5)
      have d5 : Dm own H5 := d4.step (S := fun _ => False) (Fz.same s5) (fun _ z => z.elim)
      have hm5 := hm4.fr d4 (S := fun _ => False) (Fz.same s5) (fun _ z => z.elim)
      have b5 : BagAt H5 b := by
        obtain ⟨g, sd, n, e, r⟩ := b4
        exact ⟨g, sd, n, s5 _ _ e, r⟩
      -- min([a * x + b for a, b in pairs], default=None)
      obtain ⟨dxl, Fl, rsl, esl, cl, _⟩ := hm5.l
      refine ⟨_, rfl, pl, rfl, ⟨_, SqL.of hm5.hpl⟩, fun D2 hD2 => it_list (K := K) (a := pl) (xs := ml.map (mV .l)) (fun k H'' => Same H5 H'' ∧ H'' D2 = some (.lst ((ml.take k).map fun t => V.int (val t z2))))
        ⟨same_new hD2, upd_same⟩ (fun k H'' _ ⟨s', _⟩ => SqL.of (s' _ _ hm5.hpl)) ?_ ?_⟩
      · rintro k x H'' hk ⟨s', h'⟩
        have hk2 : k < ml.length := by
          have := (List.getElem?_eq_some_iff.mp hk).1
          rw [List.length_map] at this
          exact this
        have ex : x = .ref ml[k].1 := by
          rw [List.getElem?_map, List.getElem?_eq_getElem hk2] at hk
          exact (Option.some.inj hk).symm
        subst ex
        have ta : TupAt H5 ml[k] := cl.mok ml[k] (List.getElem_mem hk2)
        refine ⟨ml[k].1, _, rfl, SqT.of (s' _ _ ta.1), rfl, _, _, rfl, _, _, rfl, rfl, rfl, ?_⟩
        refine ⟨_, rfl, _, rfl, _, _, rfl, rfl, wide_mul ta.2.1 z2c (by decide) (by decide) (by decide), _, rfl, _, _, rfl, rfl, _, h', ?_, fun b o e => ?_, ?_⟩
        · rw [List.length_map, List.length_take]
          exact small1000 (by omega)
        · refine (upd_ne (fun z => ?_)).trans (s' b o e)
          rw [z, hD2] at e
          cases e
        · rw [upd_same, List.take_add_one, List.getElem?_eq_getElem hk2, List.map_append]
          rfl
      rintro H6 ⟨s6, h6⟩
      rw [List.length_map, List.take_length] at h6
      have t6 : Tabs (Tbs K) H6 := t5.ext s6
      have fz6 := fz5.trans (Fz.same s6)
      have d6 : Dm own H6 := d5.step (S := fun _ => False) (Fz.same s6) (fun _ z => z.elim)
      have hm6 := hm5.fr d5 (S := fun _ => False) (Fz.same s6) (fun _ z => z.elim)
      refine ⟨D2, ml.map fun t => val t z2, rfl, rfl, SqL.of (by rw [h6, List.map_map]; rfl), fun e => ?_, fun ne m hm hle => ?_⟩
      · have hdue : Ans .l z2 ml .non := .inl ⟨List.map_eq_nil_iff.mp e, rfl⟩
        refine q_step rfl rfl hm6.l d6 hl (by omega) z2c t6 fun v H7 hv f7 t7 c7 d7 => ?_
        obtain rfl := ans_one hdue hv
        have hm7 := hm6.setL d6 f7 c7 (by omega)
        have b7 : BagAt H7 b := by
          obtain ⟨g, sd, n, e, r⟩ := b5
          refine ⟨g, sd, n, f7 _ _ (s6 _ _ e) (fun ⟨k, e', _⟩ => ?_) (fun _ z => nomatch z), r⟩
          rw [ob] at e'
          cases e'
          exact nj rfl
        have fz7 := fz6.trans (f7.mono fun x ⟨k, e, _⟩ => .inr ⟨k, e⟩)
        have fin : ∃ v5 v6 v7 v8 : Option V, [some (V.ref b), some (.ref ac), some (.ref al), some (.ref il), some (.ref pl), some (.int (0 + (j : Int))), some (.int z1), some (.int z2), some V.non, none, none, none] = [some (.ref b), some (.ref ac), some (.ref al), some (.ref il), some (.ref pl), v5, v6, v7, v8, none, none, none] ∧ Fz (fun x => own x = some (jb, 0) ∨ ∃ k, own x = some (i, k)) H H7 ∧ Tabs (Tbs K) H7 ∧ BagAt H7 b ∧ Dm own H7 ∧ HomeAt K own H7 i ac al il pl mc ml mc ml (L + 256 * (j + 1)) :=
          ⟨_, _, _, _, rfl, fz7, t7, b7, d7, hm7.mono (by omega)⟩
        exact ⟨_, rfl, rfl, _, rfl, iteF ⟨_, rfl, ⟨_, _, .type "NoneType", .type "bool", false, rfl, .ty _, .base .non, kit_ty (by decide +kernel), false, rfl, iteF fin⟩⟩⟩
      · have hdue : Ans .l z2 ml (.int m) := by
          obtain ⟨u, hu, eu⟩ := List.mem_map.mp hm
          exact .inr ⟨m, rfl, ⟨u, hu, eu⟩, fun x hx => hle _ (List.mem_map.mpr ⟨x, hx, rfl⟩)⟩
        refine q_step rfl rfl hm6.l d6 hl (by omega) z2c t6 fun v H7 hv f7 t7 c7 d7 => ?_
        obtain rfl := ans_one hdue hv
        have hm7 := hm6.setL d6 f7 c7 (by omega)
        have b7 : BagAt H7 b := by
          obtain ⟨g, sd, n, e, r⟩ := b5
          refine ⟨g, sd, n, f7 _ _ (s6 _ _ e) (fun ⟨k, e', _⟩ => ?_) (fun _ z => nomatch z), r⟩
          rw [ob] at e'
          cases e'
          exact nj rfl
        have fz7 := fz6.trans (f7.mono fun x ⟨k, e, _⟩ => .inr ⟨k, e⟩)
        have fin : ∃ v5 v6 v7 v8 : Option V, [some (V.ref b), some (.ref ac), some (.ref al), some (.ref il), some (.ref pl), some (.int (0 + (j : Int))), some (.int z1), some (.int z2), some (V.int m), none, none, none] = [some (.ref b), some (.ref ac), some (.ref al), some (.ref il), some (.ref pl), v5, v6, v7, v8, none, none, none] ∧ Fz (fun x => own x = some (jb, 0) ∨ ∃ k, own x = some (i, k)) H H7 ∧ Tabs (Tbs K) H7 ∧ BagAt H7 b ∧ Dm own H7 ∧ HomeAt K own H7 i ac al il pl mc ml mc ml (L + 256 * (j + 1)) :=
          ⟨_, _, _, _, rfl, fz7, t7, b7, d7, hm7.mono (by omega)⟩
        refine ⟨_, rfl, rfl, _, rfl, ?_⟩
        refine ite2 (fun c => absurd c (by simp)) (fun _ => ?_)
        exact ⟨_, rfl, ⟨_, _, .type "int", .type "bool", false, rfl, .ty _, .base (.int m), kit_ty (by decide +kernel), false, rfl, iteF fin⟩⟩
    · rintro σ H' ⟨v5, v6, v7, v8, rfl, fz, t, hb', hd', hm'⟩
      exact q H' fz t hb' hd' hm'
end
end OB
namespace OB
open PySem PySem.Spec PyProof.Rows L2 LamX NdefX
def ext (own : Own) (x : Addr) (p : Nat × Nat) : Own := fun y => if y = x then some p else own y
theorem ext_self {own : Own} {x : Addr} {p : Nat × Nat} : ext own x p x = some p := if_pos rfl
theorem ext_ne {own : Own} {x y : Addr} {p : Nat × Nat} (h : y ≠ x) : ext own x p y = own y := if_neg h
/-- the owners of what was there stay -/
def Oext (own own' : Own) (H : Hp) : Prop := ∀ x u, H x = some u → (∀ ps, u ≠ .tbl ps) → own' x = own x
theorem Oext.trans {own o1 o2 : Own} {H H' : Hp} (a : Oext own o1 H) (b : Oext o1 o2 H') (e : ExtN H H') : Oext own o2 H := fun x u h n => (b x u (e x u h n) n).trans (a x u h n)
theorem Oext.one {own : Own} {H : Hp} {x : Addr} {p : Nat × Nat} (f : Fr H x) : Oext own (ext own x p) H := fun y u h n => ext_ne (f.ne h n)
theorem same_ext {H H' : Hp} (s : Same H H') : ExtN H H' := fun b o e _ => s b o e
theorem Dm.none {own : Own} {H : Hp} {x : Addr} (d : Dm own H) (f : Fr H x) : own x = none := by
  cases e : own x with
  | none => rfl
  | some p =>
    obtain ⟨u, h1, h2⟩ := d x p e
    obtain ⟨ps, e2⟩ := f u h1
    exact absurd e2 (h2.nt ps)
theorem MutAt.ext {H H' : Hp} {b : Addr} (m : MutAt H b) (e : ExtN H H') : MutAt H' b := by
  obtain ⟨u, h1, h2⟩ := m
  exact ⟨u, e _ _ h1 h2.nt, h2⟩
theorem Dm.ext {own : Own} {H H' : Hp} (d : Dm own H) (e : ExtN H H') : Dm own H' := fun b x h => (d b x h).ext e
theorem Dm.ext1 {own : Own} {H H' : Hp} {x : Addr} {p : Nat × Nat} (d : Dm own H) (e : ExtN H H') (m : MutAt H' x) : Dm (OB.ext own x p) H' := fun b q h => by
  by_cases hb : b = x
  · rw [hb]
    exact m
  · rw [ext_ne hb] at h
    exact (d b q h).ext e
theorem nt_lst {xs : List V} : ∀ ps, HO.lst xs ≠ .tbl ps := fun _ z => nomatch z
section
variable {K : PySem.W.Frag} {own own' : Own} {H H' : Hp} {i o : Nat} {κ : Kd} {a : Addr} {ms : List Ln} {E : Nat}
theorem ColH.reown (c : ColH K own H i o κ a ms E) (h : Oext own own' H) : ColH K own' H i o κ a ms E := by
  obtain ⟨dx, F, rs, es, c, he, h0, h1, h2⟩ := c
  exact ⟨dx, F, rs, es, ⟨c.at_, c.n, c.b, c.z, c.kd, c.rl, (h _ _ c.rl nt_lst).trans c.iml, c.rows.im2 fun b hb ⟨xs, hx⟩ => (h _ _ hx nt_lst).trans hb, c.fa, c.fj, c.fb, c.en, fun z => c.nim ((h _ _ c.en nt_lst).symm.trans z), c.mok⟩, he,
    (h _ _ c.at_ fun _ z => nomatch z).trans h0, (h _ _ c.kd fun _ z => nomatch z).trans h1, (h _ _ c.en nt_lst).trans h2⟩
theorem ColH.ext (c : ColH K own H i o κ a ms E) (e : ExtN H H') : ColH K own H' i o κ a ms E := by
  obtain ⟨dx, F, rs, es, c, he, r⟩ := c
  exact ⟨dx, F, rs, es, c.move (Kp.ext e) ((e _ _ c.at_ fun _ z => nomatch z).trans c.at_.symm) ((e _ _ c.kd fun _ z => nomatch z).trans c.kd.symm) (e _ _ c.en nt_lst), he, r⟩
/-- a new collection gets its owner -/
theorem own_new {dx : Addr} {F : BF} {rs : List V} (j k : Nat) (d : Dm own H) (e : ExtN H H') (fo : Fr H a) (fk : Fr H F.kd) (fe : Fr H F.en) (fr : Fr H F.rl) (hne : F.rl ≠ F.en)
    (cc : ∀ Im' : Addr → Prop, (∀ b, Imo own b → (∃ xs, H b = some (.lst xs)) → Im' b) → Im' F.rl → ¬ Im' F.en → ColAt K Im' H' κ a dx F ms rs []) : ∃ own', Oext own own' H ∧ Dm own' H' ∧ ColH K own' H' j k κ a ms 0 := by
  have c0 := cc (fun x => x ≠ F.en) (fun b _ ⟨xs, hx⟩ => fe.ne hx nt_lst) hne (fun z => z rfl)
  have nko : F.kd ≠ a := ne_of c0.kd c0.at_ (fun z => nomatch z)
  have neo : F.en ≠ a := ne_of c0.en c0.at_ (fun z => nomatch z)
  have nek : F.en ≠ F.kd := ne_of c0.en c0.kd (fun z => nomatch z)
  have nro : F.rl ≠ a := ne_of c0.rl c0.at_ (fun z => nomatch z)
  have nrk : F.rl ≠ F.kd := ne_of c0.rl c0.kd (fun z => nomatch z)
  have d' : Dm (OB.ext (OB.ext (OB.ext own F.en (j, k + 2)) F.kd (j, k + 1)) a (j, k)) H' := ((d.ext1 (p := (j, k + 2)) e (.lst c0.en)).ext1 (p := (j, k + 1)) (fun _ _ z _ => z) (.dK c0.kd)).ext1 (p := (j, k)) (fun _ _ z _ => z) (.ins c0.at_)
  refine ⟨OB.ext (OB.ext (OB.ext own F.en (j, k + 2)) F.kd (j, k + 1)) a (j, k), fun x u h n => ?_, d', dx, F, rs, [], cc _ (fun b hb ⟨xs, hx⟩ => ?_) ?_ ?_, Nat.zero_le _, ext_self, ?_, ?_⟩
  · rw [ext_ne (fo.ne h n), ext_ne (fk.ne h n), ext_ne (fe.ne h n)]
  · show OB.ext _ _ _ _ = Option.none
    rw [ext_ne (fo.ne hx nt_lst), ext_ne (fk.ne hx nt_lst), ext_ne (fe.ne hx nt_lst)]
    exact hb
  · show OB.ext _ _ _ _ = Option.none
    rw [ext_ne nro, ext_ne nrk, ext_ne hne]
    exact d.none fr
  · show ¬ OB.ext _ _ _ _ = Option.none
    rw [ext_ne neo, ext_ne nek, ext_self]
    exact fun z => nomatch z
  · rw [ext_ne nko, ext_self]
  · rw [ext_ne neo, ext_ne nek, ext_self]
theorem br_step (j k : Nat) {R : VK} {σ : L2.St} {iv : Nat} (hσ : σ[iv]? = some (some (.ref a))) (c : ColH K own H i o κ a ms E) (d : Dm own H) (hz : ms.length < 1000)
    (q : ∀ o' own' H', Same H H' → Oext own own' H → Dm own' H' → ColH K own' H' j k κ o' ms 0 → R (.ref o') H') {e : XK} : tMeth (CB K) "branch" (spBr K) [] e (tVar iv) tNil σ H R := by
  obtain ⟨dx, F, rs, es, c, he, h0, h1, h2⟩ := c
  refine ⟨_, hσ, a, dx, _, rfl, c.at_, F.no "branch", a, dx, F, ms, κ, Imo own, rs, es, rfl, c, hz, fun o' dx' F' H' s n1 n2 n3 n4 ne cc => ?_⟩
  obtain ⟨own', x1, x2, x3⟩ := own_new j k d (same_ext s) (.of n1) (.of n2) (.of n3) (.of n4) ne cc
  exact q o' own' H' s x1 x2 x3
/-- a call of _law_counts or of _law_lines -/
theorem new_step (j k : Nat) {R : VK} (d : Dm own H) (t : Tabs (Tbs K) H) (q : ∀ o' own' H', ExtN H H' → Tabs (Tbs K) H' → Oext own own' H → Dm own' H' → ColH K own' H' j k κ o' [] 0 → R (.ref o') H') {e : XK} : spNew K κ [] H R e := by
  refine ⟨rfl, t, fun o' dx F H' ex t' f1 f2 f3 f4 ne cc => ?_⟩
  obtain ⟨own', x1, x2, x3⟩ := own_new j k d ex f1 f2 f3 f4 ne fun Im' _ => cc Im'
  exact q o' own' H' ex t' x1 x2 x3
end
section
variable {K : PySem.W.Frag} {own own' : Own} {H H' : Hp} {i : Nat} {ac al il pl : Addr} {mc ml xi xp : List Ln} {E : Nat}
theorem HomeAt.reown (c : HomeAt K own H i ac al il pl mc ml xi xp E) (h : Oext own own' H) : HomeAt K own' H i ac al il pl mc ml xi xp E :=
  ⟨c.c.reown h, c.l.reown h, c.hil, c.hpl, (h _ _ c.hil nt_lst).trans c.oi, (h _ _ c.hpl nt_lst).trans c.op⟩
theorem HomeAt.ext (c : HomeAt K own H i ac al il pl mc ml xi xp E) (h : ExtN H H') : HomeAt K own H' i ac al il pl mc ml xi xp E :=
  ⟨c.c.ext h, c.l.ext h, h _ _ c.hil nt_lst, h _ _ c.hpl nt_lst, c.oi, c.op⟩
end
/-! ### all homes -/
structure Hm where
  ha : Addr
  ac : Addr
  al : Addr
  il : Addr
  pl : Addr
  mc : List Ln
  ml : List Ln
  xi : List Ln
  xp : List Ln
def HmAt (K : PySem.W.Frag) (own : Own) (H : Hp) (i : Nat) (h : Hm) (n E : Nat) : Prop := H h.ha = some (.lst [.ref h.ac, .ref h.al, .ref h.il, .ref h.pl]) ∧ own h.ha = none ∧ HomeAt K own H i h.ac h.al h.il h.pl h.mc h.ml h.xi h.xp E ∧ h.mc.length ≤ n ∧ h.ml.length ≤ n ∧ h.xi.length ≤ n ∧ h.xp.length ≤ n
def Scr (K : PySem.W.Frag) (own : Own) (H : Hp) (a : Addr) (xs : List V) : Prop := (∃ u, H a = some u ∧ (∀ ps, u ≠ .tbl ps) ∧ own a = none ∧ ∀ H' : Hp, H' a = some u → SqL K H' a xs) ∨ ∀ H', SqL K H' a xs
theorem Scr.of {K : PySem.W.Frag} {own : Own} {H : Hp} {a : Addr} {xs : List V} (h : SqL K H a xs) (n : own a = none) : Scr K own H a xs := by
  rcases h with (h | ⟨o, h⟩) | h
  · exact .inl ⟨_, h, nt_lst, n, fun H' e => .inl (.inl e)⟩
  · exact .inl ⟨_, h, (fun _ z => nomatch z), n, fun H' e => .inl (.inr ⟨o, e⟩)⟩
  · exact .inr fun H' => .inr h
section
variable {K : PySem.W.Frag} {own own' : Own} {H H' : Hp} {a b hs : Addr} {xs : List V} {hms : List Hm} {n E : Nat} {S : Addr → Prop}
theorem Scr.sq (s : Scr K own H a xs) : SqL K H a xs := by
  rcases s with ⟨u, h1, _, _, h2⟩ | h
  · exact h2 H h1
  · exact h H
theorem Scr.fr (s : Scr K own H a xs) (f : Fz S H H') (h : ∀ x, S x → own x ≠ none) : Scr K own H' a xs := by
  rcases s with ⟨u, h1, n, h3, h2⟩ | h
  · exact .inl ⟨u, f _ _ h1 (fun z => h _ z h3) n, n, h3, h2⟩
  · exact .inr h
theorem Scr.reown (s : Scr K own H a xs) (h : Oext own own' H) : Scr K own' H a xs := by
  rcases s with ⟨u, h1, n, h3, h2⟩ | z
  · exact .inl ⟨u, h1, n, (h _ _ h1 n).trans h3, h2⟩
  · exact .inr z
/-- the law's state in a turn -/
structure St1 (K : PySem.W.Frag) (own : Own) (H : Hp) (a b hs : Addr) (xs : List V) (hms : List Hm) (n E : Nat) : Prop where
  scr : Scr K own H a xs
  bag : BagAt H b
  ob : own b = some (100, 0)
  hhs : H hs = some (.lst (hms.map fun h => V.ref h.ha))
  oh : own hs = some (101, 0)
  dm : Dm own H
  all : ∀ i h, hms[i]? = some h → HmAt K own H i h n E
  tb : Tabs (Tbs K) H
  l4 : hms.length ≤ 4
theorem BagAt.fr (g : BagAt H b) (f : Fz S H H') (h : ¬ S b) : BagAt H' b := by
  obtain ⟨x, y, z, e, r⟩ := g
  exact ⟨x, y, z, f _ _ e h nt_lst, r⟩
theorem St1.mono (s : St1 K own H a b hs xs hms n E) {n' E' : Nat} (h1 : n ≤ n') (h2 : E ≤ E') : St1 K own H a b hs xs hms n' E' :=
  ⟨s.scr, s.bag, s.ob, s.hhs, s.oh, s.dm, fun i h e => let ⟨x1, x2, x3, x4, x5, x6, x7⟩ := s.all i h e; ⟨x1, x2, x3.mono h2, by omega, by omega, by omega, by omega⟩, s.tb, s.l4⟩
/-- the bag alone moved -/
theorem St1.bs (s : St1 K own H a b hs xs hms n E) (x : Bs b H H') : St1 K own H' a b hs xs hms n E := by
  have hS : ∀ y, y = b → own y = some (100, 0) := fun y e => by rw [e]; exact s.ob
  have nn : ∀ y, y = b → own y ≠ none := fun y e => by rw [hS y e]; exact fun z => nomatch z
  refine ⟨s.scr.fr x.fz nn, x.bag, s.ob, x.fz _ _ s.hhs (own_ne s.oh s.ob (by simp)) nt_lst, s.oh, s.dm.step x.fz fun y e => ?_, fun i h e => ?_, x.tb _ s.tb, s.l4⟩
  · obtain ⟨_, _, _, z, _⟩ := x.bag
    rw [e]
    exact .lst z
  · obtain ⟨x1, x2, x3, x4⟩ := s.all i h e
    have hi : i < hms.length := (List.getElem?_eq_some_iff.mp e).1
    have := s.l4
    exact ⟨x.fz _ _ x1 (fun z => nn _ z x2) nt_lst, x2, x3.fr s.dm x.fz fun y e => ⟨100, 0, hS y e, by omega⟩, x4⟩
/-- new things, new owners -/
theorem St1.grow (s : St1 K own H a b hs xs hms n E) (o : Oext own own' H) (e : Same H H') (d : Dm own' H') : St1 K own' H' a b hs xs hms n E := by
  obtain ⟨x, y, z, eb, r⟩ := s.bag
  refine ⟨(s.scr.reown o).fr (S := fun _ => False) (Fz.same e) (fun _ z => z.elim), ⟨x, y, z, e _ _ eb, r⟩, (o _ _ eb nt_lst).trans s.ob, e _ _ s.hhs, (o _ _ s.hhs nt_lst).trans s.oh, d, fun i h g => ?_, s.tb.ext e, s.l4⟩
  obtain ⟨x1, x2, x3, x4⟩ := s.all i h g
  exact ⟨e _ _ x1, (o _ _ x1 nt_lst).trans x2, (x3.reown o).ext (same_ext e), x4⟩
theorem St1.same (s : St1 K own H a b hs xs hms n E) (e : Same H H') : St1 K own H' a b hs xs hms n E := s.grow (fun _ _ _ _ => rfl) e (s.dm.ext (same_ext e))
/-- one home's things moved -/
theorem St1.upd {i : Nat} {h : Hm} {mc ml xi xp : List Ln} {n' E' : Nat} (s : St1 K own H a b hs xs hms n E) (f : Fz S H H') (hS : ∀ x, S x → own x = some (100, 0) ∨ ∃ k, own x = some (i, k)) (hi : hms[i]? = some h) (g : BagAt H' b) (t : Tabs (Tbs K) H') (d : Dm own H')
    (hh : HomeAt K own H' i h.ac h.al h.il h.pl mc ml xi xp E') (hE : E ≤ E') (hn : n ≤ n') (l1 : mc.length ≤ n') (l2 : ml.length ≤ n') (l3 : xi.length ≤ n') (l4 : xp.length ≤ n') : St1 K own H' a b hs xs (hms.set i { h with mc := mc, ml := ml, xi := xi, xp := xp }) n' E' := by
  have hil : i < hms.length := (List.getElem?_eq_some_iff.mp hi).1
  have h4 := s.l4
  have nn : ∀ y, S y → own y ≠ none := fun y e z => by
    rcases hS y e with q | ⟨k, q⟩ <;> rw [q] at z <;> cases z
  refine ⟨s.scr.fr f nn, g, s.ob, ?_, s.oh, d, fun j u e => ?_, t, by rw [List.length_set]; exact h4⟩
  · have e1 : (hms.set i { h with mc := mc, ml := ml, xi := xi, xp := xp }).map (fun h => V.ref h.ha) = hms.map fun h => V.ref h.ha := by
      rw [List.map_set]
      refine List.ext_getElem? fun j => ?_
      by_cases hj : i = j
      · subst hj
        rw [List.getElem?_set_self (by rw [List.length_map]; exact hil), List.getElem?_map, hi]
        rfl
      · rw [List.getElem?_set_ne hj]
    rw [e1]
    refine f _ _ s.hhs (fun z => ?_) nt_lst
    rcases hS _ z with q | ⟨k, q⟩ <;> rw [s.oh] at q <;> cases q
    omega
  · by_cases hj : i = j
    · subst hj
      rw [List.getElem?_set_self hil] at e
      obtain rfl := Option.some.inj e
      obtain ⟨x1, x2, _⟩ := s.all i h hi
      exact ⟨f _ _ x1 (fun z => nn _ z x2) nt_lst, x2, hh, l1, l2, l3, l4⟩
    · rw [List.getElem?_set_ne hj] at e
      obtain ⟨x1, x2, x3, x4, x5, x6, x7⟩ := s.all j u e
      have hjl : j < hms.length := (List.getElem?_eq_some_iff.mp e).1
      refine ⟨f _ _ x1 (fun z => nn _ z x2) nt_lst, x2, (x3.fr s.dm f fun y q => ?_).mono hE, by omega, by omega, by omega, by omega⟩
      rcases hS y q with q | ⟨k, q⟩
      · exact ⟨100, 0, q, by omega⟩
      · exact ⟨i, k, q, hj⟩
theorem set_same {i : Nat} {h : Hm} (hi : hms[i]? = some h) : hms.set i h = hms := by
  refine List.ext_getElem? fun j => ?_
  by_cases hj : i = j
  · subst hj
    rw [List.getElem?_set_self (List.getElem?_eq_some_iff.mp hi).1, hi]
  · rw [List.getElem?_set_ne hj]
theorem St1.upd2 {i : Nat} {h : Hm} {mc ml xi xp : List Ln} {n' E' : Nat} (s : St1 K own H a b hs xs (hms.set i h) n E) (hil : i < hms.length) (f : Fz S H H') (hS : ∀ x, S x → own x = some (100, 0) ∨ ∃ k, own x = some (i, k)) (g : BagAt H' b) (t : Tabs (Tbs K) H') (d : Dm own H')
    (hh : HomeAt K own H' i h.ac h.al h.il h.pl mc ml xi xp E') (hE : E ≤ E') (hn : n ≤ n') (l1 : mc.length ≤ n') (l2 : ml.length ≤ n') (l3 : xi.length ≤ n') (l4 : xp.length ≤ n') : St1 K own H' a b hs xs (hms.set i { h with mc := mc, ml := ml, xi := xi, xp := xp }) n' E' := by
  have := s.upd f hS (List.getElem?_set_self hil) g t d hh hE hn l1 l2 l3 l4
  rw [List.set_set] at this
  exact this
theorem St1.home {i : Nat} {h : Hm} (s : St1 K own H a b hs xs (hms.set i h) n E) (hil : i < hms.length) : HmAt K own H i h n E := s.all i h (List.getElem?_set_self hil)
/-- a home more -/
theorem St1.app {h : Hm} (s : St1 K own H a b hs xs hms n E) (l : hms.length < 4) (hh : HmAt K own H hms.length h n E) : St1 K own (L2.upd H hs (.lst (hms.map (fun h => V.ref h.ha) ++ [.ref h.ha]))) a b hs xs (hms ++ [h]) n E := by
  have f : Fz (fun x => x = hs) H (L2.upd H hs (.lst (hms.map (fun h => V.ref h.ha) ++ [.ref h.ha]))) := Fz.one
  have nn : ∀ y, y = hs → own y ≠ Option.none := fun y e => by
    rw [e, s.oh]
    exact fun z => nomatch z
  have hm : ∀ j u, HmAt K own H j u n E → j ≤ 4 → HmAt K own (L2.upd H hs (.lst (hms.map (fun h => V.ref h.ha) ++ [.ref h.ha]))) j u n E := fun j u ⟨x1, x2, x3, x4⟩ hj =>
    ⟨f _ _ x1 (fun z => nn _ z x2) nt_lst, x2, x3.fr s.dm f fun y e => ⟨101, 0, by rw [e]; exact s.oh, by omega⟩, x4⟩
  refine ⟨s.scr.fr f nn, s.bag.fr f (own_ne s.ob s.oh (by simp)), s.ob, ?_, s.oh, s.dm.step f fun y e => ?_, fun j u e => ?_, tabs_lst s.tb s.hhs, ?_⟩
  · rw [upd_same, List.map_append]
    rfl
  · rw [e]
    exact .lst upd_same
  · by_cases hj : j < hms.length
    · rw [List.getElem?_append_left hj] at e
      exact hm j u (s.all j u e) (by omega)
    · have hj2 : j < (hms ++ [h]).length := (List.getElem?_eq_some_iff.mp e).1
      rw [List.length_append, List.length_singleton] at hj2
      have hj3 : j = hms.length := by omega
      subst hj3
      rw [List.getElem?_append_right (Nat.le_refl _), Nat.sub_self] at e
      obtain rfl := Option.some.inj e
      exact hm _ _ hh (by omega)
  · rw [List.length_append, List.length_singleton]
    omega
theorem st_start {own0 own1 own2 : Own} {H1 H2 H3 H4 : Hp} {oc ol il pl h0 : Addr} (sc : SqL K H1 a xs) (s2 : Same H1 H2) (x2 : Oext (fun _ => none) own0 H1) (ob : own0 b = some (100, 0)) (bag2 : BagAt H2 b) (t4 : Tabs (Tbs K) H4)
    (x3 : Oext own0 own1 H2) (e3 : ExtN H2 H3) (c3 : ColH K own1 H3 0 0 .c oc [] 0) (x4 : Oext own1 own2 H3) (e4 : ExtN H3 H4) (d4 : Dm own2 H4) (l4 : ColH K own2 H4 0 3 .l ol [] 0) (hil : H4 il = none) (hpl : L2.upd H4 il (.lst []) pl = none)
    (hh0 : L2.upd (L2.upd H4 il (.lst [])) pl (.lst []) h0 = none) (hhs : L2.upd (L2.upd (L2.upd H4 il (.lst [])) pl (.lst [])) h0 (.lst [.ref oc, .ref ol, .ref il, .ref pl]) hs = none) :
    ∃ own, St1 K own (L2.upd (L2.upd (L2.upd (L2.upd H4 il (.lst [])) pl (.lst [])) h0 (.lst [.ref oc, .ref ol, .ref il, .ref pl])) hs (.lst [.ref h0])) a b hs xs [⟨h0, oc, ol, il, pl, [], [], [], []⟩] 0 0 := by
  obtain ⟨H5, q5⟩ : ∃ H5, H5 = L2.upd H4 il (.lst []) := ⟨_, rfl⟩
  have il5 : H5 il = some (.lst []) := by rw [q5]; exact upd_same
  have s5 : Same H4 H5 := by rw [q5]; exact same_new hil
  rw [← q5] at hpl hh0 hhs ⊢
  obtain ⟨H6, q6⟩ : ∃ H6, H6 = L2.upd H5 pl (.lst []) := ⟨_, rfl⟩
  have pl6 : H6 pl = some (.lst []) := by rw [q6]; exact upd_same
  have s6 : Same H5 H6 := by rw [q6]; exact same_new hpl
  rw [← q6] at hh0 hhs ⊢
  obtain ⟨H7, q7⟩ : ∃ H7, H7 = L2.upd H6 h0 (.lst [.ref oc, .ref ol, .ref il, .ref pl]) := ⟨_, rfl⟩
  have h07 : H7 h0 = some (.lst [.ref oc, .ref ol, .ref il, .ref pl]) := by rw [q7]; exact upd_same
  have s7 : Same H6 H7 := by rw [q7]; exact same_new hh0
  rw [← q7] at hhs ⊢
  obtain ⟨H8, q8⟩ : ∃ H8, H8 = L2.upd H7 hs (.lst [.ref h0]) := ⟨_, rfl⟩
  have hs8 : H8 hs = some (.lst [.ref h0]) := by rw [q8]; exact upd_same
  have s8 : Same H7 H8 := by rw [q8]; exact same_new hhs
  rw [← q8]
  have d5 : Dm (ext own2 il (0, 6)) H5 := d4.ext1 (same_ext s5) (.lst il5)
  have d6 : Dm (ext (ext own2 il (0, 6)) pl (0, 7)) H6 := d5.ext1 (same_ext s6) (.lst pl6)
  have d8 : Dm (ext (ext (ext own2 il (0, 6)) pl (0, 7)) hs (101, 0)) H8 := (d6.ext (same_ext s7)).ext1 (same_ext s8) (.lst hs8)
  have o5 : Oext own2 (ext own2 il (0, 6)) H4 := Oext.one (.of hil)
  have o6 : Oext (ext own2 il (0, 6)) (ext (ext own2 il (0, 6)) pl (0, 7)) H5 := Oext.one (.of hpl)
  have o8 : Oext (ext (ext own2 il (0, 6)) pl (0, 7)) (ext (ext (ext own2 il (0, 6)) pl (0, 7)) hs (101, 0)) H7 := Oext.one (.of hhs)
  have n0 : ext (ext own2 il (0, 6)) pl (0, 7) h0 = none := d6.none (.of hh0)
  have i5 : ext own2 il (0, 6) il = some (0, 6) := ext_self
  have p6 : ext (ext own2 il (0, 6)) pl (0, 7) pl = some (0, 7) := ext_self
  have hs8o : ext (ext (ext own2 il (0, 6)) pl (0, 7)) hs (101, 0) hs = some (101, 0) := ext_self
  obtain ⟨own, qo⟩ : ∃ own, own = ext (ext (ext own2 il (0, 6)) pl (0, 7)) hs (101, 0) := ⟨_, rfl⟩
  rw [← qo] at d8 o8 hs8o
  have e78 := same_ext s8
  have e67 := same_ext s7
  have e56 := same_ext s6
  have e45 := same_ext s5
  have tr : ∀ {A B C : Hp}, ExtN A B → ExtN B C → ExtN A C := fun x y b o e n => y b o (x b o e n) n
  have E58 : ExtN H5 H8 := tr e56 (tr e67 e78)
  have E48 : ExtN H4 H8 := tr e45 E58
  have E28 : ExtN H2 H8 := tr e3 (tr e4 E48)
  have o6' : Oext (ext (ext own2 il (0, 6)) pl (0, 7)) own H6 := fun x u h n => o8 x u (s7 _ _ h) n
  have O4 : Oext own2 own H4 := o5.trans (o6.trans o6' e56) e45
  have O2 : Oext own0 own H2 := x3.trans (x4.trans O4 e4) e3
  have O1 : Oext (fun _ => none) own H1 := x2.trans O2 (same_ext s2)
  obtain ⟨g, sd, n, eb, r⟩ := bag2
  refine ⟨own, ((Scr.of sc rfl).reown O1).fr (S := fun _ => False) (Fz.ext (tr (same_ext s2) E28)) (fun _ z => z.elim), ⟨g, sd, n, E28 _ _ eb nt_lst, r⟩, (O2 _ _ eb nt_lst).trans ob, hs8, hs8o, d8, fun i h e => ?_, ?_, by show 1 ≤ 4; decide⟩
  · have hi : i < 1 := (List.getElem?_eq_some_iff.mp e).1
    have hi0 : i = 0 := by omega
    subst hi0
    obtain rfl := Option.some.inj e
    refine ⟨s8 _ _ h07, (o8 _ _ h07 nt_lst).trans n0, ⟨((c3.reown x4).ext e4 |>.reown O4).ext E48, (l4.reown O4).ext E48, E58 _ _ il5 nt_lst, (tr e67 e78) _ _ pl6 nt_lst, ((o6.trans o6' e56) _ _ il5 nt_lst).trans i5, (o6' _ _ pl6 nt_lst).trans p6⟩, Nat.le_refl _, Nat.le_refl _, Nat.le_refl _, Nat.le_refl _⟩
  · exact (((t4.ext s5).ext s6).ext s7).ext s8
theorem r_step {i : Nat} {h : Hm} {R : VK} (st : St1 K own H a b hs xs hms n E) (hi : hms[i]? = some h) (e1 : h.xi = h.mc) (e2 : h.xp = h.ml) (hn : n < 64) (hE : E ≤ 900000) (k : ∀ H', St1 K own H' a b hs xs hms n (E + 512) → R (.bl true) H') {e : XK} :
    spRight K [.ref b, .ref h.ac, .ref h.al, .ref h.il, .ref h.pl] H R e := by
  obtain ⟨x1, x2, x3, l1, l2, l3, l4⟩ := st.all i h hi
  have hil : i < hms.length := (List.getElem?_eq_some_iff.mp hi).1
  have h4 := st.l4
  rw [e1, e2] at x3
  refine ⟨b, h.ac, h.al, h.il, h.pl, h.mc, h.ml, own, i, 100, E, rfl, st.bag, st.ob, by omega, x3, st.dm, by omega, by omega, hE, st.tb, fun H' f t g d hh => k H' ?_⟩
  have := st.upd f (fun _ z => z) hi g t d hh (Nat.le_add_right _ _) (Nat.le_refl _) l1 l2 l1 l2
  rw [← e1, ← e2] at this
  have e3 : ({ h with mc := h.xi, ml := h.xp, xi := h.xi, xp := h.xp } : Hm) = h := by
    cases h
    cases e1
    cases e2
    rfl
  rw [e3, set_same hi] at this
  exact this
theorem r_stepC {i : Nat} {h : Hm} {R : VK} {σ : L2.St} (q2 : σ[2]? = some (some (.ref b))) (q5 : σ[5]? = some (some (.ref h.ac))) (q6 : σ[6]? = some (some (.ref h.al))) (q7 : σ[7]? = some (some (.ref h.il))) (q8 : σ[8]? = some (some (.ref h.pl))) (st : St1 K own H a b hs xs hms n E) (hi : hms[i]? = some h) (e1 : h.xi = h.mc) (e2 : h.xp = h.ml) (hn : n < 64) (hE : E ≤ 900000) (k : ∀ H', St1 K own H' a b hs xs hms n (E + 512) → R (.bl true) H') {e : XK} :
    tCall (spRight K) [] e (tCons (tVar 2) (tCons (tVar 5) (tCons (tVar 6) (tCons (tVar 7) (tCons (tVar 8) tNil))))) σ H R :=
  ⟨_, q2, _, q5, _, q6, _, q7, _, q8, r_step (e := e) st hi e1 e2 hn hE k⟩
theorem lastV (κ : Kd) (r : List Ln) (m : Ln) : atI ((r ++ [m]).map (mV κ)) (-1) = some (mV κ m) := by
  have h := atI_neg (xs := (r ++ [m]).map (mV κ)) (k := 1) (by decide) (by simp)
  rw [show (-(1 : Int)) = -((1 : Nat) : Int) from rfl, h]
  simp
/-- what follows a statement, once for all its ends -/
theorem seq_rest {t u : TS} {D : Ends} {σ : L2.St} {H : Hp} (REST : Hp → Prop) (h1 : ∀ Hd, REST Hd → u D σ Hd) (h2 : ∀ N : L2.St → Hp → Prop, (∀ Hd, REST Hd → N σ Hd) → t { D with nx := N } σ H) : tNext { D with nx := tSeq t u D } σ H := h2 (u D) h1
end
end OB
namespace OB
open PySem PySem.Spec PyProof.Rows L2 LamX NdefX
section
variable {P : Program} {w : World} {K : PySem.W.Frag} {mg : Str → Option Value} {base : Heap}
def spLaw (K : PySem.W.Frag) : Sp := fun vs H Q _ => ∃ (a : Addr) (ns : List Int), vs = [.ref a] ∧ SqL K H a (ns.map V.int) ∧ Tabs (Tbs K) H ∧ ∀ H', Q (.bl true) H'
abbrev nLaw : List Str := ["_law_script", "_law_k", "_law_bag_here", "_law_homes", "_law_turn", "_law_counts_here", "_law_lines_here", "_law_integers", "_law_pairs"]
theorem scLaw : FnScope nLaw ["_law_script"] (defScope sLaw) := ⟨rfl, rfl, rfl, by decide +kernel, rfl, by decide +kernel, by decide +kernel⟩
theorem ok_law (T : Tx K mg base) {fd : FuncData} (F : FunD K "law" "law" (defArgs sLaw) (defBody sLaw) (defScope sLaw) [] [] (He.fAd K ("law", none)) fd) : FnOk P w K mg base CX0 11 (He.fAd K ("law", none)) fd ["_law_script"] (spLaw K) := by
  have GI : FO P w K mg base 10 ("_law_integer", none) ["_law_bag_here"] spInt := (ok_int T).mono (by decide)
  have GT : FO P w K mg base 10 ("_law_take", none) ["_law_bag_here", "_law_many"] spTake := (ok_take T).mono (by decide)
  have GG : FO P w K mg base 10 ("_law_bag", none) ["_law_script", "_law_at"] (spBag K) := (ok_bag T).mono (by decide)
  have GC : FO P w K mg base 10 ("_law_counts", none) [] (spNew K .c) := (ok_co T).mono (by decide)
  have GL : FO P w K mg base 10 ("_law_lines", none) [] (spNew K .l) := (ok_lin T).mono (by decide)
  have GR : FO P w K mg base 10 ("_law_right", none) ["_law_bag_here", "_law_counts_here", "_law_lines_here", "_law_integers", "_law_pairs"] (spRight K) := ok_ri T
  have GA : FO P w K mg base 10 ("Blocks", some "add") ["self", "member"] (spAdd K) := (ok_add T).mono (by decide)
  have GB : FO P w K mg base 10 ("Blocks", some "branch") ["self"] (spBr K) := (ok_br T).mono (by decide)
  refine okD F scLaw (fun vs H Q E h => ?_) (fun A outer s H vs Q E hr h => ?_)
  · obtain ⟨a, ns, rfl, _⟩ := h
    rfl
  · have hlen := T.bi "len"
    have gi := T.glo "_law_integer"
    have gt := T.glo "_law_take"
    have gr := T.glo "_law_right"
    refine ⟨_, pss_cons (ps_for PassesOwn.never rfl (pi_range1 rfl (T.bi "range") (pa_cons (pe_op op_add pe_int (pe_callB (call_min2 rfl) (by rfl) (T.bi "min") (by decide +kernel) (pa_cons pe_int (pa_cons (pe_callB call_len_seq (by rfl) hlen PySem.boot_len (pa_cons (pv 0) pa_nil)) pa_nil)))) pa_nil)) (pg_name (i := 1) scLaw.nd rfl (Or.inl rfl))
        (pss_cons (ps_set (i := 2) scLaw.nd rfl (Or.inl rfl) (pe_fo GG hr rfl (T.glo "_law_bag") (pa_cons (pv 0) (pa_cons (pv 1) pa_nil))))
        (pss_cons (ps_set (i := 3) scLaw.nd rfl (Or.inl rfl) (pe_lst (pa_cons (pe_lst (pa_cons (pe_fo0 GC hr rfl (T.glo "_law_counts")) (pa_cons (pe_fo0 GL hr rfl (T.glo "_law_lines")) (pa_cons (pe_lst pa_nil) (pa_cons (pe_lst pa_nil) pa_nil))))) pa_nil)))
        (pss_cons (ps_for PassesOwn.never rfl (pi_range1 rfl (T.bi "range") (pa_cons (pe_fo GT hr rfl gt (pa_cons (pv 2) (pa_cons pe_int pa_nil))) pa_nil)) (pg_name (i := 4) scLaw.nd rfl (Or.inl rfl))
          (pss_cons (ps_asg (pe_ix ix_list (pv 3) (pe_fo GT hr rfl gt (pa_cons (pv 2) (pa_cons (pe_callB call_len_seq (by rfl) hlen PySem.boot_len (pa_cons (pv 3) pa_nil)) pa_nil))) (fun _ _ => rfl))
              (pg_unl rfl (pgs_cons (pg_name (i := 5) scLaw.nd rfl (Or.inl rfl)) (pgs_cons (pg_name (i := 6) scLaw.nd rfl (Or.inl rfl)) (pgs_cons (pg_name (i := 7) scLaw.nd rfl (Or.inl rfl)) (pgs_cons (pg_name (i := 8) scLaw.nd rfl (Or.inl rfl)) pgs_nil))))))
          (pss_cons (ps_if (pt_not (pt_truth (pe_fo GR hr rfl gr (pa_cons (pv 2) (pa_cons (pv 5) (pa_cons (pv 6) (pa_cons (pv 7) (pa_cons (pv 8) pa_nil)))))) (by intro _; rfl))) pss_never pss_nil)
          (pss_cons (ps_if (PW.pt (pw_and (pt_cmpR op_eq (pe_fo GT hr rfl gt (pa_cons (pv 2) (pa_cons pe_int pa_nil))) pe_int (nomark _)) (pw_and1 (pt_cmpR op_lt (pe_callB call_len_seq (by rfl) hlen PySem.boot_len (pa_cons (pv 3) pa_nil)) pe_int (nomark _)))))
              (pss_one (ps_expr (pe_bm PySem.F.plainAttrs_list PySem.F.slot_list_append PySem.F.type_list_append mt_append (pv 3) (pa_cons (pe_lst (pa_cons (pe_foM0 GB (pv 5) T.cl (T.me "branch") hr) (pa_cons (pe_foM0 GB (pv 6) T.cl (T.me "branch") hr)
                (pa_cons (pe_callTy call_list_of (by rfl) (T.bi "list") (by decide +kernel) (pa_cons (pv 7) pa_nil)) (pa_cons (pe_callTy call_list_of (by rfl) (T.bi "list") (by decide +kernel) (pa_cons (pv 8) pa_nil)) pa_nil))))) pa_nil)))) pss_nil)
          (pss_cons (ps_expr (pe_bm PySem.F.plainAttrs_list PySem.F.slot_list_append PySem.F.type_list_append mt_append (pv 7) (pa_cons (pe_fo GI hr rfl gi (pa_cons (pv 2) pa_nil)) pa_nil)))
          (pss_cons (ps_expr (pe_bm PySem.F.plainAttrs_list PySem.F.slot_list_append PySem.F.type_list_append mt_append (pv 8) (pa_cons (pe_tup (pa_cons (pe_fo GI hr rfl gi (pa_cons (pv 2) pa_nil)) (pa_cons (pe_fo GI hr rfl gi (pa_cons (pv 2) pa_nil)) pa_nil))) pa_nil)))
          (pss_cons (ps_expr (pe_foM GA (pv 5) T.cl (T.me "add") hr (pa_cons (pe_ix ix_list (pv 7) (pe_un un_neg pe_int) (fun _ _ => rfl)) pa_nil)))
          (pss_one (ps_expr (pe_foM GA (pv 6) T.cl (T.me "add") hr (pa_cons (pe_ix ix_list (pv 8) (pe_un un_neg pe_int) (fun _ _ => rfl)) pa_nil)))))))))))
        (pss_one (ps_for PassesOwn.never rfl (pi_list (pv 3)) (pg_unl rfl (pgs_cons (pg_name (i := 5) scLaw.nd rfl (Or.inl rfl)) (pgs_cons (pg_name (i := 6) scLaw.nd rfl (Or.inl rfl)) (pgs_cons (pg_name (i := 7) scLaw.nd rfl (Or.inl rfl)) (pgs_cons (pg_name (i := 8) scLaw.nd rfl (Or.inl rfl)) pgs_nil)))))
          (pss_one (ps_if (pt_not (pt_truth (pe_fo GR hr rfl gr (pa_cons (pv 2) (pa_cons (pv 5) (pa_cons (pv 6) (pa_cons (pv 7) (pa_cons (pv 8) pa_nil)))))) (by intro _; rfl))) pss_never pss_nil))))))))
      (pss_one (ps_ret pe_bl)), ?_⟩
    obtain ⟨a, ns, rfl, ha, hT, q⟩ := h
    obtain ⟨xs, exs⟩ : ∃ xs, xs = ns.map V.int := ⟨_, rfl⟩
    refine ⟨_, rfl, a, _, rfl, .inl ha, _, _, rfl, _, _, rfl, rfl, _, rfl, ?_, ?_, for_range (lo := 0) (fun j σ H' => ∃ v1 v2 v3 v4 v5 v6 v7 v8 : Option V, σ = [some (.ref a), v1, v2, v3, v4, v5, v6, v7, v8] ∧ SqL K H' a (ns.map V.int) ∧ Tabs (Tbs K) H')
      ⟨none, none, none, none, none, none, none, none, rfl, ha, hT⟩ ?_ ?_⟩
    · show -(2 ^ 62) ≤ (1 : Int) + _
      split <;> omega
    · show (1 : Int) + _ < 2 ^ 62
      split <;> omega
    rotate_left
    · rintro σ H' ⟨_, _, _, _, _, _, _, _, rfl, _, _⟩
      exact q H'
    rintro k σ H1 hk ⟨v1, v2, v3, v4, v5, v6, v7, v8, rfl, ha1, hT1⟩
    have hk2 : k ≤ 2 := by
      split at hk <;> omega
    -- bag, homes
    refine ⟨_, rfl, _, rfl, a, ns, k, (by rw [Int.zero_add]; rfl), ha1, hk2, fun b H2 nb s2 bag2 => ?_⟩
    have t2 : Tabs (Tbs K) H2 := hT1.ext s2
    have m2 : MutAt H2 b := by
      obtain ⟨_, _, _, e, _⟩ := bag2
      exact .lst e
    have x2 : Oext (fun _ => none) (OB.ext (fun _ => none) b (100, 0)) H1 := Oext.one (.of nb)
    have d2 : Dm (OB.ext (fun _ => none) b (100, 0)) H2 := Dm.ext1 (H := H1) (fun _ _ h => nomatch h) (same_ext s2) m2
    have ob2 : OB.ext (fun _ => none) b (100, 0) b = some (100, 0) := ext_self
    obtain ⟨own0, eo⟩ : ∃ own0 : Own, own0 = OB.ext (fun _ => none) b (100, 0) := ⟨_, rfl⟩
    rw [← eo] at x2 d2 ob2
    refine new_step (e := E0) (κ := .c) 0 0 d2 t2 fun oc own1 H3 e3 t3 x3 d3 c3 => ?_
    refine new_step (e := E0) (κ := .l) 0 3 d3 t3 fun ol own2 H4 e4 t4 x4 d4 l4 => ?_
    refine ⟨Nat.zero_le _, fun il hil => ⟨Nat.zero_le _, fun pl hpl => ⟨(by show 4 ≤ sizeLine; decide), fun h0 hh0 => ⟨(by show 1 ≤ sizeLine; decide), fun hs hhs => ?_⟩⟩⟩⟩
    obtain ⟨own, st⟩ := st_start (K := K) (xs := xs) (by rw [exs]; exact ha1) s2 x2 ob2 bag2 t4 x3 e3 c3 x4 e4 d4 l4 hil hpl hh0 hhs
    obtain ⟨Hz, eHz⟩ : ∃ Hz, Hz = upd (upd (upd (upd H4 il (.lst [])) pl (.lst [])) h0 (.lst [.ref oc, .ref ol, .ref il, .ref pl])) hs (.lst [.ref h0]) := ⟨_, rfl⟩
    rw [← eHz] at st ⊢
    have big1 : (61 : Int).natAbs < 2 ^ 100 := by decide
    refine ⟨_, rfl, b, 61, rfl, st.bag, by decide, big1, fun r Hy r0 r1 sy => ⟨r, rfl, by omega, by omega, for_range (lo := 0) (n := r.toNat) (fun t σ H' => ∃ (own : Own) (hms : List Hm) (v4 v5 v6 v7 v8 : Option V), σ = [some (.ref a), some (.int (0 + (k : Int))), some (.ref b), some (.ref hs), v4, v5, v6, v7, v8] ∧ 1 ≤ hms.length ∧ St1 K own H' a b hs xs hms t (1000 * t) ∧ ∀ (i : Nat) (h : Hm), hms[i]? = some h → h.xi = h.mc ∧ h.xp = h.ml)
      ⟨own, _, v4, v5, v6, v7, v8, rfl, Nat.le_refl _, st.bs sy, fun i h e => ?_⟩ ?_ ?_⟩⟩
    · have hi : i < 1 := (List.getElem?_eq_some_iff.mp e).1
      have hi0 : i = 0 := by omega
      subst hi0
      obtain rfl := Option.some.inj e
      exact ⟨rfl, rfl⟩
    rotate_left
    · -- all homes once more
      rintro σ H' ⟨own, hms, v4, v5, v6, v7, v8, rfl, h1, st, ev⟩
      refine ⟨_, rfl, hs, rfl, ⟨_, SqL.of st.hhs⟩, for_list (K := K) (a := hs) (xs := hms.map fun h => V.ref h.ha) (fun j σ H' => ∃ (v4 v5 v6 v7 v8 : Option V), σ = [some (.ref a), some (.int (0 + (k : Int))), some (.ref b), some (.ref hs), v4, v5, v6, v7, v8] ∧ St1 K own H' a b hs xs hms r.toNat (1000 * r.toNat + 1000 * j))
        ⟨v4, v5, v6, v7, v8, rfl, st⟩ (fun i σ H' _ ⟨_, _, _, _, _, _, st⟩ => SqL.of st.hhs) ?_ ?_⟩
      · rintro i x σ H' hi ⟨v4, v5, v6, v7, v8, rfl, st⟩
        have hil2 : i < hms.length := by
          have := (List.getElem?_eq_some_iff.mp hi).1
          rw [List.length_map] at this
          exact this
        obtain ⟨h, hi2⟩ : ∃ h, hms[i]? = some h := ⟨_, List.getElem?_eq_getElem hil2⟩
        have ex : x = .ref h.ha := by
          rw [List.getElem?_map, hi2] at hi
          exact (Option.some.inj hi).symm
        subst ex
        have h4 := st.l4
        obtain ⟨ev1, ev2⟩ := ev i h hi2
        refine ⟨h.ha, _, rfl, SqL.of (st.all i h hi2).1, rfl, _, _, rfl, _, _, rfl, _, _, rfl, _, _, rfl, rfl, ?_⟩
        refine r_stepC rfl rfl rfl rfl rfl st hi2 ev1 ev2 (by omega) (by omega) fun Hb stb => ⟨true, rfl, iteF ⟨_, _, _, _, _, rfl, stb.mono (Nat.le_refl _) (by omega)⟩⟩
      · rintro σ H' ⟨v4, v5, v6, v7, v8, rfl, st⟩
        exact ⟨_, _, _, _, _, _, _, _, rfl, by rw [← exs]; exact st.scr.sq, st.tb⟩
    rintro t σ H' ht ⟨own, hms, v4, v5, v6, v7, v8, rfl, h1, st, ev⟩
    have h4 := st.l4
    have hlen2 : ((hms.map fun h => V.ref h.ha).length : Int) = hms.length := by rw [List.length_map]
    refine ⟨_, rfl, _, rfl, _, rfl, hs, _, rfl, .inl (SqL.of st.hhs), b, _, rfl, st.bag, ?_, ?_, fun z Ha z0 z1 sa => ?_⟩
    · omega
    · rw [hlen2]
      have e2 : (2 : Nat) ^ 100 = 1267650600228229401496703205376 := by decide
      omega
    rw [hlen2] at z1
    have sta := st.bs sa
    obtain ⟨i, ei⟩ : ∃ i, i = z.toNat := ⟨_, rfl⟩
    have hil2 : i < hms.length := by omega
    obtain ⟨h, hi⟩ : ∃ h, hms[i]? = some h := ⟨_, List.getElem?_eq_getElem hil2⟩
    refine ⟨hs, _, _, .ref h.ha, rfl, rfl, SqL.of sta.hhs, at_of (j := i) (by omega) (by rw [List.getElem?_map, hi]; rfl), ?_⟩
    refine ⟨h.ha, _, rfl, SqL.of (sta.all i h hi).1, rfl, _, _, rfl, _, _, rfl, _, _, rfl, _, _, rfl, rfl, ?_⟩
    obtain ⟨ev1, ev2⟩ := ev i h hi
    refine r_stepC rfl rfl rfl rfl rfl sta hi ev1 ev2 (by omega) (by omega) fun Hb stb => ⟨true, rfl, iteF ?_⟩
    -- the branch
    refine seq_rest (fun Hd => ∃ (own : Own) (hms : List Hm), i < hms.length ∧ hms[i]? = some h ∧ St1 K own Hd a b hs xs hms t (1000 * t + 512) ∧ ∀ (i : Nat) (h : Hm), hms[i]? = some h → h.xi = h.mc ∧ h.xp = h.ml) ?_ ?_
    rotate_left
    · intro N hN
      refine ⟨_, rfl, b, 9, rfl, stb.bag, by decide, by decide, fun z9 Hc c0 c1 sc => ⟨rfl, _, rfl, ?_⟩⟩
      have stc := stb.bs sc
      have keep := hN Hc ⟨own, hms, hil2, hi, stc, ev⟩
      refine ite2 (fun _ => ?_) (fun _ => iteF keep)
      refine ⟨_, rfl, hs, _, rfl, .inl (SqL.of stc.hhs), _, _, rfl, rfl, _, rfl, ?_⟩
      refine ite2 (fun c4 => ?_) (fun _ => keep)
      have hl4 : hms.length < 4 := by
        have := of_decide_eq_true c4
        rw [hlen2] at this
        omega
      refine ⟨_, rfl, .inl ⟨rfl, _, SqL.of stc.hhs⟩, ?_⟩
      obtain ⟨_, _, hm, lh1, lh2, lh3, lh4⟩ := stc.all i h hi
      refine br_step (e := E0) hms.length 0 rfl hm.c stc.dm (by omega) fun o1 own1 G1 g1 y1 f1 cc1 => ?_
      have st1 := stc.grow y1 g1 f1
      obtain ⟨_, _, hm1, _⟩ := st1.all i h hi
      refine br_step (e := E0) hms.length 3 rfl hm1.l st1.dm (by omega) fun o2 own2 G2 g2 y2 f2 cc2 => ?_
      have st2 := st1.grow y2 g2 f2
      obtain ⟨_, _, hm2, _⟩ := st2.all i h hi
      refine ⟨_, rfl, h.il, _, rfl, .inl (SqL.of hm2.hil), fun l1 hl1 => ?_⟩
      have y3 : Oext own2 (OB.ext own2 l1 (hms.length, 6)) G2 := Oext.one (.of hl1)
      have f3 : Dm (OB.ext own2 l1 (hms.length, 6)) (upd G2 l1 (.lst (h.xi.map (mV .c)))) := st2.dm.ext1 (same_ext (same_new hl1)) (.lst upd_same)
      have st3 := st2.grow y3 (same_new hl1) f3
      obtain ⟨_, _, hm3, _⟩ := st3.all i h hi
      refine ⟨_, rfl, h.pl, _, rfl, .inl (SqL.of hm3.hpl), fun l2 hl2 => ?_⟩
      have y4 : Oext (OB.ext own2 l1 (hms.length, 6)) (OB.ext (OB.ext own2 l1 (hms.length, 6)) l2 (hms.length, 7)) (upd G2 l1 (.lst (h.xi.map (mV .c)))) := Oext.one (.of hl2)
      have f4 : Dm (OB.ext (OB.ext own2 l1 (hms.length, 6)) l2 (hms.length, 7)) (upd (upd G2 l1 (.lst (h.xi.map (mV .c)))) l2 (.lst (h.xp.map (mV .l)))) := st3.dm.ext1 (same_ext (same_new hl2)) (.lst upd_same)
      have st4 := st3.grow y4 (same_new hl2) f4
      refine ⟨(by show 4 ≤ sizeLine; decide), fun qh hqh => ?_⟩
      have g5 := same_new (o := .lst [.ref o1, .ref o2, .ref l1, .ref l2]) hqh
      have st5 := st4.same g5
      refine ⟨hs, _, _, rfl, rfl, st5.hhs, ?_, hN _ ⟨_, hms ++ [⟨qh, o1, o2, l1, l2, h.mc, h.ml, h.xi, h.xp⟩], ?_, ?_, st5.app (h := ⟨qh, o1, o2, l1, l2, h.mc, h.ml, h.xi, h.xp⟩) hl4 ⟨upd_same, f4.none (.of hqh), ⟨?_, ?_, ?_, ?_, ?_, ?_⟩, lh1, lh2, lh3, lh4⟩, fun j u e => ?_⟩⟩
      · rw [List.length_map]
        exact small1000 (by omega)
      · rw [List.length_append]
        omega
      · rw [List.getElem?_append_left hil2]
        exact hi
      · exact (((((((cc1.reown y2).ext (same_ext g2)).reown y3).ext (same_ext (same_new hl1))).reown y4).ext (same_ext (same_new hl2))).ext (same_ext g5)).mono (Nat.zero_le _)
      · exact (((((cc2.reown y3).ext (same_ext (same_new hl1))).reown y4).ext (same_ext (same_new hl2))).ext (same_ext g5)).mono (Nat.zero_le _)
      · exact g5 _ _ ((same_new hl2) _ _ upd_same)
      · exact g5 _ _ upd_same
      · exact (y4 _ _ upd_same nt_lst).trans ext_self
      · exact ext_self
      · by_cases hj : j < hms.length
        · rw [List.getElem?_append_left hj] at e
          exact ev j u e
        · have hj2 : j < (hms ++ [(⟨qh, o1, o2, l1, l2, h.mc, h.ml, h.xi, h.xp⟩ : Hm)]).length := (List.getElem?_eq_some_iff.mp e).1
          rw [List.length_append, List.length_singleton] at hj2
          have hj3 : j = hms.length := by omega
          subst hj3
          rw [List.getElem?_append_right (Nat.le_refl _), Nat.sub_self] at e
          obtain rfl := Option.some.inj e
          exact ⟨ev1, ev2⟩
    · rintro Hd ⟨own', hms', hil', hi', st', ev'⟩
      obtain ⟨w1, w2⟩ := ev' i h hi'
      have i4 : i < 4 := Nat.lt_of_lt_of_le hil' st'.l4
      have e2 : (2 : Nat) ^ 100 = 1267650600228229401496703205376 := by decide
      have e10 : (10 : Nat) ^ 20 = 100000000000000000000 := by decide
      have st0 : St1 K own' Hd a b hs xs (hms'.set i h) t (1000 * t + 512) := by
        rw [set_same hi']
        exact st'
      obtain ⟨_, _, k0, _⟩ := st0.home hil'
      refine ⟨_, rfl, .inl ⟨rfl, _, SqL.of k0.hil⟩, _, rfl, b, rfl, st0.bag, fun z1 He z1b se => ?_⟩
      have ste := st0.bs se
      obtain ⟨_, _, ke, n1, n2, n3, n4⟩ := ste.home hil'
      refine ⟨h.il, _, _, rfl, rfl, ke.hil, ?_, ?_⟩
      · rw [List.length_map]
        exact small1000 (by omega)
      have stf := ste.upd2 (n' := t + 1) hil' (S := fun x => x = h.il) Fz.one (fun x e => .inr ⟨6, by rw [e]; exact ke.oi⟩) (ste.bag.fr (S := fun x => x = h.il) Fz.one (own_ne ste.ob ke.oi (by simp))) (tabs_lst ste.tb ke.hil) (ste.dm.step (S := fun x => x = h.il) Fz.one fun x e => by rw [e]; exact .lst upd_same) (ke.setI ste.dm (0, z1, 0)) (Nat.le_refl _) (by omega) (by omega) (by omega) (by rw [List.length_append, List.length_singleton]; omega) (by omega)
      obtain ⟨Hf, eHf⟩ : ∃ Hf, Hf = upd He h.il (.lst (h.xi.map (mV .c) ++ [mV .c (0, z1, 0)])) := ⟨_, rfl⟩
      rw [← eHf] at stf
      show tSeq _ _ _ _ (upd He h.il (.lst (h.xi.map (mV .c) ++ [mV .c (0, z1, 0)])))
      rw [← eHf]
      obtain ⟨_, _, kf, _⟩ := stf.home hil'
      -- a pair
      refine ⟨_, rfl, .inl ⟨rfl, _, SqL.of kf.hpl⟩, _, rfl, b, rfl, stf.bag, fun z2 Hg z2b sg => ⟨_, rfl, b, rfl, sg.bag, fun z3 Hh z3b sh => ⟨(by show 2 ≤ sizeLine; decide), fun p hp => ?_⟩⟩⟩
      have sth := (stf.bs sg).bs sh
      have hpn : own' p = none := sth.dm.none (.of hp)
      have stp := sth.same (same_new (o := .tup [.int z2, .int z3]) hp)
      have tup : TupAt (upd Hh p (.tup [.int z2, .int z3])) (p, z2, z3) := ⟨upd_same, by show z2.natAbs < _; omega, by show z3.natAbs < _; omega⟩
      obtain ⟨Hp, eHp⟩ : ∃ Hp, Hp = upd Hh p (.tup [.int z2, .int z3]) := ⟨_, rfl⟩
      rw [← eHp] at stp tup ⊢
      obtain ⟨_, _, kp, _⟩ := stp.home hil'
      refine ⟨h.pl, _, _, rfl, rfl, kp.hpl, ?_, ?_⟩
      · rw [List.length_map]
        exact small1000 (by show h.xp.length ≤ 1000; omega)
      have npp : p ≠ h.pl := fun z => by
        have := kp.op
        rw [← z, hpn] at this
        cases this
      have stq := stp.upd2 (n' := t + 1) hil' (S := fun x => x = h.pl) Fz.one (fun x e => .inr ⟨7, by rw [e]; exact kp.op⟩) (stp.bag.fr (S := fun x => x = h.pl) Fz.one (own_ne stp.ob kp.op (by simp))) (tabs_lst stp.tb kp.hpl) (stp.dm.step (S := fun x => x = h.pl) Fz.one fun x e => by rw [e]; exact .lst upd_same) (kp.setP stp.dm (p, z2, z3)) (Nat.le_refl _) (Nat.le_refl _) (by show h.mc.length ≤ _; omega) (by show h.ml.length ≤ _; omega) (by show (h.xi ++ [_]).length ≤ _; rw [List.length_append, List.length_singleton]; omega) (by show (h.xp ++ [_]).length ≤ _; rw [List.length_append, List.length_singleton]; omega)
      have tupq : TupAt (upd Hp h.pl (.lst (h.xp.map (mV .l) ++ [mV .l (p, z2, z3)]))) (p, z2, z3) := ⟨(upd_ne npp).trans tup.1, tup.2⟩
      obtain ⟨Hq, eHq⟩ : ∃ Hq, Hq = upd Hp h.pl (.lst (h.xp.map (mV .l) ++ [mV .l (p, z2, z3)])) := ⟨_, rfl⟩
      rw [← eHq] at stq tupq
      show tSeq _ _ _ _ (upd Hp h.pl (.lst (h.xp.map (mV .l) ++ [mV .l (p, z2, z3)])))
      rw [← eHq]
      obtain ⟨_, _, kq, _⟩ := stq.home hil'
      -- counts.add(integers[-1])
      refine a_step (e := E0) (m := (0, z1, 0)) (iv := 5) rfl (fun R r => ⟨_, rfl, _, rfl, h.il, _, _, _, rfl, rfl, SqL.of kq.hil, lastV .c _ _, r⟩) kq.c stq.dm trivial (by show h.mc.length < 63; omega) (by omega) stq.tb fun v Hr fr tr cr dr => ?_
      have nb : ∀ {o : Nat}, ¬ Oz own' i o b := fun ⟨k, e, _⟩ => by
        rw [stq.ob] at e
        cases e
        omega
      have np : ∀ {o : Nat}, ¬ Oz own' i o p := fun ⟨k, e, _⟩ => by
        rw [hpn] at e
        cases e
      have str := stq.upd2 (n' := t + 1) (E' := 1000 * t + 513) hil' fr (fun x ⟨k, e, _⟩ => .inr ⟨k, e⟩) (stq.bag.fr fr nb) tr dr (kq.setC stq.dm fr cr (by omega)) (by omega) (Nat.le_refl _) (by show (h.mc ++ [_]).length ≤ _; rw [List.length_append, List.length_singleton]; omega) (by show h.ml.length ≤ _; omega) (by show (h.xi ++ [_]).length ≤ _; rw [List.length_append, List.length_singleton]; omega) (by show (h.xp ++ [_]).length ≤ _; rw [List.length_append, List.length_singleton]; omega)
      have tupr : TupAt Hr (p, z2, z3) := ⟨fr _ _ tupq.1 np (fun _ z => nomatch z), tupq.2⟩
      obtain ⟨_, _, kr, _⟩ := str.home hil'
      -- lines.add(pairs[-1])
      refine a_step (e := E0) (m := (p, z2, z3)) (iv := 6) rfl (fun R r => ⟨_, rfl, _, rfl, h.pl, _, _, _, rfl, rfl, SqL.of kr.hpl, lastV .l _ _, r⟩) kr.l str.dm tupr (by show h.ml.length < 63; omega) (by omega) str.tb fun v2 Hs fs ts cs ds => ?_
      have sts := str.upd2 (n' := t + 1) (E' := 1000 * t + 514) hil' fs (fun x ⟨k, e, _⟩ => .inr ⟨k, e⟩) (str.bag.fr fs nb) ts ds (kr.setL str.dm fs cs (by omega)) (by omega) (Nat.le_refl _) (by show (h.mc ++ [_]).length ≤ _; rw [List.length_append, List.length_singleton]; omega) (by show (h.ml ++ [_]).length ≤ _; rw [List.length_append, List.length_singleton]; omega) (by show (h.xi ++ [_]).length ≤ _; rw [List.length_append, List.length_singleton]; omega) (by show (h.xp ++ [_]).length ≤ _; rw [List.length_append, List.length_singleton]; omega)
      refine ⟨own', _, _, _, _, _, _, rfl, ?_, sts.mono (Nat.le_refl _) (by omega), fun j u e => ?_⟩
      · rw [List.length_set]
        omega
      · by_cases hj : i = j
        · subst hj
          rw [List.getElem?_set_self hil'] at e
          obtain rfl := Option.some.inj e
          exact ⟨by show h.xi ++ _ = h.mc ++ _; rw [w1], by show h.xp ++ _ = h.ml ++ _; rw [w2]⟩
        · rw [List.getElem?_set_ne hj] at e
          exact ev' j u e
end
end OB
namespace OB
open PySem PySem.Spec PyProof.Rows L2 LamX NdefX
theorem tx_of {w : World} {K : PySem.W.Frag} {h base : Heap} {mg : Str → Option Value} (KX : K.In base) (G : base.Ns mainGlobals mg) (c : He.SaysX fa fn [] tf ex w h K) (tb : ∀ p ∈ tf.map (He.cT K), TabB base mg p.1 p.2) : Tx K mg base := by
  refine ⟨c.t.d, c.more, fun x hx => He.glo_ok KX G (c.t.d.facts ?_), fun x hx => He.free_ok KX G (c.t.d.facts ?_), fun p hp => tb _ (List.mem_map.mpr ⟨p, hp, rfl⟩)⟩
  · unfold fa
    simp only [List.mem_append, List.mem_map]
    exact .inl (.inl (.inl (.inl ⟨x, hx, rfl⟩)))
  · unfold fa
    simp only [List.mem_append, List.mem_map]
    exact .inl (.inl (.inl (.inr ⟨x, hx, rfl⟩)))
theorem tabs0 {K : PySem.W.Frag} {H : Hp} (h : ∀ p ∈ tf.map (He.cT K), H p.2 = some (.tbl #[])) : Tabs (Tbs K) H := fun q hq => by
  obtain ⟨p, hp, e⟩ := List.mem_map.mp hq
  subst e
  exact TabS.nil (h (He.cT K p.1) (List.mem_map.mpr ⟨p.1, (List.of_mem_zip hp).1, rfl⟩))
theorem law_at {w : World} {h : Heap} {mg : Str → Option Value} {f : Addr} (Y : hk.says w h) (G : h.Ns mainGlobals mg) (hmg : mg ("law" : Str) = some (.ref f)) : ∃ K : PySem.W.Frag, K.In h ∧ LawAtS RWK w K CX0 11 63 "_law_script" mg f h := by
  obtain ⟨K, KX, c⟩ := Y
  refine ⟨K, KX, ?_⟩
  obtain ⟨fd, F⟩ := c.t.d.def_ 26 (d := OB.mk ("law", none) "law" sLaw "law") rfl
  have gl : mg ("law" : Str) = some (.ref (He.ga K "law")) := He.glo_ok KX G (c.t.d.facts (by
    unfold fa
    simp only [List.mem_append, List.mem_map]
    exact .inl (.inl (.inl (.inl ⟨"law", by decide +kernel, rfl⟩)))))
  have e := hmg.symm.trans gl
  cases e
  have b := FunD.bindsA (ps := ["_law_script"]) F fun _ _ _ _ _ _ us hl => match us, hl with | [_], _ => rfl
  refine ⟨fd, tf.map (He.cT K), spLaw K, fun p hp => ?_, fun p hp => ?_, fun p hp => ?_, fun s u => b s [u] rfl, fun H a ns _ _ ht hs => ⟨a, ns, rfl, hs, tabs0 ht, fun _ => rfl⟩, fun base KB GB tb => ok_law (tx_of KB GB c tb) F⟩
  · obtain ⟨d, hd, e⟩ := List.mem_map.mp hp
    rw [← e]
    exact c.empty d hd
  · obtain ⟨d, hd, e⟩ := List.mem_map.mp hp
    rw [← e]
    exact c.out d hd
  · obtain ⟨d, hd, e⟩ := List.mem_map.mp hp
    rw [← e]
    exact PySem.W.codeHd_of_K KX (c.hd d hd)
end OB
open PySem PySem.W PySem.Calls PyProof.Rows
theorem PySem.Challenge.cw_oncebuilt_k15_whole_counts_and_lines_holds : PySem.Challenge.rw_oncebuilt_k15_whole_counts_and_lines.Holds := by
  w_on; o_law
  refine HandSHeadRun.head_any (r := OpenLaw.row OB.RWK) (q := view (OpenLaw.row OB.RWK).prog [31]) (H := OB.hk) (ob := OB.ob) (M := 6000) (loose := OB.loose) (d := HandSHeadRun.topDef (OpenLaw.row OB.RWK).prog 31) (kwd := []) OB.ob_eq
    (by kernel_rfl) (fun s => by kernel_rfl) OB.run (by kernel_rfl) (by kernel_rfl) (by kernel_rfl) (by rfl) (by first | assumption | decide +kernel) (by decide +kernel) ⟨rfl, rfl, rfl, rfl, rfl, by decide +kernel⟩ ?hw ?hc
  case hw => w_witness2
  case hc =>
    refine LamX.walk_ofTsE (l := OB.RWK) (n := 63) (k := 11) (x := "_law_script") (CX := fun _ => L2.CX0) rfl (by decide) (by kernel_rfl) ⟨rfl, by decide, by decide⟩ ?F (fun _ _ _ _ _ z => z)
    intro w mg fa h Y G hmg0
    have hmg : mg ("law" : PySem.Str) = some (.ref fa) := by
      have e : (HandSHeadRun.topDef (OpenLaw.row OB.RWK).prog 31).name = ("law" : PySem.Str) := by kernel_rfl
      rw [← e]
      exact hmg0
    exact OB.law_at Y G hmg
