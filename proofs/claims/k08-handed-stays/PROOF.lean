import PyProof.Rows.All
import Wide.All
import OpenK.AllK
import Wide.FinOn
import HandS.ForMost
import HandS.ForExc
import HandS.IsInst
import HandS.SortInts
import HandS.Conv
import HandS.Style
import HandS.More
import HandS.Walk
import HandS.Steps
import KE.GoesEnum
import KE.GoesMore
import KE.BitLaws
import KE.DataFind
import HandS.SetBool
import HandS.Zip
import HandS.NoneIn
import HandS.ExcIs
import HandS.ExcOwn
import HandS.CallLocal
import KE.SortData
import HandS.Lambda
import HandS.Nested
import HandS.EndTab
import KE.KNestM
import HandS.HotCalls
import PySem.Challenge.RW_evendeal_k08_handed_stays
set_option Elab.async false
set_option linter.all false
set_option maxRecDepth 100000
set_option maxHeartbeats 4000000
/-! The mirror of ties_of and of Walk, and what it keeps. Plain Lean. -/
namespace Deal

def fset {α : Type} (f : Nat → α) (i : Nat) (v : α) : Nat → α := fun j => if j = i then v else f j
theorem fset_same {α : Type} {f : Nat → α} {i : Nat} {v : α} : fset f i v i = v := by simp [fset]
theorem fset_ne {α : Type} {f : Nat → α} {i j : Nat} {v : α} (h : j ≠ i) : fset f i v j = f j := by simp [fset, h]

/-- rows of n things -/
structure Good (n : Nat) (rs : List (List Nat)) : Prop where
  ne : rs ≠ []
  perm : ∀ r ∈ rs, r.Perm (List.range n)

abbrev Tie := Nat × Nat
def addT (T : Nat → List Tie) (x : Nat) (t : Tie) : Nat → List Tie := fset T x (T x ++ [t])
theorem mem_addT {T : Nat → List Tie} {x y : Nat} {t u : Tie} : u ∈ addT T x t y ↔ u ∈ T y ∨ (y = x ∧ u = t) := by
  unfold addT fset
  by_cases h : y = x
  · subst h
    simp
  · simp [h]
/-- the ties of the first j pairs of a row -/
def rowT (k : Nat) (r : List Nat) (T : Nat → List Tie) : Nat → Nat → List Tie
  | 0 => T
  | j + 1 => addT (addT (rowT k r T j) (r.getD (2 * j) 0) (r.getD (2 * j + 1) 0, k)) (r.getD (2 * j + 1) 0) (r.getD (2 * j) 0, k)
/-- the ties of the first i rows -/
def tiesK (rs : List (List Nat)) : Nat → Nat → List Tie
  | 0 => fun _ => []
  | i + 1 => rowT i (rs.getD i []) (tiesK rs i) ((rs.getD i []).length / 2)
def ties (rs : List (List Nat)) : Nat → List Tie := tiesK rs rs.length

/-- x and y are a pair of the row r -/
def PairOf (r : List Nat) (x y : Nat) : Prop := ∃ j, j < r.length / 2 ∧ ((r.getD (2 * j) 0 = x ∧ r.getD (2 * j + 1) 0 = y) ∨ (r.getD (2 * j) 0 = y ∧ r.getD (2 * j + 1) 0 = x))
/-- .. of the row with the count k -/
def Adj (rs : List (List Nat)) (k x y : Nat) : Prop := k < rs.length ∧ PairOf (rs.getD k []) x y
theorem PairOf.symm {r : List Nat} {x y : Nat} (h : PairOf r x y) : PairOf r y x := by
  obtain ⟨j, hj, h⟩ := h
  exact ⟨j, hj, h.elim (fun z => .inr z) fun z => .inl z⟩
theorem Adj.symm {rs : List (List Nat)} {k x y : Nat} (h : Adj rs k x y) : Adj rs k y x := ⟨h.1, h.2.symm⟩
theorem mem_rowT {k : Nat} {r : List Nat} {T : Nat → List Tie} {x y l : Nat} : ∀ {m : Nat}, (y, l) ∈ rowT k r T m x ↔ (y, l) ∈ T x ∨ (l = k ∧ ∃ j, j < m ∧ ((r.getD (2 * j) 0 = x ∧ r.getD (2 * j + 1) 0 = y) ∨ (r.getD (2 * j) 0 = y ∧ r.getD (2 * j + 1) 0 = x)))
  | 0 => by simp [rowT]
  | m + 1 => by
    unfold rowT
    rw [mem_addT, mem_addT, mem_rowT (m := m)]
    constructor
    · rintro ((h | h) | h)
      · rcases h with h | ⟨e, j, hj, h⟩
        · exact .inl h
        · exact .inr ⟨e, j, by omega, h⟩
      · obtain ⟨e, h⟩ := h
        injection h with h1 h2
        exact .inr ⟨h2, m, by omega, .inl ⟨e.symm, h1.symm⟩⟩
      · obtain ⟨e, h⟩ := h
        injection h with h1 h2
        exact .inr ⟨h2, m, by omega, .inr ⟨h1.symm, e.symm⟩⟩
    · rintro (h | ⟨e, j, hj, h⟩)
      · exact .inl (.inl (.inl h))
      · by_cases hm : j = m
        · subst hm
          rcases h with ⟨h1, h2⟩ | ⟨h1, h2⟩
          · exact .inl (.inr ⟨h1.symm, by rw [h2, e]⟩)
          · exact .inr ⟨h2.symm, by rw [h1, e]⟩
        · exact .inl (.inl (.inr ⟨e, j, by omega, h⟩))
theorem mem_tiesK {rs : List (List Nat)} {x y k : Nat} : ∀ {i : Nat}, (y, k) ∈ tiesK rs i x ↔ k < i ∧ PairOf (rs.getD k []) x y
  | 0 => by simp [tiesK]
  | i + 1 => by
    unfold tiesK
    rw [mem_rowT, mem_tiesK (i := i)]
    constructor
    · rintro (⟨h1, h2⟩ | ⟨e, h⟩)
      · exact ⟨by omega, h2⟩
      · subst e
        exact ⟨by omega, h⟩
    · rintro ⟨h1, h2⟩
      by_cases hk : k = i
      · subst hk
        exact .inr ⟨rfl, h2⟩
      · exact .inl ⟨by omega, h2⟩
theorem mem_ties {rs : List (List Nat)} {x y k : Nat} : (y, k) ∈ ties rs x ↔ Adj rs k x y := mem_tiesK

theorem Good.len {n : Nat} {rs : List (List Nat)} (G : Good n rs) {r : List Nat} (h : r ∈ rs) : r.length = n := by
  rw [(G.perm r h).length_eq, List.length_range]
theorem Good.at_mem {rs : List (List Nat)} {k : Nat} (h : k < rs.length) : rs.getD k [] ∈ rs := by
  have e : rs.getD k [] = rs[k] := by simp [List.getD, h]
  rw [e]
  exact List.getElem_mem h
theorem Good.lt {n : Nat} {rs : List (List Nat)} (G : Good n rs) {r : List Nat} (h : r ∈ rs) {i : Nat} (hi : i < n) : r.getD i 0 < n := by
  have l := G.len h
  have e : r.getD i 0 = r[i]'(by omega) := by simp [List.getD, show i < r.length by omega]
  rw [e]
  exact List.mem_range.mp ((G.perm r h).mem_iff.mp (List.getElem_mem _))
theorem Good.inj {n : Nat} {rs : List (List Nat)} (G : Good n rs) {r : List Nat} (h : r ∈ rs) {i j : Nat} (hi : i < n) (hj : j < n) (e : r.getD i 0 = r.getD j 0) : i = j := by
  have l := G.len h
  have nd : r.Nodup := (G.perm r h).nodup_iff.mpr List.nodup_range
  have e1 : r.getD i 0 = r[i]'(by omega) := by simp [List.getD, show i < r.length by omega]
  have e2 : r.getD j 0 = r[j]'(by omega) := by simp [List.getD, show j < r.length by omega]
  rw [e1, e2] at e
  exact (List.getElem_inj nd).mp e
theorem Good.adj_lt {n : Nat} {rs : List (List Nat)} (G : Good n rs) {k x y : Nat} (h : Adj rs k x y) : x < n ∧ y < n ∧ x ≠ y := by
  obtain ⟨hk, j, hj, h⟩ := h
  have m := Good.at_mem hk
  have l := G.len m
  have a := G.lt m (i := 2 * j) (by omega)
  have b := G.lt m (i := 2 * j + 1) (by omega)
  have c : (rs.getD k []).getD (2 * j) 0 ≠ (rs.getD k []).getD (2 * j + 1) 0 := fun e => by
    have := G.inj m (by omega) (by omega) e
    omega
  rcases h with ⟨h1, h2⟩ | ⟨h1, h2⟩
  · rw [h1] at a c
    rw [h2] at b c
    exact ⟨a, b, c⟩
  · rw [h1] at a c
    rw [h2] at b c
    exact ⟨b, a, fun e => c e.symm⟩

/-! ### the walk -/
structure S where
  sides : Nat → Option Bool
  heads : Nat → Option Nat
  ahead : Nat → Option (Nat × Nat)
  bar : Option (Nat × Nat × Nat)
def S0 : S := ⟨fun _ => none, fun _ => none, fun _ => none, none⟩
def flip (o : Option Bool) : Option Bool := o.map (!·)
/-- one tie of the thing here -/
def tieS (here : Nat) (sw : S × List Nat) (t : Tie) : S × List Nat :=
  if sw.1.sides t.1 = none then ({ sw.1 with sides := fset sw.1.sides t.1 (flip (sw.1.sides here)), ahead := fset sw.1.ahead t.1 (some (here, t.2)) }, sw.2 ++ [t.1])
  else if sw.1.sides t.1 = sw.1.sides here then ({ sw.1 with bar := some (here, t.1, t.2) }, sw.2)
  else sw
/-- one that waits is taken -/
def takeS (head here : Nat) (s : S) : S := { s with heads := fset s.heads here (some head) }
def popS (T : Nat → List Tie) (head : Nat) (sw : S × List Nat) : S × List Nat :=
  (T (sw.2.getLastD 0)).foldl (tieS (sw.2.getLastD 0)) (takeS head (sw.2.getLastD 0) sw.1, sw.2.dropLast)
def runS (T : Nat → List Tie) (head : Nat) : Nat → S × List Nat → S
  | 0, sw => sw.1
  | m + 1, sw => if sw.2 = [] then sw.1 else runS T head m (popS T head sw)
def meet0 (head : Nat) (s : S) : S × List Nat := ({ s with sides := fset s.sides head (some false) }, [head])
def meetS (T : Nat → List Tie) (n head : Nat) (s : S) : S := runS T head n (meet0 head s)
def initK (T : Nat → List Tie) (n : Nat) : Nat → S
  | 0 => S0
  | i + 1 => if (initK T n i).sides i = none then meetS T n i (initK T n i) else initK T n i
def walk (n : Nat) (rs : List (List Nat)) : S := initK (ties rs) n n

/-- how many of the first n are taken -/
def cnt (f : Nat → Option Nat) : Nat → Nat
  | 0 => 0
  | n + 1 => cnt f n + (if (f n).isSome then 1 else 0)
theorem cnt_out {f : Nat → Option Nat} {i : Nat} {v : Option Nat} : ∀ {n : Nat}, n ≤ i → cnt (fset f i v) n = cnt f n
  | 0, _ => rfl
  | n + 1, h => by
    unfold cnt
    rw [cnt_out (n := n) (by omega), fset_ne (by omega)]
theorem cnt_set {f : Nat → Option Nat} {i h : Nat} (hf : f i = none) : ∀ {n : Nat}, i < n → cnt (fset f i (some h)) n = cnt f n + 1
  | 0, z => by omega
  | n + 1, z => by
    unfold cnt
    by_cases e : i = n
    · subst e
      rw [cnt_out (Nat.le_refl _), fset_same, hf]
      simp
    · rw [cnt_set (n := n) hf (by omega), fset_ne (by omega)]
      omega
theorem cnt_le {f : Nat → Option Nat} : ∀ {n : Nat}, cnt f n ≤ n
  | 0 => Nat.le_refl _
  | n + 1 => by
    unfold cnt
    have := cnt_le (f := f) (n := n)
    split <;> omega
theorem cnt_lt {f : Nat → Option Nat} {i n : Nat} (h : i < n) (hf : f i = none) : cnt f n < n := by
  have := cnt_set (h := 0) hf h
  have := cnt_le (f := fset f i (some 0)) (n := n)
  omega

/-- the ghosts: part and depth -/
structure WI (rs : List (List Nat)) (n : Nat) (s : S) (w : List Nat) (h : Nat) (pt dep : Nat → Nat) (X : Nat → Tie → Prop) : Prop where
  rng : ∀ x, s.sides x ≠ none → x < n
  hd : ∀ x g, s.heads x = some g → g = pt x ∧ s.sides x ≠ none
  wait : ∀ x, x ∈ w → s.sides x ≠ none ∧ s.heads x = none ∧ pt x = h
  nd : w.Nodup
  rest : ∀ x, s.sides x ≠ none → s.heads x = none → x ∈ w
  root : ∀ x, s.sides x ≠ none → s.ahead x = none → pt x = x ∧ s.sides x = some false
  up : ∀ x p k, s.ahead x = some (p, k) → Adj rs k x p ∧ s.sides p ≠ none ∧ s.sides x = flip (s.sides p) ∧ pt x = pt p ∧ dep x = dep p + 1
  new : ∀ x, s.sides x = none → s.ahead x = none
  look : ∀ x t, X x t → Adj rs t.2 x t.1 → s.sides x ≠ none ∧ s.sides t.1 ≠ none ∧ pt t.1 = pt x ∧ (s.sides x = s.sides t.1 → s.bar ≠ none)
  bar : ∀ a b k, s.bar = some (a, b, k) → Adj rs k a b ∧ s.sides a ≠ none ∧ s.sides a = s.sides b
  dep : ∀ x, s.sides x ≠ none → dep x ≤ cnt s.heads n

theorem flip_ne {o : Option Bool} (h : o ≠ none) : flip o ≠ none := by
  cases o with
  | none => exact absurd rfl h
  | some b => simp [flip]
theorem flip_self {o : Option Bool} (h : o ≠ none) : o ≠ flip o := by
  cases o with
  | none => exact absurd rfl h
  | some b => cases b <;> simp [flip]

/-- one tie of the thing here is looked at -/
theorem WI.tie {rs : List (List Nat)} {n : Nat} {s : S} {w : List Nat} {h here : Nat} {pt dep : Nat → Nat} {X : Nat → Tie → Prop} {t : Tie} (G : Good n rs) (I : WI rs n s w h pt dep X)
    (hh : s.heads here = some h) (hd : dep here + 1 ≤ cnt s.heads n) (old : ∀ x u, s.heads x ≠ none → x ≠ here → Adj rs u.2 x u.1 → X x u) (ha : Adj rs t.2 here t.1) :
    ∃ pt' dep', WI rs n (tieS here (s, w) t).1 (tieS here (s, w) t).2 h pt' dep' (fun x u => X x u ∨ (x = here ∧ u = t)) ∧ (tieS here (s, w) t).1.heads = s.heads ∧ dep' here + 1 ≤ cnt s.heads n ∧
      (∀ x, s.sides x ≠ none → pt' x = pt x) := by
  obtain ⟨hp, hs⟩ := I.hd here h hh
  obtain ⟨l1, l2, l3⟩ := G.adj_lt ha
  unfold tieS
  by_cases c1 : s.sides t.1 = none
  · rw [if_pos c1]
    refine ⟨fset pt t.1 h, fset dep t.1 (dep here + 1), ?_, rfl, by rw [fset_ne l3]; exact hd, fun x hx => by rw [fset_ne]; intro e; subst e; exact hx c1⟩
    have hne : ∀ x, s.sides x ≠ none → x ≠ t.1 := fun x hx e => by subst e; exact hx c1
    have hne2 : ∀ x, fset s.sides t.1 (flip (s.sides here)) x ≠ none → x = t.1 ∨ (x ≠ t.1 ∧ s.sides x ≠ none) := fun x hx => by
      by_cases e : x = t.1
      · exact .inl e
      · rw [fset_ne e] at hx
        exact .inr ⟨e, hx⟩
    have keep : ∀ x, s.sides x ≠ none → fset s.sides t.1 (flip (s.sides here)) x ≠ none := fun x hx => by rw [fset_ne (hne x hx)]; exact hx
    constructor
    · intro x hx
      rcases hne2 x hx with e | ⟨_, e⟩
      · rw [e]; exact l2
      · exact I.rng x e
    · intro x g hg
      obtain ⟨e1, e2⟩ := I.hd x g hg
      exact ⟨by rw [fset_ne (hne x e2)]; exact e1, keep x e2⟩
    · intro x hx
      rcases List.mem_append.mp hx with hx | hx
      · obtain ⟨e1, e2, e3⟩ := I.wait x hx
        exact ⟨keep x e1, e2, by rw [fset_ne (hne x e1)]; exact e3⟩
      · have e : x = t.1 := by simpa using hx
        subst e
        refine ⟨by show fset _ _ _ _ ≠ none; rw [fset_same]; exact flip_ne hs, ?_, by rw [fset_same]⟩
        show s.heads t.1 = none
        cases q : s.heads t.1 with
        | none => rfl
        | some g => exact absurd c1 (I.hd _ _ q).2
    · refine List.nodup_append.mpr ⟨I.nd, by simp, fun a ha b hb e => ?_⟩
      have e2 : b = t.1 := by simpa using hb
      exact hne a (I.wait a ha).1 (e.trans e2)
    · intro x hx hn
      rcases hne2 x hx with e | ⟨_, e⟩
      · exact List.mem_append.mpr (.inr (by simp [e]))
      · exact List.mem_append.mpr (.inl (I.rest x e hn))
    · intro x hx hn
      rcases hne2 x hx with e | ⟨e1, e⟩
      · have hn : fset s.ahead t.1 (some (here, t.2)) x = none := hn
        rw [e, fset_same] at hn
        cases hn
      · have hn : fset s.ahead t.1 (some (here, t.2)) x = none := hn
        rw [fset_ne e1] at hn
        show fset pt t.1 h x = x ∧ fset s.sides t.1 (flip (s.sides here)) x = some false
        rw [fset_ne e1, fset_ne e1]
        exact I.root x e hn
    · intro x p k hx
      have hx : fset s.ahead t.1 (some (here, t.2)) x = some (p, k) := hx
      show Adj rs k x p ∧ fset s.sides t.1 (flip (s.sides here)) p ≠ none ∧ fset s.sides t.1 (flip (s.sides here)) x = flip (fset s.sides t.1 (flip (s.sides here)) p) ∧ fset pt t.1 h x = fset pt t.1 h p ∧ fset dep t.1 (dep here + 1) x = fset dep t.1 (dep here + 1) p + 1
      by_cases e : x = t.1
      · rw [e, fset_same] at hx
        injection hx with hx
        injection hx with h1 h2
        subst h1 h2
        rw [e]
        have nh : here ≠ t.1 := l3
        rw [fset_same, fset_same, fset_same, fset_ne nh, fset_ne nh, fset_ne nh]
        exact ⟨ha.symm, hs, rfl, hp, rfl⟩
      · rw [fset_ne e] at hx
        obtain ⟨a1, a2, a3, a4, a5⟩ := I.up x p k hx
        have np := hne p a2
        rw [fset_ne e, fset_ne e, fset_ne e, fset_ne np, fset_ne np, fset_ne np]
        exact ⟨a1, a2, a3, a4, a5⟩
    · intro x hx
      have hx : fset s.sides t.1 (flip (s.sides here)) x = none := hx
      show fset s.ahead t.1 (some (here, t.2)) x = none
      by_cases e : x = t.1
      · rw [e, fset_same] at hx
        exact absurd hx (flip_ne hs)
      · rw [fset_ne e] at hx
        rw [fset_ne e]
        exact I.new x hx
    · intro x u hx hadj
      rcases hx with hx | ⟨e1, e2⟩
      · obtain ⟨b1, b2, b3, b4⟩ := I.look x u hx hadj
        have n1 := hne x b1
        have n2 := hne u.1 b2
        show fset s.sides t.1 (flip (s.sides here)) x ≠ none ∧ fset s.sides t.1 (flip (s.sides here)) u.1 ≠ none ∧ fset pt t.1 h u.1 = fset pt t.1 h x ∧ (fset s.sides t.1 (flip (s.sides here)) x = fset s.sides t.1 (flip (s.sides here)) u.1 → s.bar ≠ none)
        rw [fset_ne n1, fset_ne n2, fset_ne n1, fset_ne n2]
        exact ⟨b1, b2, b3, b4⟩
      · subst e1 e2
        show fset s.sides u.1 (flip (s.sides x)) x ≠ none ∧ fset s.sides u.1 (flip (s.sides x)) u.1 ≠ none ∧ fset pt u.1 h u.1 = fset pt u.1 h x ∧ (fset s.sides u.1 (flip (s.sides x)) x = fset s.sides u.1 (flip (s.sides x)) u.1 → s.bar ≠ none)
        rw [fset_same, fset_ne l3, fset_same, fset_ne l3]
        exact ⟨hs, flip_ne hs, hp, fun e => absurd e (flip_self hs)⟩
    · intro a b k hb
      obtain ⟨b1, b2, b3⟩ := I.bar a b k hb
      show Adj rs k a b ∧ fset s.sides t.1 (flip (s.sides here)) a ≠ none ∧ fset s.sides t.1 (flip (s.sides here)) a = fset s.sides t.1 (flip (s.sides here)) b
      rw [fset_ne (hne a b2), fset_ne (hne b (by rw [← b3]; exact b2))]
      exact ⟨b1, b2, b3⟩
    · intro x hx
      show fset dep t.1 (dep here + 1) x ≤ cnt s.heads n
      rcases hne2 x hx with e | ⟨e1, e⟩
      · rw [e, fset_same]; exact hd
      · rw [fset_ne e1]; exact I.dep x e
  · rw [if_neg c1]
    -- the other one is of the same part
    have hpt : pt t.1 = pt here := by
      cases q : s.heads t.1 with
      | none => rw [← hp]; exact (I.wait t.1 (I.rest t.1 c1 q)).2.2
      | some g =>
        by_cases e : t.1 = here
        · rw [e]
        · exact ((I.look t.1 (here, t.2) (old t.1 (here, t.2) (by rw [q]; simp) e ha.symm) ha.symm).2.2.1).symm
    by_cases c2 : s.sides t.1 = s.sides here
    · rw [if_pos c2]
      refine ⟨pt, dep, ⟨I.rng, I.hd, I.wait, I.nd, I.rest, I.root, I.up, I.new, fun x u hx hadj => ?_, fun a b k hb => ?_, I.dep⟩, rfl, hd, fun _ _ => rfl⟩
      · rcases hx with hx | ⟨e1, e2⟩
        · obtain ⟨b1, b2, b3, _⟩ := I.look x u hx hadj
          exact ⟨b1, b2, b3, fun _ => by simp⟩
        · subst e1 e2
          exact ⟨hs, c1, hpt, fun _ => by simp⟩
      · injection hb with hb
        injection hb with e1 hb
        injection hb with e2 e3
        subst e1 e2 e3
        exact ⟨ha, hs, c2.symm⟩
    · rw [if_neg c2]
      refine ⟨pt, dep, ⟨I.rng, I.hd, I.wait, I.nd, I.rest, I.root, I.up, I.new, fun x u hx hadj => ?_, I.bar, I.dep⟩, rfl, hd, fun _ _ => rfl⟩
      rcases hx with hx | ⟨e1, e2⟩
      · exact I.look x u hx hadj
      · subst e1 e2
        exact ⟨hs, c1, hpt, fun e => absurd e.symm c2⟩

theorem WI.fold {rs : List (List Nat)} {n h here : Nat} (G : Good n rs) : ∀ (L : List Tie) {s : S} {w : List Nat} {pt dep : Nat → Nat} {X : Nat → Tie → Prop}, WI rs n s w h pt dep X → s.heads here = some h → dep here + 1 ≤ cnt s.heads n →
    (∀ x u, s.heads x ≠ none → x ≠ here → Adj rs u.2 x u.1 → X x u) → (∀ t ∈ L, Adj rs t.2 here t.1) →
    ∃ pt' dep', WI rs n (L.foldl (tieS here) (s, w)).1 (L.foldl (tieS here) (s, w)).2 h pt' dep' (fun x u => X x u ∨ (x = here ∧ u ∈ L)) ∧ (L.foldl (tieS here) (s, w)).1.heads = s.heads
  | [], s, w, pt, dep, X, I, hh, hd, old, ha => by
    refine ⟨pt, dep, ⟨I.rng, I.hd, I.wait, I.nd, I.rest, I.root, I.up, I.new, fun x u hx hadj => ?_, I.bar, I.dep⟩, rfl⟩
    rcases hx with hx | ⟨_, hx⟩
    · exact I.look x u hx hadj
    · exact absurd hx (by simp)
  | t :: L, s, w, pt, dep, X, I, hh, hd, old, ha => by
    obtain ⟨pt1, dep1, I1, e1, d1, _⟩ := I.tie G hh hd old (ha t List.mem_cons_self)
    obtain ⟨pt2, dep2, I2, e2⟩ := WI.fold G L I1 (by rw [e1]; exact hh) (by rw [e1]; exact d1) (fun x u hx hn hadj => .inl (old x u (by rw [e1] at hx; exact hx) hn hadj)) fun u hu => ha u (List.mem_cons_of_mem _ hu)
    refine ⟨pt2, dep2, ?_, by rw [List.foldl_cons]; exact e2.trans e1⟩
    rw [List.foldl_cons]
    refine ⟨I2.rng, I2.hd, I2.wait, I2.nd, I2.rest, I2.root, I2.up, I2.new, fun x u hx hadj => I2.look x u ?_ hadj, I2.bar, I2.dep⟩
    rcases hx with hx | ⟨hx, hu⟩
    · exact .inl (.inl hx)
    · rcases List.mem_cons.mp hu with e | hu
      · exact .inl (.inr ⟨hx, e⟩)
      · exact .inr ⟨hx, hu⟩

theorem split_last {w : List Nat} (h : w ≠ []) : w.dropLast ++ [w.getLastD 0] = w := by
  rcases List.eq_nil_or_concat w with e | ⟨l, a, e⟩
  · exact absurd e h
  · subst e
    simp [List.getLastD_eq_getLast?]
/-- between two turns of the while -/
def Mid (rs : List (List Nat)) (n : Nat) (s : S) (w : List Nat) (h : Nat) : Prop := ∃ pt dep, WI rs n s w h pt dep (fun x _ => s.heads x ≠ none)
/-- one that waits is taken: what the fold over its ties asks -/
theorem WI.taken {rs : List (List Nat)} {n h : Nat} {s : S} {w : List Nat} {pt dep : Nat → Nat} (I : WI rs n s w h pt dep (fun x _ => s.heads x ≠ none)) (hw : w ≠ []) :
    WI rs n (takeS h (w.getLastD 0) s) w.dropLast h pt dep (fun x _ => s.heads x ≠ none) ∧ (∀ x (u : Tie), (takeS h (w.getLastD 0) s).heads x ≠ none → x ≠ w.getLastD 0 → Adj rs u.2 x u.1 → s.heads x ≠ none) ∧
      dep (w.getLastD 0) + 1 ≤ cnt (takeS h (w.getLastD 0) s).heads n ∧ (takeS h (w.getLastD 0) s).heads (w.getLastD 0) = some h := by
  have hw' := split_last hw
  generalize w.getLastD 0 = here at *
  generalize w.dropLast = v at *
  subst hw'
  obtain ⟨w1, w2, w3⟩ := I.wait here (by simp)
  have hlt := I.rng here w1
  have hc : cnt (fset s.heads here (some h)) n = cnt s.heads n + 1 := cnt_set w2 hlt
  have nd := List.nodup_append.mp I.nd
  have nv : ∀ x, x ∈ v → x ≠ here := fun x hx e => nd.2.2 x hx here (by simp) e
  refine ⟨?_, ?_, ?_, fset_same⟩
  · refine ⟨I.rng, fun x g hg => ?_, fun x hx => ?_, nd.1, fun x hx hn => ?_, I.root, I.up, I.new, I.look, I.bar, fun x hx => ?_⟩
    · have hg : fset s.heads here (some h) x = some g := hg
      by_cases e : x = here
      · rw [e, fset_same] at hg
        injection hg with hg
        rw [e, w3]
        exact ⟨hg.symm, w1⟩
      · rw [fset_ne e] at hg
        exact I.hd x g hg
    · obtain ⟨a, b, c⟩ := I.wait x (List.mem_append.mpr (.inl hx))
      refine ⟨a, ?_, c⟩
      show fset s.heads here (some h) x = none
      rw [fset_ne (nv x hx)]
      exact b
    · have hn : fset s.heads here (some h) x = none := hn
      by_cases e : x = here
      · rw [e, fset_same] at hn
        cases hn
      · rw [fset_ne e] at hn
        rcases List.mem_append.mp (I.rest x hx hn) with q | q
        · exact q
        · exact absurd (by simpa using q) e
    · show dep x ≤ cnt (fset s.heads here (some h)) n
      rw [hc]
      exact Nat.le_succ_of_le (I.dep x hx)
  · intro x u hx hn _
    have hx : fset s.heads here (some h) x ≠ none := hx
    rw [fset_ne hn] at hx
    exact hx
  · show dep here + 1 ≤ cnt (fset s.heads here (some h)) n
    rw [hc]
    exact Nat.succ_le_succ (I.dep here w1)
theorem Mid.pop {rs : List (List Nat)} {n h : Nat} {s : S} {w : List Nat} (G : Good n rs) (M : Mid rs n s w h) (hw : w ≠ []) :
    Mid rs n (popS (ties rs) h (s, w)).1 (popS (ties rs) h (s, w)).2 h ∧ cnt (popS (ties rs) h (s, w)).1.heads n = cnt s.heads n + 1 := by
  obtain ⟨pt, dep, I⟩ := M
  have hw' := split_last hw
  show Mid rs n ((ties rs (w.getLastD 0)).foldl (tieS (w.getLastD 0)) (takeS h (w.getLastD 0) s, w.dropLast)).1 ((ties rs (w.getLastD 0)).foldl (tieS (w.getLastD 0)) (takeS h (w.getLastD 0) s, w.dropLast)).2 h ∧ cnt ((ties rs (w.getLastD 0)).foldl (tieS (w.getLastD 0)) (takeS h (w.getLastD 0) s, w.dropLast)).1.heads n = cnt s.heads n + 1
  generalize w.getLastD 0 = here at *
  generalize w.dropLast = v at *
  subst hw'
  obtain ⟨w1, w2, w3⟩ := I.wait here (by simp)
  have hlt := I.rng here w1
  have hc : cnt (fset s.heads here (some h)) n = cnt s.heads n + 1 := cnt_set w2 hlt
  have nd := List.nodup_append.mp I.nd
  have nv : ∀ x, x ∈ v → x ≠ here := fun x hx e => nd.2.2 x hx here (by simp) e
  have I1 : WI rs n (takeS h here s) v h pt dep (fun x _ => s.heads x ≠ none) := by
    refine ⟨I.rng, fun x g hg => ?_, fun x hx => ?_, nd.1, fun x hx hn => ?_, I.root, I.up, I.new, I.look, I.bar, fun x hx => ?_⟩
    · have hg : fset s.heads here (some h) x = some g := hg
      by_cases e : x = here
      · rw [e, fset_same] at hg
        injection hg with hg
        rw [e, w3]
        exact ⟨hg.symm, w1⟩
      · rw [fset_ne e] at hg
        exact I.hd x g hg
    · obtain ⟨a, b, c⟩ := I.wait x (List.mem_append.mpr (.inl hx))
      refine ⟨a, ?_, c⟩
      show fset s.heads here (some h) x = none
      rw [fset_ne (nv x hx)]
      exact b
    · have hn : fset s.heads here (some h) x = none := hn
      by_cases e : x = here
      · rw [e, fset_same] at hn
        cases hn
      · rw [fset_ne e] at hn
        rcases List.mem_append.mp (I.rest x hx hn) with q | q
        · exact q
        · exact absurd (by simpa using q) e
    · show dep x ≤ cnt (fset s.heads here (some h)) n
      rw [hc]
      exact Nat.le_succ_of_le (I.dep x hx)
  have hold : ∀ x (u : Tie), (takeS h here s).heads x ≠ none → x ≠ here → Adj rs u.2 x u.1 → s.heads x ≠ none := fun x u hx hn _ => by
    have hx : fset s.heads here (some h) x ≠ none := hx
    rw [fset_ne hn] at hx
    exact hx
  obtain ⟨pt2, dep2, I2, e2⟩ := WI.fold G (ties rs here) I1 (show fset s.heads here (some h) here = some h from fset_same) (show dep here + 1 ≤ cnt (fset s.heads here (some h)) n by rw [hc]; exact Nat.succ_le_succ (I.dep here w1)) hold
    fun t ht => mem_ties.mp ht
  refine ⟨⟨pt2, dep2, ⟨I2.rng, I2.hd, I2.wait, I2.nd, I2.rest, I2.root, I2.up, I2.new, fun x u hx hadj => I2.look x u ?_ hadj, I2.bar, I2.dep⟩⟩, ?_⟩
  · by_cases e : x = here
    · subst e
      exact .inr ⟨rfl, mem_ties.mpr hadj⟩
    · rw [e2] at hx
      exact .inl (hold x u hx e hadj)
  · rw [e2]
    exact hc
theorem Mid.stop {rs : List (List Nat)} {n h : Nat} {s : S} {w : List Nat} (M : Mid rs n s w h) (hc : n ≤ cnt s.heads n) : w = [] := by
  obtain ⟨pt, dep, I⟩ := M
  cases w with
  | nil => rfl
  | cons x r =>
    obtain ⟨w1, w2, w3⟩ := I.wait x (by simp)
    have := cnt_lt (I.rng x w1) w2
    omega
theorem Mid.run {rs : List (List Nat)} {n h : Nat} (G : Good n rs) : ∀ (m : Nat) {s : S} {w : List Nat}, Mid rs n s w h → n ≤ cnt s.heads n + m → Mid rs n (runS (ties rs) h m (s, w)) [] h
  | 0, s, w, M, hc => by
    have e := M.stop hc
    subst e
    exact M
  | m + 1, s, w, M, hc => by
    unfold runS
    by_cases e : w = []
    · subst e
      rw [if_pos rfl]
      exact M
    · rw [if_neg e]
      obtain ⟨M1, c1⟩ := M.pop G e
      exact Mid.run G m (s := (popS (ties rs) h (s, w)).1) (w := (popS (ties rs) h (s, w)).2) M1 (by omega)
/-- what was met stays met -/
theorem seen_tie {here x : Nat} {s : S} {w : List Nat} {t : Tie} (hh : s.sides here ≠ none) (hx : s.sides x ≠ none) : (tieS here (s, w) t).1.sides x ≠ none := by
  unfold tieS
  by_cases c1 : s.sides t.1 = none
  · rw [if_pos c1]
    show fset s.sides t.1 (flip (s.sides here)) x ≠ none
    by_cases e : x = t.1
    · rw [e, fset_same]; exact flip_ne hh
    · rw [fset_ne e]; exact hx
  · rw [if_neg c1]
    by_cases c2 : s.sides t.1 = s.sides here
    · rw [if_pos c2]; exact hx
    · rw [if_neg c2]; exact hx
theorem seen_fold {here x : Nat} : ∀ (L : List Tie) {s : S} {w : List Nat}, s.sides here ≠ none → s.sides x ≠ none → (L.foldl (tieS here) (s, w)).1.sides x ≠ none
  | [], _, _, _, hx => hx
  | t :: L, s, w, hh, hx => by
    rw [List.foldl_cons]
    exact seen_fold L (s := (tieS here (s, w) t).1) (w := (tieS here (s, w) t).2) (seen_tie hh hh) (seen_tie hh hx)
theorem seen_run {rs : List (List Nat)} {n h x : Nat} (G : Good n rs) : ∀ (m : Nat) {s : S} {w : List Nat}, Mid rs n s w h → s.sides x ≠ none → (runS (ties rs) h m (s, w)).sides x ≠ none
  | 0, s, w, M, hx => hx
  | m + 1, s, w, M, hx => by
    unfold runS
    by_cases e : w = []
    · rw [if_pos e]
      exact hx
    · rw [if_neg e]
      refine seen_run G m (s := (popS (ties rs) h (s, w)).1) (w := (popS (ties rs) h (s, w)).2) (M.pop G e).1 ?_
      obtain ⟨pt, dep, I⟩ := M
      have hl : w.getLastD 0 ∈ w := by
        have := split_last e
        rw [← this]
        simp
      exact seen_fold _ (s := takeS h (w.getLastD 0) s) (I.wait _ hl).1 hx
theorem Mid.start {rs : List (List Nat)} {n h g : Nat} {s : S} (M : Mid rs n s [] h) (hg : g < n) (hs : s.sides g = none) : Mid rs n (meet0 g s).1 (meet0 g s).2 g := by
  obtain ⟨pt, dep, I⟩ := M
  have hne : ∀ x, s.sides x ≠ none → x ≠ g := fun x hx e => by subst e; exact hx hs
  have hgn : s.heads g = none := by
    cases q : s.heads g with
    | none => rfl
    | some a => exact absurd hs (I.hd _ _ q).2
  have hne2 : ∀ x, fset s.sides g (some false) x ≠ none → x = g ∨ (x ≠ g ∧ s.sides x ≠ none) := fun x hx => by
    by_cases e : x = g
    · exact .inl e
    · rw [fset_ne e] at hx
      exact .inr ⟨e, hx⟩
  have keep : ∀ x, s.sides x ≠ none → fset s.sides g (some false) x ≠ none := fun x hx => by rw [fset_ne (hne x hx)]; exact hx
  refine ⟨fset pt g g, fset dep g 0, ?_⟩
  unfold meet0
  constructor
  · intro x hx
    rcases hne2 x hx with e | ⟨_, e⟩
    · rw [e]; exact hg
    · exact I.rng x e
  · intro x a ha
    obtain ⟨e1, e2⟩ := I.hd x a ha
    exact ⟨by rw [fset_ne (hne x e2)]; exact e1, keep x e2⟩
  · intro x hx
    have e : x = g := by simpa using hx
    subst e
    refine ⟨?_, hgn, by rw [fset_same]⟩
    show fset _ _ _ _ ≠ none
    rw [fset_same]
    simp
  · simp
  · intro x hx hn
    rcases hne2 x hx with e | ⟨_, e⟩
    · simp [e]
    · exact absurd (I.rest x e hn) (by simp)
  · intro x hx hn
    show fset pt g g x = x ∧ fset s.sides g (some false) x = some false
    rcases hne2 x hx with e | ⟨e1, e⟩
    · rw [e, fset_same, fset_same]
      exact ⟨rfl, rfl⟩
    · rw [fset_ne e1, fset_ne e1]
      exact I.root x e hn
  · intro x p k hx
    obtain ⟨a1, a2, a3, a4, a5⟩ := I.up x p k hx
    have nx : x ≠ g := fun e => by
      have := I.new g hs
      rw [← e] at this
      rw [this] at hx
      cases hx
    have np := hne p a2
    show Adj rs k x p ∧ fset s.sides g (some false) p ≠ none ∧ fset s.sides g (some false) x = flip (fset s.sides g (some false) p) ∧ fset pt g g x = fset pt g g p ∧ fset dep g 0 x = fset dep g 0 p + 1
    rw [fset_ne nx, fset_ne nx, fset_ne nx, fset_ne np, fset_ne np, fset_ne np]
    exact ⟨a1, a2, a3, a4, a5⟩
  · intro x hx
    have hx : fset s.sides g (some false) x = none := hx
    by_cases e : x = g
    · rw [e, fset_same] at hx
      cases hx
    · rw [fset_ne e] at hx
      exact I.new x hx
  · intro x u hx hadj
    obtain ⟨b1, b2, b3, b4⟩ := I.look x u hx hadj
    show fset s.sides g (some false) x ≠ none ∧ fset s.sides g (some false) u.1 ≠ none ∧ fset pt g g u.1 = fset pt g g x ∧ (fset s.sides g (some false) x = fset s.sides g (some false) u.1 → s.bar ≠ none)
    rw [fset_ne (hne x b1), fset_ne (hne _ b2), fset_ne (hne x b1), fset_ne (hne _ b2)]
    exact ⟨b1, b2, b3, b4⟩
  · intro a b k hb
    obtain ⟨b1, b2, b3⟩ := I.bar a b k hb
    show Adj rs k a b ∧ fset s.sides g (some false) a ≠ none ∧ fset s.sides g (some false) a = fset s.sides g (some false) b
    rw [fset_ne (hne a b2), fset_ne (hne b (by rw [← b3]; exact b2))]
    exact ⟨b1, b2, b3⟩
  · intro x hx
    show fset dep g 0 x ≤ cnt s.heads n
    rcases hne2 x hx with e | ⟨e1, e⟩
    · rw [e, fset_same]; exact Nat.zero_le _
    · rw [fset_ne e1]; exact I.dep x e
theorem Mid.any {rs : List (List Nat)} {n h g : Nat} {s : S} (M : Mid rs n s [] h) : Mid rs n s [] g := by
  obtain ⟨pt, dep, I⟩ := M
  exact ⟨pt, dep, ⟨I.rng, I.hd, fun x hx => absurd hx (by simp), I.nd, I.rest, I.root, I.up, I.new, I.look, I.bar, I.dep⟩⟩
theorem Mid.init {rs : List (List Nat)} {n : Nat} (G : Good n rs) : ∀ (i : Nat), i ≤ n → Mid rs n (initK (ties rs) n i) [] 0 ∧ ∀ x, x < i → (initK (ties rs) n i).sides x ≠ none
  | 0, _ => by
    refine ⟨⟨fun x => x, fun _ => 0, ?_⟩, fun x hx => by omega⟩
    unfold initK S0
    refine ⟨fun x hx => absurd rfl hx, fun x g hg => (by cases hg), fun x hx => absurd hx (by simp), by simp, fun x hx => absurd rfl hx, fun x hx => absurd rfl hx, fun x p k hx => (by cases hx), fun _ _ => rfl, fun x t hx => absurd rfl hx, fun a b k hb => (by cases hb), fun x hx => absurd rfl hx⟩
  | i + 1, hi => by
    obtain ⟨M, sn⟩ := Mid.init G i (by omega)
    unfold initK
    by_cases c : (initK (ties rs) n i).sides i = none
    · rw [if_pos c]
      have M1 := M.start (g := i) (by omega) c
      refine ⟨(Mid.run G n M1 (by omega)).any, fun x hx => ?_⟩
      refine seen_run G n M1 ?_
      show fset _ _ _ _ ≠ none
      by_cases e : x = i
      · rw [e, fset_same]
        simp
      · rw [fset_ne e]
        exact sn x (by omega)
    · rw [if_neg c]
      refine ⟨M, fun x hx => ?_⟩
      by_cases e : x = i
      · rw [e]; exact c
      · exact sn x (by omega)

/-- what a finished walk keeps -/
structure Fin (n : Nat) (rs : List (List Nat)) (s : S) (dep : Nat → Nat) : Prop where
  sd : ∀ x, x < n → s.sides x ≠ none
  hd : ∀ x, x < n → ∃ g, g < n ∧ s.heads x = some g ∧ s.heads g = some g ∧ s.sides g = some false
  root : ∀ x, x < n → s.ahead x = none → s.heads x = some x ∧ s.sides x = some false
  up : ∀ x p k, s.ahead x = some (p, k) → Adj rs k x p ∧ s.sides x = flip (s.sides p) ∧ s.heads x = s.heads p ∧ dep x = dep p + 1
  adj : ∀ k x y, Adj rs k x y → s.heads x = s.heads y
  even : s.bar = none → ∀ k x y, Adj rs k x y → s.sides x ≠ s.sides y
  bar : ∀ a b k, s.bar = some (a, b, k) → Adj rs k a b ∧ s.sides a = s.sides b
  dep : ∀ x, x < n → dep x ≤ n
theorem walk_fin {n : Nat} {rs : List (List Nat)} (G : Good n rs) : ∃ dep, Fin n rs (walk n rs) dep := by
  obtain ⟨⟨pt, dep, I⟩, sn⟩ := Mid.init G n (Nat.le_refl _)
  have hh : ∀ x, x < n → (initK (ties rs) n n).heads x = some (pt x) := fun x hx => by
    cases q : (initK (ties rs) n n).heads x with
    | none => exact absurd (I.rest x (sn x hx) q) (by simp)
    | some g => rw [(I.hd x g q).1]
  have top : ∀ (d x : Nat), x < n → dep x = d → ∃ g, g < n ∧ pt x = g ∧ pt g = g ∧ (initK (ties rs) n n).sides g = some false := by
    intro d
    induction d with
    | zero =>
      intro x hx e
      cases q : (initK (ties rs) n n).ahead x with
      | none =>
        obtain ⟨a, b⟩ := I.root x (sn x hx) q
        exact ⟨x, hx, a, a, b⟩
      | some pk =>
        obtain ⟨p, k⟩ := pk
        have := (I.up x p k q).2.2.2.2
        omega
    | succ d ih =>
      intro x hx e
      cases q : (initK (ties rs) n n).ahead x with
      | none =>
        obtain ⟨a, b⟩ := I.root x (sn x hx) q
        exact ⟨x, hx, a, a, b⟩
      | some pk =>
        obtain ⟨p, k⟩ := pk
        obtain ⟨u1, u2, u3, u4, u5⟩ := I.up x p k q
        obtain ⟨g, g1, g2, g3, g4⟩ := ih p (G.adj_lt u1).2.1 (by omega)
        exact ⟨g, g1, u4.trans g2, g3, g4⟩
  have hadj : ∀ k x y, Adj rs k x y → pt y = pt x := fun k x y ha => by
    obtain ⟨l1, l2, _⟩ := G.adj_lt ha
    exact (I.look x (y, k) (by rw [hh x l1]; simp) ha).2.2.1
  refine ⟨dep, sn, fun x hx => ?_, fun x hx ha => ?_, fun x p k ha => ?_, fun k x y ha => ?_, fun hb k x y ha e => ?_, fun a b k hb => ?_, fun x hx => ?_⟩
  · obtain ⟨g, g1, g2, g3, g4⟩ := top _ x hx rfl
    exact ⟨g, g1, by rw [show (walk n rs).heads x = _ from hh x hx, g2], by rw [show (walk n rs).heads g = _ from hh g g1, g3], g4⟩
  · obtain ⟨a, b⟩ := I.root x (sn x hx) ha
    exact ⟨by rw [show (walk n rs).heads x = _ from hh x hx, a], b⟩
  · obtain ⟨u1, u2, u3, u4, u5⟩ := I.up x p k ha
    obtain ⟨l1, l2, _⟩ := G.adj_lt u1
    exact ⟨u1, u3, by rw [show (walk n rs).heads x = _ from hh x l1, show (walk n rs).heads p = _ from hh p l2, u4], u5⟩
  · obtain ⟨l1, l2, _⟩ := G.adj_lt ha
    rw [show (walk n rs).heads x = _ from hh x l1, show (walk n rs).heads y = _ from hh y l2, hadj k x y ha]
  · obtain ⟨l1, l2, _⟩ := G.adj_lt ha
    exact (I.look x (y, k) (by rw [hh x l1]; simp) ha).2.2.2 e hb
  · obtain ⟨b1, _, b3⟩ := I.bar a b k hb
    exact ⟨b1, b3⟩
  · exact Nat.le_trans (I.dep x (sn x hx)) cnt_le
end Deal

/-! Chains, rings, two rows. Plain Lean. -/
namespace Deal

section
variable {R : Nat → Nat → Nat → Prop}
/-- things and places: each thing and the next one are in R by the place -/
def Ch (R : Nat → Nat → Nat → Prop) : List Nat → List Nat → Prop
  | [_], [] => True
  | x :: y :: ts, k :: ps => R k x y ∧ Ch R (y :: ts) ps
  | _, _ => False
theorem ch_cons {x k : Nat} {ts ps : List Nat} : Ch R (x :: ts) (k :: ps) ↔ ∃ y, ts.head? = some y ∧ R k x y ∧ Ch R ts ps := by
  cases ts with
  | nil => simp [Ch]
  | cons y ts => simp [Ch]
theorem ch_nil {ts : List Nat} : Ch R ts [] ↔ ∃ x, ts = [x] := by
  match ts with
  | [] => simp [Ch]
  | [x] => simp [Ch]
  | x :: y :: ts => simp [Ch]
theorem ch_no {ps : List Nat} : ¬ Ch R [] ps := by
  cases ps <;> simp [Ch]
theorem Ch.len : ∀ {ps ts : List Nat}, Ch R ts ps → ts.length = ps.length + 1
  | [], ts, h => by
    obtain ⟨x, rfl⟩ := ch_nil.mp h
    rfl
  | k :: ps, [], h => absurd h ch_no
  | k :: ps, x :: ts, h => by
    obtain ⟨y, _, _, h2⟩ := ch_cons.mp h
    have := h2.len
    simp only [List.length_cons]
    omega
theorem Ch.mono {R' : Nat → Nat → Nat → Prop} (hR : ∀ k x y, R k x y → R' k x y) : ∀ {ps ts : List Nat}, Ch R ts ps → Ch R' ts ps
  | [], ts, h => ch_nil.mpr (ch_nil.mp h)
  | k :: ps, [], h => absurd h ch_no
  | k :: ps, x :: ts, h => by
    obtain ⟨y, h1, h2, h3⟩ := ch_cons.mp h
    exact ch_cons.mpr ⟨y, h1, hR _ _ _ h2, h3.mono hR⟩
theorem head_append {a : List Nat} {z : Nat} {b : List Nat} : (a ++ z :: b).head? = (a ++ [z]).head? := by
  cases a <;> simp
theorem last_append {a : List Nat} {z : Nat} {b : List Nat} : (a ++ z :: b).getLast? = (z :: b).getLast? := by
  rw [List.getLast?_append]
  cases h : (z :: b).getLast? with
  | none => simp at h
  | some w => rfl
theorem Ch.join {z : Nat} {b qs : List Nat} (h2 : Ch R (z :: b) qs) : ∀ {ps a : List Nat}, Ch R (a ++ [z]) ps → Ch R (a ++ z :: b) (ps ++ qs)
  | [], a, h => by
    obtain ⟨x, e⟩ := ch_nil.mp h
    cases a with
    | nil => exact h2
    | cons y a =>
      injection e with _ e
      exact absurd e (by simp)
  | k :: ps, [], h => by
    obtain ⟨y, e, _⟩ := ch_cons.mp (show Ch R (z :: []) (k :: ps) from h)
    exact absurd e (by simp)
  | k :: ps, x :: a, h => by
    obtain ⟨y, e, r, h3⟩ := ch_cons.mp (show Ch R (x :: (a ++ [z])) (k :: ps) from h)
    exact ch_cons.mpr ⟨y, head_append.trans e, r, h2.join h3⟩
theorem Ch.cut {qs : List Nat} : ∀ {ps ts : List Nat}, Ch R ts (ps ++ qs) → ∃ a z b, ts = a ++ z :: b ∧ Ch R (a ++ [z]) ps ∧ Ch R (z :: b) qs
  | [], ts, h => by
    match ts, h with
    | [], h => exact absurd h ch_no
    | x :: ts, h => exact ⟨[], x, ts, rfl, ch_nil.mpr ⟨x, rfl⟩, h⟩
  | k :: ps, [], h => absurd h ch_no
  | k :: ps, x :: ts, h => by
    obtain ⟨y, e, r, h3⟩ := ch_cons.mp (show Ch R (x :: ts) (k :: (ps ++ qs)) from h)
    obtain ⟨a, z, b, e2, c1, c2⟩ := h3.cut
    refine ⟨x :: a, z, b, by rw [e2]; rfl, ch_cons.mpr ⟨y, ?_, r, c1⟩, c2⟩
    rw [← e, e2, head_append]
    rfl
theorem Ch.rev (sym : ∀ k x y, R k x y → R k y x) : ∀ {ps ts : List Nat}, Ch R ts ps → Ch R ts.reverse ps.reverse
  | [], ts, h => by
    obtain ⟨x, rfl⟩ := ch_nil.mp h
    exact h
  | k :: ps, [], h => absurd h ch_no
  | k :: ps, [x], h => by
    obtain ⟨y, e, _⟩ := ch_cons.mp h
    exact absurd e (by simp)
  | k :: ps, x :: y :: ts, h => by
    obtain ⟨y', e, r, h3⟩ := ch_cons.mp h
    have ey : y = y' := by simpa using e
    subst ey
    have h4 := h3.rev sym
    rw [List.reverse_cons, List.reverse_cons, List.reverse_cons, List.append_assoc]
    rw [List.reverse_cons] at h4
    exact Ch.join (b := [x]) (qs := [k]) (ch_cons.mpr ⟨x, rfl, sym _ _ _ r, ch_nil.mpr ⟨x, rfl⟩⟩) h4
/-- without its last one -/
theorem Ch.drop {ts ps : List Nat} (h : Ch R ts ps) (hl : 1 < ts.length) : Ch R ts.dropLast ps.dropLast ∧ ts.dropLast.getLast? = ts[ts.length - 2]? := by
  have l := h.len
  have hp : ps ≠ [] := fun e => by subst e; simp at l; omega
  obtain ⟨qs, k, rfl⟩ : ∃ qs k, ps = qs ++ [k] := by
    rcases List.eq_nil_or_concat ps with e | ⟨l, a, e⟩
    · exact absurd e hp
    · exact ⟨l, a, by simpa using e⟩
  obtain ⟨a, z, b, rfl, c1, c2⟩ := h.cut
  obtain ⟨y, e, r, c3⟩ := ch_cons.mp c2
  obtain ⟨x, rfl⟩ := ch_nil.mp c3
  have e2 : a ++ [z, x] = (a ++ [z]) ++ [x] := by simp
  rw [e2, List.dropLast_concat, List.dropLast_concat]
  refine ⟨c1, ?_⟩
  simp
end

/-- sides turn from pair to pair: the ends, by the count of pairs -/
theorem flip_flip (o : Option Bool) : flip (flip o) = o := by
  cases o with
  | none => rfl
  | some b => simp [flip]
def nflip (m : Nat) (o : Option Bool) : Option Bool := if m % 2 = 0 then o else flip o
theorem nflip_succ (m : Nat) (o : Option Bool) : nflip (m + 1) o = flip (nflip m o) := by
  unfold nflip
  by_cases h : m % 2 = 0
  · rw [if_pos h, if_neg (by omega)]
  · rw [if_neg h, if_pos (by omega), flip_flip]
theorem ch_par {R : Nat → Nat → Nat → Prop} {d : Nat → Option Bool} (hR : ∀ k x y, R k x y → d x = flip (d y)) : ∀ {ps ts : List Nat} {x y : Nat}, Ch R ts ps → ts.head? = some x → ts.getLast? = some y → d x = nflip ps.length (d y)
  | [], ts, x, y, h, hx, hy => by
    obtain ⟨z, rfl⟩ := ch_nil.mp h
    have e1 : z = x := by simpa using hx
    have e2 : z = y := by simpa using hy
    subst e1 e2
    rfl
  | k :: ps, [], x, y, h, hx, hy => absurd h ch_no
  | k :: ps, z :: ts, x, y, h, hx, hy => by
    have e1 : z = x := by simpa using hx
    subst e1
    obtain ⟨u, e, r, h3⟩ := ch_cons.mp h
    have hy2 : ts.getLast? = some y := by
      cases ts with
      | nil => simp at e
      | cons a ts => simpa [List.getLast?_cons_cons] using hy
    rw [hR _ _ _ r, ch_par hR h3 e hy2, List.length_cons, nflip_succ]

/-! ### the way up -/
def upT (s : S) : Nat → Nat → List Nat
  | 0, x => [x]
  | m + 1, x => match s.ahead x with
    | none => [x]
    | some (p, _) => x :: upT s m p
def upP (s : S) : Nat → Nat → List Nat
  | 0, _ => []
  | m + 1, x => match s.ahead x with
    | none => []
    | some (p, k) => k :: upP s m p
theorem upT_head (s : S) (m x : Nat) : (upT s m x).head? = some x := by
  cases m with
  | zero => rfl
  | succ m =>
    unfold upT
    cases s.ahead x with
    | none => rfl
    | some pk => rfl
/-- a pair whose sides turn -/
def Adf (rs : List (List Nat)) (s : S) (k x y : Nat) : Prop := Adj rs k x y ∧ s.sides x = flip (s.sides y)
theorem Adf.symm {rs : List (List Nat)} {s : S} : ∀ k x y, Adf rs s k x y → Adf rs s k y x := fun k x y h => ⟨h.1.symm, by rw [h.2, flip_flip]⟩
theorem Fin.way {n : Nat} {rs : List (List Nat)} {s : S} {dep : Nat → Nat} (G : Good n rs) (F : Fin n rs s dep) : ∀ (m x : Nat), x < n → dep x ≤ m → ∃ r, Ch (Adf rs s) (upT s m x) (upP s m x) ∧ (upT s m x).getLast? = some r ∧ r < n ∧ s.heads x = some r
  | 0, x, hx, hd => by
    cases q : s.ahead x with
    | none => exact ⟨x, by simp [upT, upP, Ch], rfl, hx, (F.root x hx q).1⟩
    | some pk =>
      have := (F.up x pk.1 pk.2 q).2.2.2
      omega
  | m + 1, x, hx, hd => by
    unfold upT upP
    cases q : s.ahead x with
    | none => exact ⟨x, by simp [Ch], rfl, hx, (F.root x hx q).1⟩
    | some pk =>
      obtain ⟨p, k⟩ := pk
      obtain ⟨u1, u2, u3, u4⟩ := F.up x p k q
      obtain ⟨r, h1, h2, h3, h4⟩ := F.way G m p (G.adj_lt u1).2.1 (by omega)
      refine ⟨r, ch_cons.mpr ⟨p, upT_head s m p, ⟨u1, u2⟩, h1⟩, ?_, h3, u3.trans h4⟩
      show (x :: upT s m p).getLast? = some r
      have e := upT_head s m p
      revert h2 e
      generalize upT s m p = l
      intro h2 e
      cases l with
      | nil => simp at e
      | cons a l => rw [List.getLast?_cons_cons]; exact h2

/-! ### the common end -/
abbrev Q4 := (List Nat × List Nat) × (List Nat × List Nat)
def more (q : Q4) : Prop := 1 < q.1.1.length ∧ 1 < q.2.1.length ∧ q.1.1.getD (q.1.1.length - 2) 0 = q.2.1.getD (q.2.1.length - 2) 0
instance (q : Q4) : Decidable (more q) := by unfold more; exact inferInstance
def cutQ (q : Q4) : Q4 := ((q.1.1.dropLast, q.1.2.dropLast), (q.2.1.dropLast, q.2.2.dropLast))
def mrg : Nat → Q4 → Q4
  | 0, q => q
  | m + 1, q => if more q then mrg m (cutQ q) else q
structure Two (R : Nat → Nat → Nat → Prop) (x y : Nat) (q : Q4) : Prop where
  c1 : Ch R q.1.1 q.1.2
  c2 : Ch R q.2.1 q.2.2
  h1 : q.1.1.head? = some x
  h2 : q.2.1.head? = some y
  l : q.1.1.getLast? = q.2.1.getLast?
theorem head_drop {l : List Nat} {x : Nat} (h : l.head? = some x) (hl : 1 < l.length) : l.dropLast.head? = some x := by
  match l, h, hl with
  | a :: b :: l, h, _ => simpa using h
theorem Two.cut {R : Nat → Nat → Nat → Prop} {x y : Nat} {q : Q4} (T : Two R x y q) (h : more q) : Two R x y (cutQ q) := by
  obtain ⟨a, b, c⟩ := h
  obtain ⟨d1, e1⟩ := T.c1.drop a
  obtain ⟨d2, e2⟩ := T.c2.drop b
  refine ⟨d1, d2, head_drop T.h1 a, head_drop T.h2 b, ?_⟩
  show q.1.1.dropLast.getLast? = q.2.1.dropLast.getLast?
  rw [e1, e2]
  have g1 : q.1.1[q.1.1.length - 2]? = some (q.1.1.getD (q.1.1.length - 2) 0) := by
    rw [List.getD_eq_getElem?_getD, List.getElem?_eq_getElem (by omega)]
    rfl
  have g2 : q.2.1[q.2.1.length - 2]? = some (q.2.1.getD (q.2.1.length - 2) 0) := by
    rw [List.getD_eq_getElem?_getD, List.getElem?_eq_getElem (by omega)]
    rfl
  rw [g1, g2, c]
theorem Two.mrg {R : Nat → Nat → Nat → Prop} {x y : Nat} : ∀ (m : Nat) {q : Q4}, Two R x y q → Two R x y (mrg m q)
  | 0, q, T => T
  | m + 1, q, T => by
    unfold Deal.mrg
    by_cases h : more q
    · rw [if_pos h]
      exact (T.cut h).mrg m
    · rw [if_neg h]
      exact T
theorem Two.out {R : Nat → Nat → Nat → Prop} (sym : ∀ k x y, R k x y → R k y x) {x y : Nat} {q : Q4} (T : Two R x y q) : Ch R (q.1.1 ++ q.2.1.dropLast.reverse) (q.1.2 ++ q.2.2.reverse) ∧ (q.1.1 ++ q.2.1.dropLast.reverse).head? = some x ∧ (q.1.1 ++ q.2.1.dropLast.reverse).getLast? = some y := by
  obtain ⟨⟨ts, ps⟩, us, qs⟩ := q
  obtain ⟨c1, c2, h1, h2, l⟩ := T
  dsimp only at *
  obtain ⟨a, z, rfl⟩ : ∃ a z, ts = a ++ [z] := by
    rcases List.eq_nil_or_concat ts with e | ⟨l, a, e⟩
    · subst e; simp at h1
    · exact ⟨l, a, by simpa using e⟩
  obtain ⟨b, w, rfl⟩ : ∃ b w, us = b ++ [w] := by
    rcases List.eq_nil_or_concat us with e | ⟨l, a, e⟩
    · subst e; simp at h2
    · exact ⟨l, a, by simpa using e⟩
  have e : z = w := by simpa using l
  subst e
  rw [List.dropLast_concat, List.append_assoc]
  have r := c2.rev sym
  rw [List.reverse_append] at r
  have r : Ch R (z :: b.reverse) qs.reverse := r
  refine ⟨Ch.join r c1, ?_, ?_⟩
  · show (a ++ z :: b.reverse).head? = some x
    rw [head_append]
    exact h1
  · show (a ++ z :: b.reverse).getLast? = some y
    rw [last_append]
    have e1 : z :: b.reverse = (b ++ [z]).reverse := by simp
    rw [e1, List.getLast?_reverse]
    exact h2
/-- the mirror of chain -/
def chT (s : S) (n x y : Nat) : Q4 := mrg n ((upT s n x, upP s n x), (upT s n y, upP s n y))
def chain (s : S) (n x y : Nat) : List Nat × List Nat := ((chT s n x y).1.1 ++ (chT s n x y).2.1.dropLast.reverse, (chT s n x y).1.2 ++ (chT s n x y).2.2.reverse)
theorem Fin.chain {n : Nat} {rs : List (List Nat)} {s : S} {dep : Nat → Nat} (G : Good n rs) (F : Fin n rs s dep) {x y : Nat} (hx : x < n) (hy : y < n) (he : s.heads x = s.heads y) :
    Ch (Adf rs s) (chain s n x y).1 (chain s n x y).2 ∧ (chain s n x y).1.head? = some x ∧ (chain s n x y).1.getLast? = some y := by
  obtain ⟨r, a1, a2, a3, a4⟩ := F.way G n x hx (F.dep x hx)
  obtain ⟨r', b1, b2, b3, b4⟩ := F.way G n y hy (F.dep y hy)
  have e : r = r' := by
    rw [a4, b4] at he
    exact Option.some.inj he
  subst e
  have T : Two (Adf rs s) x y ((upT s n x, upP s n x), (upT s n y, upP s n y)) := ⟨a1, b1, upT_head s n x, upT_head s n y, by rw [a2, b2]⟩
  exact (T.mrg n).out Adf.symm
/-- the mirror of ring -/
def ring (s : S) (n : Nat) (b : Nat × Nat × Nat) : List Nat × List Nat := ((chain s n b.1 b.2.1).1 ++ [b.1], (chain s n b.1 b.2.1).2 ++ [b.2.2])
/-- what a ring is -/
structure RingOf (rs : List (List Nat)) (ts ps : List Nat) : Prop where
  ch : Ch (Adj rs) ts ps
  cl : ts.head? = ts.getLast?
  odd : ps.length % 2 = 1
theorem Fin.ring {n : Nat} {rs : List (List Nat)} {s : S} {dep : Nat → Nat} (G : Good n rs) (F : Fin n rs s dep) {b : Nat × Nat × Nat} (hb : s.bar = some b) : RingOf rs (ring s n b).1 (ring s n b).2 := by
  obtain ⟨x, y, k⟩ := b
  obtain ⟨a1, a2⟩ := F.bar x y k hb
  obtain ⟨l1, l2, l3⟩ := G.adj_lt a1
  obtain ⟨c, h, l⟩ := F.chain G l1 l2 (F.adj k x y a1)
  have par := ch_par (d := s.sides) (fun _ _ _ r => r.2) c h l
  have c' : Ch (Adj rs) (Deal.chain s n x y).1 (Deal.chain s n x y).2 := c.mono fun _ _ _ r => r.1
  unfold Deal.ring
  dsimp only
  revert c' h l par
  generalize (Deal.chain s n x y).1 = ts
  generalize (Deal.chain s n x y).2 = ps
  intro h l par c'
  obtain ⟨a, z, rfl⟩ : ∃ a z, ts = a ++ [z] := by
    rcases List.eq_nil_or_concat ts with e | ⟨l, a, e⟩
    · subst e; simp at h
    · exact ⟨l, a, by simpa using e⟩
  have ez : z = y := by simpa using l
  subst ez
  refine ⟨?_, ?_, ?_⟩
  · rw [List.append_assoc]
    exact Ch.join (b := [x]) (qs := [k]) (ch_cons.mpr ⟨x, rfl, a1.symm, ch_nil.mpr ⟨x, rfl⟩⟩) c'
  · rw [List.append_assoc, show [z] ++ [x] = z :: [x] from rfl, head_append, h]
    simp
  · rw [List.length_append, List.length_cons, List.length_nil]
    by_cases e : ps.length % 2 = 0
    · omega
    · exfalso
      unfold nflip at par
      rw [if_neg e, ← a2] at par
      exact flip_self (F.sd x l1) par
/-- a ring bars every even dealing -/
theorem RingOf.bars {rs : List (List Nat)} {ts ps : List Nat} (h : RingOf rs ts ps) {d : Nat → Option Bool} (hd : ∀ x, d x ≠ none) (he : ∀ k x y, Adj rs k x y → d x ≠ d y) : False := by
  have key : ∀ k x y, Adj rs k x y → d x = flip (d y) := fun k x y ha => by
    have h1 := he k x y ha
    have hx := hd x
    have hy := hd y
    cases e1 : d x with
    | none => exact absurd e1 hx
    | some a =>
      cases e2 : d y with
      | none => exact absurd e2 hy
      | some b =>
        rw [e1, e2] at h1
        cases a <;> cases b <;> simp_all [flip]
  obtain ⟨c, cl, od⟩ := h
  cases ts with
  | nil => exact absurd c ch_no
  | cons x ts =>
    have hl : (x :: ts).getLast? = some x := cl.symm
    have p := ch_par key c rfl hl
    unfold nflip at p
    rw [if_neg (by omega)] at p
    exact flip_self (hd x) p

/-! ### two rows -/
theorem Good.partner {n : Nat} {rs : List (List Nat)} (G : Good n rs) {k x y z : Nat} (h1 : Adj rs k x y) (h2 : Adj rs k x z) : y = z := by
  obtain ⟨hk, j, hj, h1⟩ := h1
  obtain ⟨_, i, hi, h2⟩ := h2
  have m := Good.at_mem hk
  have l := G.len m
  rcases h1 with ⟨a1, a2⟩ | ⟨a1, a2⟩ <;> rcases h2 with ⟨b1, b2⟩ | ⟨b1, b2⟩
  · have e := G.inj m (i := 2 * j) (j := 2 * i) (by omega) (by omega) (a1.trans b1.symm)
    have e : j = i := by omega
    subst e
    exact a2.symm.trans b2
  · have e := G.inj m (i := 2 * j) (j := 2 * i + 1) (by omega) (by omega) (a1.trans b2.symm)
    omega
  · have e := G.inj m (i := 2 * j + 1) (j := 2 * i) (by omega) (by omega) (a2.trans b1.symm)
    omega
  · have e := G.inj m (i := 2 * j + 1) (j := 2 * i + 1) (by omega) (by omega) (a2.trans b2.symm)
    have e : j = i := by omega
    subst e
    exact a1.symm.trans b1
theorem ch_mem_lt {n : Nat} {rs : List (List Nat)} (G : Good n rs) : ∀ {ps ts : List Nat}, Ch (Adj rs) ts ps → ∀ k ∈ ps, k < rs.length
  | [], _, _, k, hk => absurd hk (by simp)
  | p :: ps, [], h, _, _ => absurd h ch_no
  | p :: ps, x :: ts, h, k, hk => by
    obtain ⟨y, _, r, h3⟩ := ch_cons.mp h
    rcases List.mem_cons.mp hk with e | hk
    · rw [e]; exact r.1
    · exact ch_mem_lt G h3 k hk
/-- two alike side by side, or one and the other by turns -/
theorem alike_or : ∀ (ps : List Nat), (∀ k ∈ ps, k < 2) → (∃ a k b, ps = a ++ k :: k :: b) ∨ ∀ i k, ps[i]? = some k → ps[0]? = some ((k + i) % 2)
  | [], _ => .inr fun i k h => by simp at h
  | [p], hp => .inr fun i k h => by
    cases i with
    | zero =>
      have e : p = k := by simpa using h
      subst e
      have := hp p (by simp)
      show some p = some ((p + 0) % 2)
      congr 1
      omega
    | succ i => simp at h
  | p :: q :: ps, hp => by
    have h1 := hp p (by simp)
    have h2 := hp q (by simp)
    by_cases e : p = q
    · exact .inl ⟨[], p, ps, by rw [e]; rfl⟩
    · rcases alike_or (q :: ps) (fun k hk => hp k (List.mem_cons_of_mem _ hk)) with ⟨a, k, b, e2⟩ | h
      · exact .inl ⟨p :: a, k, b, by rw [e2]; rfl⟩
      · refine .inr fun i k hk => ?_
        cases i with
        | zero =>
          have e : p = k := by simpa using hk
          subst e
          show some p = some ((p + 0) % 2)
          congr 1
          omega
        | succ i =>
          have := h i k (by simpa using hk)
          have e3 : q = (k + i) % 2 := by simpa using this
          show some p = some ((k + (i + 1)) % 2)
          congr 1
          omega
theorem two_rows {n : Nat} {rs : List (List Nat)} (G : Good n rs) (h2 : rs.length ≤ 2) : ∀ (m : Nat) {ts ps : List Nat}, Ch (Adj rs) ts ps → ts.head? = ts.getLast? → ps.length = 2 * m + 1 → False
  | 0, ts, ps, c, cl, hl => by
    match ps, hl with
    | [k], _ =>
      match ts, c with
      | [], c => exact ch_no c
      | x :: ts, c =>
        obtain ⟨y, e, r, h3⟩ := ch_cons.mp c
        obtain ⟨z, rfl⟩ := ch_nil.mp h3
        have e1 : z = y := by simpa using e
        have e2 : x = z := by simpa using cl
        exact (G.adj_lt r).2.2 (e2.trans e1)
  | m + 1, ts, ps, c, cl, hl => by
    rcases alike_or ps (fun k hk => Nat.lt_of_lt_of_le (ch_mem_lt G c k hk) h2) with ⟨a, k, b, rfl⟩ | alt
    · obtain ⟨u, z, v, rfl, c1, c2⟩ := c.cut
      obtain ⟨y, e, r, c3⟩ := ch_cons.mp c2
      match v, e, c3 with
      | [], e, _ => simp at e
      | y' :: v, e, c3 =>
        have ey : y' = y := by simpa using e
        subst ey
        obtain ⟨w, e2, r2, c4⟩ := ch_cons.mp c3
        have ew : z = w := G.partner r.symm r2
        subst ew
        match v, e2, c4 with
        | [], e2, _ => simp at e2
        | w' :: v, e2, c4 =>
          have ew : w' = z := by simpa using e2
          subst ew
          refine two_rows G h2 m (ts := u ++ w' :: v) (ps := a ++ b) (Ch.join c4 c1) ?_ ?_
          · rw [head_append, last_append]
            rw [head_append, last_append] at cl
            rw [cl]
            simp [List.getLast?_cons_cons]
          · simp only [List.length_append, List.length_cons] at hl ⊢
            omega
    · -- the first and the last place are alike
      match ps, hl with
      | k :: ps, hl =>
        obtain ⟨qs, l, rfl⟩ : ∃ qs l, ps = qs ++ [l] := by
          rcases List.eq_nil_or_concat ps with e | ⟨q, a, e⟩
          · subst e; simp at hl
          · exact ⟨q, a, by simpa using e⟩
        have hq : qs.length = 2 * m + 1 := by simp at hl; omega
        have e0 := alt (qs.length + 1) l (by simp)
        have hk := ch_mem_lt G c k (by simp)
        have hl2 := ch_mem_lt G c l (by simp)
        have ek : k = l := by
          have : k = (l + (qs.length + 1)) % 2 := by simpa using e0
          omega
        subst ek
        match ts, c, cl with
        | [], c, _ => exact absurd c ch_no
        | x :: ts, c, cl =>
          obtain ⟨y, e, r, c3⟩ := ch_cons.mp c
          obtain ⟨u, z, v, rfl, c4, c5⟩ := c3.cut
          obtain ⟨w, e6, r6, c6⟩ := ch_cons.mp c5
          obtain ⟨w', rfl⟩ := ch_nil.mp c6
          have e7 : w' = w := by simpa using e6
          subst e7
          have e8 : x = w' := by
            have : (x :: (u ++ [z, w'])).getLast? = some w' := by
              rw [show x :: (u ++ [z, w']) = (x :: u ++ [z]) ++ [w'] by simp]
              exact List.getLast?_concat
            rw [this] at cl
            simpa using cl
          subst e8
          have ez : y = z := G.partner r r6.symm
          subst ez
          refine two_rows G h2 m (ts := u ++ [y]) (ps := qs) c4 ?_ hq
          rw [head_append] at e
          rw [e]
          simp
theorem Fin.dealt {n : Nat} {rs : List (List Nat)} {s : S} {dep : Nat → Nat} (G : Good n rs) (F : Fin n rs s dep) (h2 : rs.length ≤ 2) : s.bar = none := by
  cases q : s.bar with
  | none => rfl
  | some b =>
    have R := F.ring G q
    have := R.odd
    exact (two_rows G h2 ((Deal.ring s n b).2.length / 2) R.ch R.cl (by omega)).elim
end Deal

/-! The mirrors of is_pair, is_chain, is_even and of the answers' own word. Plain Lean. -/
namespace Deal
def inN (r : List Nat) (x : Int) : Bool := decide (0 ≤ x) && r.contains x.toNat
def ixO (r : List Nat) (x : Int) : Nat := r.idxOf x.toNat
def isPair (rs : List (List Nat)) (k x y : Int) : Bool :=
  if 0 ≤ k ∧ k < (rs.length : Int) then
    if inN (rs.getD k.toNat []) x = true then
      if inN (rs.getD k.toNat []) y = true then
        (!decide (ixO (rs.getD k.toNat []) x = ixO (rs.getD k.toNat []) y)) && decide (ixO (rs.getD k.toNat []) x / 2 = ixO (rs.getD k.toNat []) y / 2)
      else false
    else false
  else false
def inR (n : Nat) (x : Int) : Bool := decide (0 ≤ x) && decide (x < (n : Int))
def isChain (n : Nat) (rs : List (List Nat)) (ts ps : List Int) : Bool :=
  if ts = [] ∨ ps.length + 1 ≠ ts.length then false
  else if ts.all (inR n) = true then (List.range ps.length).all fun i => isPair rs (ps.getD i 0) (ts.getD i 0) (ts.getD (i + 1) 0)
  else false
def rowBad (r : List Nat) (d : List Int) : Bool := (List.range (r.length / 2)).any fun j => decide (d.getD (r.getD (2 * j) 0) 0 = d.getD (r.getD (2 * j + 1) 0) 0)
def is01 (z : Int) : Bool := decide (z = 0) || decide (z = 1)
def isEven (n : Nat) (rs : List (List Nat)) (d : List Int) : Bool :=
  if d.length = n ∧ d.all is01 = true then rs.all fun r => !rowBad r d else false
def isRing (n : Nat) (rs : List (List Nat)) (ts ps : List Int) : Bool :=
  if ts.length < 2 ∨ ts.length % 2 = 1 ∨ ts.getD 0 0 ≠ ts.getD (ts.length - 1) 0 then false else isChain n rs ts ps
def isWay (n : Nat) (rs : List (List Nat)) (x y : Int) (ts ps : List Int) : Bool :=
  if ts = [] ∨ ts.getD 0 0 ≠ x ∨ ts.getD (ts.length - 1) 0 ≠ y then false else isChain n rs ts ps
def isFree (n : Nat) (rs : List (List Nat)) (x y : Nat) (d e : List Int) : Bool :=
  if isEven n rs d = true ∧ isEven n rs e = true then decide (d.getD x 0 = d.getD y 0) && !decide (e.getD x 0 = e.getD y 0) else false

theorem range_all {α : Type} {p : α → Bool} {d : α} : ∀ {l : List α}, (List.range l.length).all (fun i => p (l.getD i d)) = l.all p
  | [] => rfl
  | x :: l => by
    rw [List.length_cons, List.range_succ_eq_map, List.all_cons, List.all_cons, List.all_map]
    have h := range_all (p := p) (d := d) (l := l)
    rw [← h]
    simp [Function.comp_def]
theorem all_map_id {α : Type} {f : α → Bool} {l : List α} : (l.map f).all id = l.all f := by
  rw [List.all_map]
  rfl
theorem any_map_id {α : Type} {f : α → Bool} {l : List α} : (l.map f).any id = l.any f := by
  rw [List.any_map]
  rfl
end Deal

/-! Steps of readings; loops and comprehensions whose turns leave all as it was; how rows lie. -/
namespace Ed
open PySem L2

/-! ### heaps -/
theorem same_new {H : Hp} {p : Addr} {o : HO} (h : H p = none) : Same H (upd H p o) := fun b x e => by
  rw [upd_ne (ne_of_none e h)]
  exact e
/-- what H does not know may change -/
theorem same_mut {H H' : Hp} {p : Addr} {o : HO} (e : Same H H') (h : H p = none) : Same H (upd H' p o) := fun b x q => by
  rw [upd_ne (ne_of_none q h)]
  exact e b x q
theorem Same.seqT {K : PySem.W.Frag} {H H' : Hp} {a : Addr} {xs : List V} (e : Same H H') (h : SqT K H a xs) : SqT K H' a xs := by
  rcases h with (h | ⟨o, h⟩) | h
  · exact .inl (.inl (e _ _ h))
  · exact .inl (.inr ⟨o, e _ _ h⟩)
  · exact .inr h
theorem sqT_of {K : PySem.W.Frag} {H : Hp} {a : Addr} {xs : List V} (h : H a = some (.tup xs)) : SqT K H a xs := .inl (.inl h)
theorem sqL_of {K : PySem.W.Frag} {H : Hp} {a : Addr} {xs : List V} (h : H a = some (.lst xs)) : SqL K H a xs := .inl (.inl h)
theorem small_le {n : Nat} (h : n ≤ 100000) : n ≤ sizeLine := Nat.le_trans h (by decide)
theorem small_lt {n : Nat} (h : n ≤ 100000) : n < sizeLine := Nat.lt_of_le_of_lt h (by decide)

/-! ### readings, one step each -/
section
variable {X : Cx} {K : PySem.W.Frag} {σ : L2.St} {H : Hp} {Q : VK} {QA : List V → Hp → Prop} {QB : Bool → Hp → Prop} {QO : Option Int → Hp → Prop} {ta tb tc te to : TE} {ts : TA} {c d : TT} {x y v : V} {r r' : R2} {i j : Int} {a : Addr} {D : Ends} {t u : TS} {f : Str} {b : Bool} {R : L2.St → Hp → Prop}
theorem go_var {n : Nat} (h : σ[n]? = some (some v)) (k : Q v H) : tVar n σ H Q := ⟨v, h, k⟩
theorem go_c (k : Q v H) : tC v σ H Q := k
theorem go_op (k : ta σ H fun x H1 => tb σ H1 fun y H2 => r x y H2 Q) : tOp r ta tb σ H Q := k
theorem go_un {r : V → Hp → VK → Prop} (k : ta σ H fun x H1 => r x H1 Q) : tUn r ta σ H Q := k
theorem go_U {g : Int → V} (k : Q (g i) H) : rU g (.int i) H Q := ⟨i, rfl, k⟩
theorem go_I0 {g : Int → Int → V} (k : Q (g i j) H) : rI0 g (.int i) (.int j) H Q := ⟨i, j, rfl, rfl, k⟩
theorem go_I {C : Int → Int → Prop} {g : Int → Int → V} (h : C i j) (k : Q (g i j) H) : rI C g (.int i) (.int j) H Q := ⟨i, j, rfl, rfl, h, k⟩
theorem dec_int : decide (V.int i = V.int j) = decide (i = j) := by
  by_cases h : i = j
  · subst h; simp
  · rw [decide_eq_false h, decide_eq_false fun z => h (V.int.inj z)]
theorem dec_bl {b' : Bool} : decide (V.bl b = V.bl b') = (b == b') := by cases b <;> cases b' <;> rfl
theorem go_eqI (k : Q (.bl (decide (i = j))) H) : rEq (.int i) (.int j) H Q := ⟨rfl, by rw [dec_int]; exact k⟩
theorem go_neI (k : Q (.bl (!decide (i = j))) H) : rNe (.int i) (.int j) H Q := ⟨rfl, by rw [dec_int]; exact k⟩
theorem go_eqB {b' : Bool} (k : Q (.bl (b == b')) H) : rEq (.bl b) (.bl b') H Q := ⟨rfl, by rw [dec_bl]; exact k⟩
theorem go_neB {b' : Bool} (k : Q (.bl (!(b == b'))) H) : rNe (.bl b) (.bl b') H Q := ⟨rfl, by rw [dec_bl]; exact k⟩
def chK (r' : R2) (tc : TE) (σ : L2.St) (y : V) (Q : VK) : VK := fun z H3 => ∃ k, z = .bl k ∧ (if k = true then tc σ H3 fun w' H4 => r' y w' H4 Q else Q (.bl false) H3)
theorem go_chain (k : ta σ H fun x H1 => tb σ H1 fun y H2 => r x y H2 (chK r' tc σ y Q)) : tChain r r' ta tb tc σ H Q := k
theorem go_chK (k : if b = true then tc σ H fun w' H4 => r' y w' H4 Q else Q (.bl false) H) : chK r' tc σ y Q (.bl b) H := ⟨b, rfl, k⟩
def asB (QB : Bool → Hp → Prop) : VK := fun x H => ∃ k, x = .bl k ∧ QB k H
theorem go_asB (k : QB b H) : asB QB (.bl b) H := ⟨b, rfl, k⟩
theorem go_test (k : te σ H (asB QB)) : tTest te σ H QB := k
theorem go_tB (k : te σ H (asB QB)) : tB te σ H QB := k
theorem go_and (k : c σ H fun b H1 => if b = true then d σ H1 QB else QB false H1) : tAnd c d σ H QB := k
theorem go_or (k : c σ H fun b H1 => if b = true then QB true H1 else d σ H1 QB) : tOr c d σ H QB := k
theorem go_not (k : c σ H fun b H1 => QB (!b) H1) : tNot c σ H QB := k
theorem go_andV (k : ta σ H (asB fun b H1 => if b = true then tb σ H1 Q else Q (.bl false) H1)) : tAndV ta tb σ H Q := k
theorem go_orV (k : ta σ H (asB fun b H1 => if b = true then Q (.bl true) H1 else tb σ H1 Q)) : tOrV ta tb σ H Q := k
theorem go_notV (k : ta σ H (asB fun b H1 => Q (.bl (!b)) H1)) : tNotV ta σ H Q := k
theorem go_if (k : c σ H fun b H1 => if b = true then ta σ H1 Q else tb σ H1 Q) : tIf c ta tb σ H Q := k
def fldK (K : PySem.W.Frag) (f : Str) (Q : VK) : VK := fun x H1 => ∃ a C dx fs v, x = .ref a ∧ H1 a = some (.ins C dx fs) ∧ Cls K C ∧ NoAttr K C f ∧ fs.lookup f = some v ∧ Q v H1
theorem go_fld (k : ta σ H (fldK K f Q)) : tFld K ta f σ H Q := k
theorem go_fldK {C dx : Addr} {fs : List (Str × V)} (h : H a = some (.ins C dx fs)) (hc : Cls K C) (hn : NoAttr K C f) (hl : fs.lookup f = some v) (k : Q v H) : fldK K f Q (.ref a) H := ⟨a, C, dx, fs, v, rfl, h, hc, hn, hl, k⟩
theorem go_cons (k : ta σ H fun x H1 => ts σ H1 fun xs H2 => QA (x :: xs) H2) : tCons ta ts σ H QA := k
theorem go_nil (k : QA [] H) : tNil σ H QA := k
/-- a new object: what was stands -/
def tupK (Q : VK) : List V → Hp → Prop := fun xs H1 => xs.length ≤ sizeLine ∧ ∀ p, H1 p = none → Q (.ref p) (upd H1 p (.tup xs))
def lstK (Q : VK) : List V → Hp → Prop := fun xs H1 => xs.length ≤ sizeLine ∧ ∀ p, H1 p = none → Q (.ref p) (upd H1 p (.lst xs))
theorem go_tup (k : ts σ H (tupK Q)) : tTup ts σ H Q := k
theorem go_lst (k : ts σ H (lstK Q)) : tLst ts σ H Q := k
theorem go_tupK {xs : List V} (hl : xs.length ≤ sizeLine) (k : ∀ p H', H p = none → Same H H' → H' p = some (.tup xs) → Q (.ref p) H') : tupK Q xs H := ⟨hl, fun p hp => k p _ hp (same_new hp) upd_same⟩
theorem go_lstK {xs : List V} (hl : xs.length ≤ sizeLine) (k : ∀ p H', H p = none → Same H H' → H' p = some (.lst xs) → Q (.ref p) H') : lstK Q xs H := ⟨hl, fun p hp => k p _ hp (same_new hp) upd_same⟩
theorem go_call {sp : Sp} {E : XK} (k : ts σ H fun vs H1 => sp vs H1 Q E) : tCall sp [] E ts σ H Q := by
  have e : (fun (vs : List V) H1 => sp (vs ++ []) H1 Q E) = fun vs H1 => sp vs H1 Q E := by
    funext vs H1
    rw [List.append_nil]
  show ts σ H (fun vs H1 => sp (vs ++ []) H1 Q E)
  rw [e]
  exact k
theorem go_CB {r : List V → Hp → VK → Prop} (k : ts σ H fun vs H1 => r vs H1 Q) : tCB r ts σ H Q := k
def bmK (K : PySem.W.Frag) (T : String) (r : V → List V → Hp → VK → Prop) (ts : TA) (σ : L2.St) (Q : VK) : VK := fun x H1 => tyV K T x H1 ∧ ts σ H1 fun xs H2 => r x xs H2 Q
theorem go_BM {T : String} {r : V → List V → Hp → VK → Prop} (k : to σ H (bmK K T r ts σ Q)) : tBM K T r to ts σ H Q := k
theorem go_BM0 {T : String} {r : V → List V → Hp → VK → Prop} (k : to σ H (bmK K T r tNil σ Q)) : tBM0 K T r to σ H Q := k
theorem go_bmL {r : V → List V → Hp → VK → Prop} {xs : List V} (h : SqL K H a xs) (k : ts σ H fun xs H2 => r (.ref a) xs H2 Q) : bmK K "list" r ts σ Q (.ref a) H := ⟨.inl ⟨rfl, _, h⟩, k⟩
def meK (C : Addr) (m : Str) (sp : Sp) (E : XK) (ts : TA) (σ : L2.St) (Q : VK) : VK := fun x H1 => ∃ a dx fs, x = .ref a ∧ H1 a = some (.ins C dx fs) ∧ fs.lookup m = none ∧ ts σ H1 fun vs H2 => sp (x :: vs) H2 Q E
theorem go_meth {C : Addr} {m : Str} {sp : Sp} {E : XK} (k : ta σ H (meK C m sp E ts σ Q)) : tMeth C m sp [] E ta ts σ H Q := by
  have e : ∀ x : V, (fun (vs : List V) H1 => sp (x :: (vs ++ [])) H1 Q E) = fun vs H1 => sp (x :: vs) H1 Q E := by
    intro x
    funext vs H1
    rw [List.append_nil]
  show ta σ H fun x H1 => ∃ a dx fs, x = .ref a ∧ H1 a = some (.ins C dx fs) ∧ fs.lookup m = none ∧ ts σ H1 fun vs H2 => sp (x :: (vs ++ [])) H2 Q E
  have e2 : (fun x H1 => ∃ a dx fs, x = V.ref a ∧ H1 a = some (HO.ins C dx fs) ∧ fs.lookup m = none ∧ ts σ H1 fun vs H2 => sp (x :: (vs ++ [])) H2 Q E) = meK C m sp E ts σ Q := by
    funext x H1
    unfold meK
    rw [e x]
  rw [e2]
  exact k
theorem go_meK {C dx : Addr} {m : Str} {sp : Sp} {E : XK} {fs : List (Str × V)} (h : H a = some (.ins C dx fs)) (hl : fs.lookup m = none) (k : ts σ H fun vs H2 => sp (.ref a :: vs) H2 Q E) : meK C m sp E ts σ Q (.ref a) H := ⟨a, dx, fs, rfl, h, hl, k⟩
def mkK (C : Addr) (sp : Sp) (E : XK) (Q : VK) : List V → Hp → Prop := fun vs H1 => ∀ x dx, H1 x = none → H1 dx = none → dx ≠ x → sp (.ref x :: vs) (upd (upd H1 dx (.own x)) x (.ins C dx [])) (fun v H2 => v = .non ∧ Q (.ref x) H2) E
theorem go_make {C : Addr} {sp : Sp} {E : XK} (k : ts σ H (mkK C sp E Q)) : tMake C sp [] E ts σ H Q := by
  have e : (fun (vs : List V) H1 => ∀ x dx, H1 x = none → H1 dx = none → dx ≠ x → sp (.ref x :: (vs ++ [])) (upd (upd H1 dx (.own x)) x (.ins C dx [])) (fun v H2 => v = .non ∧ Q (.ref x) H2) E) = mkK C sp E Q := by
    funext vs H1
    unfold mkK
    rw [List.append_nil]
  show ts σ H (fun vs H1 => ∀ x dx, H1 x = none → H1 dx = none → dx ≠ x → sp (.ref x :: (vs ++ [])) (upd (upd H1 dx (.own x)) x (.ins C dx [])) (fun v H2 => v = .non ∧ Q (.ref x) H2) E)
  rw [e]
  exact k
theorem go_mkK {C : Addr} {sp : Sp} {E : XK} {vs : List V} (k : ∀ x dx H', H x = none → H dx = none → dx ≠ x → Same H H' → H' x = some (.ins C dx []) → sp (.ref x :: vs) H' (fun v H2 => v = .non ∧ Q (.ref x) H2) E) : mkK C sp E Q vs H :=
  fun x dx hx hd ne => k x dx _ hx hd ne (same_mut (same_new hd) hx) upd_same
theorem go_sl {r : V → Option Int → Option Int → Hp → VK → Prop} {tl th : TO} (k : te σ H fun x H1 => tl σ H1 fun l H2 => th σ H2 fun u H3 => r x l u H3 Q) : L2.tSl r te tl th σ H Q := k
theorem go_noPart (k : QO none H) : tNoPart σ H QO := k
def paK (QO : Option Int → Hp → Prop) : VK := fun x H1 => ∃ i, x = .int i ∧ QO (some i) H1
theorem go_part (k : te σ H (paK QO)) : tPart te σ H QO := k
theorem go_paK (k : QO (some i) H) : paK QO (.int i) H := ⟨i, rfl, k⟩
def reK (K : PySem.W.Frag) (Q : VK) : VK := fun x H1 => ∃ a xs, x = .ref a ∧ SqL K H1 a xs ∧ ∀ p, H1 p = none → Q (.ref p) (upd H1 p (.lst xs.reverse))
theorem go_rev (k : te σ H (reK K Q)) : tRevL K te σ H Q := k
theorem go_reK {xs : List V} (h : SqL K H a xs) (k : ∀ p H', H p = none → Same H H' → H' p = some (.lst xs.reverse) → Q (.ref p) H') : reK K Q (.ref a) H := ⟨a, xs, rfl, h, fun p hp => k p _ hp (same_new hp) upd_same⟩
theorem go_seq (k : t { D with nx := u D } σ H) : tSeq t u D σ H := k
theorem go_ifS (k : c σ H fun b H1 => if b = true then t D σ H1 else u D σ H1) : tIfS c t u D σ H := k
theorem go_ret (k : te σ H D.rt) : tRet te D σ H := k
theorem go_drop (k : te σ H fun _ H1 => D.nx σ H1) : tDrop te D σ H := k
theorem go_asg {g : TG} (k : te σ H fun x H1 => g x σ H1 D.nx) : tAsg te g D σ H := k
theorem go_next (k : D.nx σ H) : tNext D σ H := k
theorem go_name {n : Nat} (k : R (σ.set n (some v)) H) : gName n v σ H R := k
def fsK (K : PySem.W.Frag) (f : Str) (D : Ends) (σ : L2.St) (y : V) : VK := fun x H2 => ∃ a C dx fs, x = .ref a ∧ H2 a = some (.ins C dx fs) ∧ Cls K C ∧ NoAttr K C f ∧ fs.length < 1000 ∧ D.nx σ (upd H2 a (.ins C dx (putF f y fs)))
theorem go_fset (k : tb σ H fun y H1 => ta σ H1 (fsK K f D σ y)) : sFld K ta tb f D σ H := k
theorem go_fsK {C dx : Addr} {fs : List (Str × V)} (h : H a = some (.ins C dx fs)) (hc : Cls K C) (hn : NoAttr K C f) (hl : fs.length < 1000) (k : D.nx σ (upd H a (.ins C dx (putF f y fs)))) : fsK K f D σ y (.ref a) H := ⟨a, C, dx, fs, rfl, h, hc, hn, hl, k⟩
def prK (n m : Nat) (D : Ends) (σ : L2.St) : List V → Hp → Prop := fun vs H1 => ∃ v w, vs = [v, w] ∧ D.nx ((σ.set n (some v)).set m (some w)) H1
theorem go_par {n m : Nat} (k : ts σ H (prK n m D σ)) : tPar n m ts D σ H := k
theorem go_prK {n m : Nat} (k : D.nx ((σ.set n (some x)).set m (some y)) H) : prK n m D σ [x, y] H := ⟨x, y, rfl, k⟩
def prK3 (n m l : Nat) (D : Ends) (σ : L2.St) : List V → Hp → Prop := fun vs H1 => ∃ u v w, vs = [u, v, w] ∧ D.nx (((σ.set n (some u)).set m (some v)).set l (some w)) H1
theorem go_par3 {n m l : Nat} (k : ts σ H (prK3 n m l D σ)) : tPar3 n m l ts D σ H := k
theorem go_prK3 {n m l : Nat} {z : V} (k : D.nx (((σ.set n (some x)).set m (some y)).set l (some z)) H) : prK3 n m l D σ [x, y, z] H := ⟨x, y, z, rfl, k⟩
theorem go_sub {tst : TSet} (k : to σ H fun o H1 => ta σ H1 fun i H2 => tst o i v H2 fun H3 => R σ H3) : gSub to ta tst v σ H R := k
theorem go_gtup {n : Nat} {tgs : TGs} {xs : List V} (h : SqT K H a xs) (hl : xs.length = n) (k : tgs xs σ H R) : gTup K n tgs (.ref a) σ H R := ⟨a, xs, rfl, h, hl, k⟩
theorem go_gcons {g : TG} {tgs : TGs} {xs : List V} (k : g x σ H fun σ' H' => tgs xs σ' H' R) : gCons g tgs (x :: xs) σ H R := ⟨x, xs, rfl, k⟩
theorem go_gnil (k : R σ H) : gNil [] σ H R := ⟨rfl, k⟩
theorem go_yes (k : QB true H) : tYes σ H QB := k
/-! lists, tuples read; the length -/
theorem go_ixL {xs : List V} (h : SqL K H a xs) (ha : atI xs i = some v) (k : Q v H) : rIxL K (.ref a) (.int i) H Q := ⟨a, xs, i, v, rfl, rfl, h, ha, k⟩
theorem go_ixT {xs : List V} (h : SqT K H a xs) (ha : atI xs i = some v) (k : Q v H) : rIxT K (.ref a) (.int i) H Q := ⟨a, xs, i, v, rfl, rfl, h, ha, k⟩
def rLen (K : PySem.W.Frag) : List V → Hp → VK → Prop := fun xs H Q => ∃ p ys, xs = [.ref p] ∧ (SqL K H p ys ∨ SqT K H p ys) ∧ Q (.int ys.length) H
theorem c_len : CallR X (.builtin "len") (rLen X.K) := call_len_seq
theorem go_len {xs : List V} (h : SqL K H a xs) (k : Q (.int xs.length) H) : rLen K [.ref a] H Q := ⟨a, xs, rfl, .inl h, k⟩
theorem go_in {neg : Bool} {xs : List V} (h : SqL K H a xs) (hx : flatV x = true) (ha : xs.all flatV = true) (k : Q (.bl (if neg then !inV x xs else inV x xs)) H) : rIn K neg x (.ref a) H Q := ⟨a, xs, rfl, .inl h, hx, ha, k⟩
theorem go_inT {neg : Bool} {xs : List V} (h : SqT K H a xs) (hx : flatV x = true) (ha : xs.all flatV = true) (k : Q (.bl (if neg then !inV x xs else inV x xs)) H) : rIn K neg x (.ref a) H Q := ⟨a, xs, rfl, .inr h, hx, ha, k⟩
theorem go_all {bs : List Bool} (h : SqL K H a (bs.map V.bl)) (k : Q (.bl (bs.all id)) H) : rAll K [.ref a] H Q := ⟨a, bs, rfl, h, k⟩
theorem go_any {bs : List Bool} (h : SqL K H a (bs.map V.bl)) (k : Q (.bl (bs.any id)) H) : rAny K [.ref a] H Q := ⟨a, bs, rfl, h, k⟩
theorem go_app {xs : List V} (h : H a = some (.lst xs)) (hl : xs.length < sizeLine) (k : Q .non (upd H a (.lst (xs ++ [x])))) : rAppend (.ref a) [x] H Q := ⟨a, xs, x, rfl, rfl, h, hl, k⟩
theorem go_pop {xs : List V} (h : H a = some (.lst (xs ++ [x]))) (k : Q x (upd H a (.lst xs))) : rPop (.ref a) [] H Q := ⟨a, xs ++ [x], x, rfl, rfl, h, by simp, by rw [List.dropLast_concat]; exact k⟩
def rLst (K : PySem.W.Frag) : List V → Hp → VK → Prop := fun xs H Q => ∃ p ys, xs = [.ref p] ∧ (SqL K H p ys ∨ SqT K H p ys) ∧ ∀ l, H l = none → Q (.ref l) (upd H l (.lst ys))
theorem c_list : CallR X (.type "list") (rLst X.K) := call_list_of
theorem go_list {xs : List V} (h : SqL K H a xs) (k : ∀ p H', H p = none → Same H H' → H' p = some (.lst xs) → Q (.ref p) H') : rLst K [.ref a] H Q := ⟨a, xs, rfl, .inl h, fun p hp => k p _ hp (same_new hp) upd_same⟩
theorem go_cat {b : Addr} {xs ys : List V} (h : H a = some (.lst xs)) (h' : H b = some (.lst ys)) (hl : xs.length + ys.length ≤ sizeLine) (k : ∀ p H', H p = none → Same H H' → H' p = some (.lst (xs ++ ys)) → Q (.ref p) H') : rCat (.ref a) (.ref b) H Q := ⟨a, b, xs, ys, rfl, rfl, h, h', hl, fun p hp => k p _ hp (same_new hp) upd_same⟩
theorem go_cut {xs : List V} {lo hi : Option Int} (h : SqL K H a xs) (k : ∀ p H', H p = none → Same H H' → H' p = some (.lst (cutV xs lo hi)) → Q (.ref p) H') : rSlL K (.ref a) lo hi H Q := ⟨a, xs, rfl, h, fun p hp => k p _ hp (same_new hp) upd_same⟩
theorem go_setL {xs : List V} {n : Nat} {R : Hp → Prop} (h : H a = some (.lst xs)) (hi : ixN xs.length i = some n) (k : R (upd H a (.lst (xs.set n v)))) : rSetL (.ref a) (.int i) v H R := ⟨a, xs, i, n, rfl, rfl, h, hi, k⟩
theorem go_notN (k : Q (.bl (!decide (x = .non))) H) : rNotN x .non H Q := ⟨rfl, k⟩
theorem go_isi {cv : V} {tv uv : Value} (hc : ClsV cv uv) (ht : TyX K H x tv) (hk : PySem.W.kitOne K tv uv = some b) (k : Q (.bl b) H) : rIsi K [x, cv] H Q := ⟨x, cv, tv, uv, b, rfl, hc, ht, hk, k⟩
theorem go_ix {xs : List V} {z : V} {n : Nat} (h : SqL K H a xs) (hy : flatV y = true) (ha : xs.all flatV = true) (hz : xs[n]? = some z) (he : eqV z y = true) (hn : ∀ (m : Nat) (z' : V), m < n → xs[m]? = some z' → eqV z' y = false) (k : Q (.int (n : Nat)) H) : rIndex K (.ref a) [y] H Q :=
  ⟨a, xs, y, n, z, rfl, rfl, h, hy, ha, hz, he, hn, k⟩
theorem go_neD {dx dy : PyData} (hx : Dp K H x dx) (hy : Dp K H y dy) (sx : SeqAt.shaped dx = true) (sy : SeqAt.shaped dy = true) (k : Q (.bl (!PyData.eqv dx dy)) H) : rNeD K x y H Q := ⟨dx, dy, hx, hy, sx, sy, k⟩
theorem go_eqD {dx dy : PyData} (hx : Dp K H x dx) (hy : Dp K H y dy) (sx : SeqAt.shaped dx = true) (sy : SeqAt.shaped dy = true) (k : Q (.bl (PyData.eqv dx dy)) H) : rEqD K x y H Q := ⟨dx, dy, hx, hy, sx, sy, k⟩
def lrK (Q : VK) : Int → Int → Hp → Prop := fun a b H1 => RgOk a b ∧ ∀ q, H1 q = none → Q (.ref q) (upd H1 q (.lst (rgV a b)))
theorem go_lstRg {tr : L2.St → Hp → (Int → Int → Hp → Prop) → Prop} (k : tr σ H (lrK Q)) : tLstRg tr σ H Q := k
theorem go_lrK (h : RgOk i j) (k : ∀ p H', H p = none → Same H H' → H' p = some (.lst (rgV i j)) → Q (.ref p) H') : lrK Q i j H := ⟨h, fun p hp => k p _ hp (same_new hp) upd_same⟩
def r1K (QI : Int → Int → Hp → Prop) : VK := fun x H1 => ∃ n, x = .int n ∧ QI 0 n H1
theorem go_rg1 {QI : Int → Int → Hp → Prop} (k : ta σ H (r1K QI)) : tRg1 ta σ H QI := k
theorem go_r1K {QI : Int → Int → Hp → Prop} (k : QI 0 i H) : r1K QI (.int i) H := ⟨i, rfl, k⟩
end

section
variable {σ : L2.St} {H : Hp} {c : TT} {t u : TS} {D : Ends} {b : Bool}
theorem go_nx {f : L2.St → Hp → Prop} {r : VK} {k c : L2.St → Hp → Prop} (h : f σ H) : Ends.nx ⟨f, r, k, c⟩ σ H := h
theorem go_rt {f : L2.St → Hp → Prop} {r : VK} {k c : L2.St → Hp → Prop} {v : V} (h : r v H) : Ends.rt ⟨f, r, k, c⟩ v H := h
theorem if_yes {c : Bool} {A B : Prop} (hc : c = true) (h : A) : if c = true then A else B := by
  rw [if_pos hc]
  exact h
theorem if_no {c : Bool} {A B : Prop} (hc : c = false) (h : B) : if c = true then A else B := by
  rw [hc, if_neg Bool.false_ne_true]
  exact h
theorem if_by {c : Bool} {A B : Prop} (h1 : c = true → A) (h2 : c = false → B) : if c = true then A else B := by
  cases c with
  | true => exact iteT (h1 rfl)
  | false => exact iteF (h2 rfl)
/-- a test as a whole: its answer, then the ways -/
theorem cut_ifS (b : Bool) (h : ∀ QB : Bool → Hp → Prop, (∀ H2, Same H H2 → QB b H2) → c σ H QB) (k : ∀ H2, Same H H2 → if b = true then t D σ H2 else u D σ H2) : tIfS c t u D σ H := h _ k
theorem leaf {QB : Bool → Hp → Prop} {b b' : Bool} {H2 : Hp} (q : ∀ H2, Same H H2 → QB b H2) (e : b = b') (s : Same H H2) : QB b' H2 := e ▸ q H2 s
/-- an expression as a whole -/
theorem cut_te {te : TE} {Q : VK} (v : V) (h : ∀ R : VK, (∀ H2, Same H H2 → R v H2) → te σ H R) (k : ∀ H2, Same H H2 → Q v H2) : te σ H Q := h _ k
end
/-! ### a comprehension whose turns leave all as it was: test p, element f -/
section
variable {J : It} {n : Nat} {G : Hp → Prop} {Y : Nat → Hp → V → Hp → Prop}
theorem lc_pureIf (w : Walk J n G Y) {g : TG} {tt : TT} {te : TE} {vs : List Nat} {σ : L2.St} {H1 : Hp} {D : Addr} {Qd : Hp → Prop} (nD : H1 D = none) (hn : n ≤ 100000) (p : Nat → Bool) (f : Nat → V) (hG : ∀ H, Same H1 H → G H)
    (hs : ∀ i x H H' (R : VK) (N : Hp → Prop), i < n → Same H1 H → Y i H x H' → (∀ H4, p i = true → Same H H4 → R (f i) H4) → (∀ H4, p i = false → Same H H4 → N H4) →
      g x (wipe σ vs) H' fun σ2 H2 => wipe σ2 vs = wipe σ vs ∧ tt σ2 H2 fun b H3 => if b = true then te σ2 H3 R else N H3)
    (hd : ∀ H, Same H1 H → H D = some (.lst (((List.range n).filter p).map f)) → Qd H) :
    ∃ W : Nat → Nat → Hp → Prop, (∃ m, W 0 m (upd H1 D (.lst []))) ∧ ∀ i m H, W i m H →
      (J.stop i H ∧ Qd H) ∨ (J.go i H ∧ ∃ Nx : Hp → Prop, (∀ H', Nx H' → ∃ m', m' < m ∧ W (i + 1) m' H') ∧ ∀ x H', J.yld i H x H' → g x (wipe σ vs) H' fun σ2 H2 => wipe σ2 vs = wipe σ vs ∧ tt σ2 H2 fun b H3 =>
        if b = true then te σ2 H3 fun y H4 => ∃ acc, H4 D = some (.lst acc) ∧ acc.length < sizeLine ∧ Nx (upd H4 D (.lst (acc ++ [y]))) else Nx H3) := by
  refine lc_it w (fun i H => Same H1 H ∧ H D = some (.lst (((List.range i).filter p).map f))) ⟨same_mut (Same.refl _) nD, upd_same⟩ (fun i H _ h => hG H h.1) ?_ fun H h => hd H h.1 h.2
  rintro i x H H' hi ⟨s, e⟩ y
  refine hs i x H H' (fun y H4 => ∃ acc, H4 D = some (.lst acc) ∧ acc.length < sizeLine ∧ (Same H1 (upd H4 D (.lst (acc ++ [y]))) ∧ upd H4 D (.lst (acc ++ [y])) D = some (.lst (((List.range (i + 1)).filter p).map f)))) (fun H3 => Same H1 H3 ∧ H3 D = some (.lst (((List.range (i + 1)).filter p).map f))) hi s y (fun H4 hp s4 => ?_) fun H3 hp s3 => ?_
  · refine ⟨_, s4 _ _ e, ?_, same_mut (s.trans s4) nD, ?_⟩
    · rw [List.length_map]
      have := List.length_filter_le p (List.range i)
      rw [List.length_range] at this
      exact small_lt (by omega)
    · rw [upd_same, List.range_succ, List.filter_append]
      simp [hp]
  · refine ⟨s.trans s3, ?_⟩
    rw [s3 _ _ e, List.range_succ, List.filter_append]
    simp [hp]
theorem lc_pure (w : Walk J n G Y) {g : TG} {te : TE} {vs : List Nat} {σ : L2.St} {H1 : Hp} {D : Addr} {Qd : Hp → Prop} (nD : H1 D = none) (hn : n ≤ 100000) (f : Nat → V) (hG : ∀ H, Same H1 H → G H)
    (hs : ∀ i x H H' (R : VK), i < n → Same H1 H → Y i H x H' → (∀ H4, Same H H4 → R (f i) H4) → g x (wipe σ vs) H' fun σ2 H2 => wipe σ2 vs = wipe σ vs ∧ te σ2 H2 R)
    (hd : ∀ H, Same H1 H → H D = some (.lst ((List.range n).map f)) → Qd H) :
    ∃ W : Nat → Nat → Hp → Prop, (∃ m, W 0 m (upd H1 D (.lst []))) ∧ ∀ i m H, W i m H →
      (J.stop i H ∧ Qd H) ∨ (J.go i H ∧ ∃ Nx : Hp → Prop, (∀ H', Nx H' → ∃ m', m' < m ∧ W (i + 1) m' H') ∧ ∀ x H', J.yld i H x H' → g x (wipe σ vs) H' fun σ2 H2 => wipe σ2 vs = wipe σ vs ∧ tYes σ2 H2 fun b H3 =>
        if b = true then te σ2 H3 fun y H4 => ∃ acc, H4 D = some (.lst acc) ∧ acc.length < sizeLine ∧ Nx (upd H4 D (.lst (acc ++ [y]))) else Nx H3) := by
  refine lc_pureIf w nD hn (fun _ => true) f hG (fun i x H H' R N hi s y hR _ => ?_) fun H s e => hd H s (by rw [e, List.filter_eq_self.mpr fun _ _ => rfl])
  exact hs i x H H' R hi s y fun H4 s4 => hR H4 rfl s4
end
end Ed

/-! How rows and lists of numbers lie. -/
namespace Ed
open PySem L2 Deal
def nv (r : List Nat) : List V := r.map fun x : Nat => V.int (x : Int)
theorem nv_len (r : List Nat) : (nv r).length = r.length := List.length_map _
theorem nv_get {r : List Nat} {i : Nat} (h : i < r.length) : (nv r)[i]? = some (.int (r.getD i 0 : Nat)) := by
  unfold nv
  rw [List.getElem?_map, List.getElem?_eq_getElem h, List.getD_eq_getElem?_getD, List.getElem?_eq_getElem h]
  rfl
theorem nv_at {r : List Nat} {i : Nat} {z : Int} (e : z = (i : Int)) (h : i < r.length) : atI (nv r) z = some (.int (r.getD i 0 : Nat)) := by
  rw [e]
  exact atI_nat (nv_get h)
theorem iv_get {d : List Int} {i : Nat} (h : i < d.length) : (d.map V.int)[i]? = some (.int (d.getD i 0)) := by
  rw [List.getElem?_map, List.getElem?_eq_getElem h, List.getD_eq_getElem?_getD, List.getElem?_eq_getElem h]
  rfl
theorem iv_at {d : List Int} {i : Nat} {z : Int} (e : z = (i : Int)) (h : i < d.length) : atI (d.map V.int) z = some (.int (d.getD i 0)) := by
  rw [e]
  exact atI_nat (iv_get h)
theorem flat_nv (r : List Nat) : (nv r).all flatV = true := by
  unfold nv
  rw [List.all_map, List.all_eq_true]
  intro x _
  rfl
theorem flat_iv (r : List Int) : (r.map V.int).all flatV = true := by
  rw [List.all_map, List.all_eq_true]
  intro x _
  rfl
theorem eqV_int {i j : Int} : eqV (.int i) (.int j) = decide (i = j) := by
  by_cases h : i = j
  · subst h
    simp [eqV]
  · simp [eqV, h]
theorem in_nv (r : List Nat) (x : Int) : inV (.int x) (nv r) = inN r x := by
  unfold inV nv inN
  rw [List.any_map, Bool.eq_iff_iff, List.any_eq_true, Bool.and_eq_true, decide_eq_true_eq, List.contains_iff_mem]
  constructor
  · rintro ⟨y, hy, e⟩
    have e : eqV (.int (y : Int)) (.int x) = true := e
    rw [eqV_int, decide_eq_true_eq] at e
    refine ⟨by omega, ?_⟩
    rw [← e]
    simpa using hy
  · rintro ⟨h, hm⟩
    refine ⟨x.toNat, hm, ?_⟩
    show eqV (.int (x.toNat : Int)) (.int x) = true
    rw [eqV_int, decide_eq_true_eq]
    omega
theorem inN_ix {r : List Nat} {x : Int} (h : inN r x = true) : ixO r x < r.length ∧ r.getD (ixO r x) 0 = x.toNat ∧ 0 ≤ x := by
  unfold inN at h
  rw [Bool.and_eq_true, decide_eq_true_eq, List.contains_iff_mem] at h
  have hl := List.idxOf_lt_length_of_mem h.2
  refine ⟨hl, ?_, h.1⟩
  unfold ixO
  rw [List.getD_eq_getElem?_getD, List.getElem?_eq_getElem hl]
  simp
/-- rows: a list of lists of things -/
def RowsAt (K : PySem.W.Frag) (H : Hp) (a : Addr) (rs : List (List Nat)) : Prop := ∃ xs : List V, SqL K H a xs ∧ xs.length = rs.length ∧ ∀ k, k < rs.length → ∃ p, xs[k]? = some (.ref p) ∧ SqL K H p (nv (rs.getD k []))
theorem RowsAt.same {K : PySem.W.Frag} {H H' : Hp} {a : Addr} {rs : List (List Nat)} (s : Same H H') (h : RowsAt K H a rs) : RowsAt K H' a rs := by
  obtain ⟨xs, h1, h2, h3⟩ := h
  refine ⟨xs, s.seq h1, h2, fun k hk => ?_⟩
  obtain ⟨p, e, h⟩ := h3 k hk
  exact ⟨p, e, s.seq h⟩
end Ed

/-! Loops and comprehensions by their iterators; == of lists of numbers and of rows. -/
namespace Ed
open PySem L2 Deal
section
variable {X : Cx} {K : PySem.W.Frag} {σ : L2.St} {H : Hp} {Q : VK} {te : TE} {ts : TA} {tb : TS} {tt : TT} {g : TG} {vs : List Nat} {D : Ends} {a b : Addr} {xs ys : List V} {i j : Int} {R : It → Hp → Prop} {wi : TI}
/-! ### what is walked -/
def ilK (K : PySem.W.Frag) (R : It → Hp → Prop) : VK := fun x H1 => ∃ a, x = .ref a ∧ (∃ xs, SqL K H1 a xs) ∧ R (Itl K a) H1
theorem go_il (k : te σ H (ilK K R)) : iList K te σ H R := k
theorem go_ilK (h : SqL K H a xs) (k : R (Itl K a) H) : ilK K R (.ref a) H := ⟨a, rfl, ⟨xs, h⟩, k⟩
def itK (K : PySem.W.Frag) (R : It → Hp → Prop) : VK := fun x H1 => ∃ a, x = .ref a ∧ (∃ xs, SqT K H1 a xs) ∧ R (Itt K a) H1
theorem go_it (k : te σ H (itK K R)) : iTup K te σ H R := k
theorem go_itK (h : SqT K H a xs) (k : R (Itt K a) H) : itK K R (.ref a) H := ⟨a, rfl, ⟨xs, h⟩, k⟩
def irK (R : It → Hp → Prop) : List V → Hp → Prop := fun vs H1 => ∃ j : Int, vs = [.int j] ∧ -(2 ^ 62) ≤ j ∧ j < 2 ^ 62 ∧ R (Itr 0 j.toNat) H1
theorem go_ir (k : ts σ H (irK R)) : iRng1 ts σ H R := k
theorem go_irK {n : Nat} (h : n ≤ 100000) (k : R (Itr 0 n) H) : irK R [.int (n : Int)] H := ⟨n, rfl, by omega, by omega, k⟩
def irK2 (R : It → Hp → Prop) : List V → Hp → Prop := fun vs H1 => ∃ i j : Int, vs = [.int i, .int j] ∧ (-(2 ^ 62) ≤ i ∧ i < 2 ^ 62 ∧ -(2 ^ 62) ≤ j ∧ j < 2 ^ 62) ∧ R (Itr i (j - i).toNat) H1
theorem go_ir2 (k : ts σ H (irK2 R)) : iRng2 ts σ H R := k
theorem go_irK2 (h : -(2 ^ 62) ≤ i ∧ i < 2 ^ 62 ∧ -(2 ^ 62) ≤ j ∧ j < 2 ^ 62) (k : R (Itr i (j - i).toNat) H) : irK2 R [.int i, .int j] H := ⟨i, j, rfl, h, k⟩
def irK3 (R : It → Hp → Prop) : List V → Hp → Prop := fun vs H1 => ∃ (i j c : Int) (n : Nat), vs = [.int i, .int j, .int c] ∧ RgC i j c n ∧ R (Itc i c n) H1
theorem go_ir3 (k : ts σ H (irK3 R)) : iRng3 ts σ H R := k
theorem go_irK3 {c : Int} {n : Nat} (h : RgC i j c n) (k : R (Itc i c n) H) : irK3 R [.int i, .int j, .int c] H := ⟨i, j, c, n, rfl, h, k⟩
def ieK (K : PySem.W.Frag) (R : It → Hp → Prop) : List V → Hp → Prop := fun vs H1 => ∃ a xs, vs = [.ref a] ∧ SqL K H1 a xs ∧ R (Ite K a) H1
theorem go_ie (k : ts σ H (ieK K R)) : iEnum K ts σ H R := k
theorem go_ieK (h : SqL K H a xs) (k : R (Ite K a) H) : ieK K R [.ref a] H := ⟨a, xs, rfl, h, k⟩
def izK (K : PySem.W.Frag) (R : It → Hp → Prop) : List V → Hp → Prop := fun vs H1 => ∃ a b xs ys, vs = [.ref a, .ref b] ∧ SqL K H1 a xs ∧ SqL K H1 b ys ∧ R (Itz K a b) H1
theorem go_iz (k : ts σ H (izK K R)) : iZip K ts σ H R := k
theorem go_izK (h : SqL K H a xs) (h' : SqL K H b ys) (k : R (Itz K a b) H) : izK K R [.ref a, .ref b] H := ⟨a, b, xs, ys, rfl, h, h', k⟩
/-! ### a for -/
def fK (g : TG) (tb : TS) (D : Ends) (σ : L2.St) : It → Hp → Prop := fun J H1 => ∃ W : Nat → Nat → L2.St → Hp → Prop, (∃ m, W 0 m σ H1) ∧ ∀ i m σ H, W i m σ H →
  (J.stop i H ∧ D.nx σ H) ∨ (J.go i H ∧ ∃ N : L2.St → Hp → Prop, (∀ σ' H', N σ' H' → ∃ m', m' < m ∧ W (i + 1) m' σ' H') ∧ ∀ x H', J.yld i H x H' → g x σ H' fun σ2 H2 => tb { D with nx := N, ct := N, bk := D.nx } σ2 H2)
theorem go_for (k : wi σ H (fK g tb D σ)) : tFor wi g tb D σ H := k
theorem go_fK {J : It} {n : Nat} {G : Hp → Prop} {Y : Nat → Hp → V → Hp → Prop} (w : Walk J n G Y) (Pv : Nat → L2.St → Hp → Prop) (h0 : Pv 0 σ H) (hG : ∀ i σ H, i ≤ n → Pv i σ H → G H)
    (hs : ∀ i x σ H H', i < n → Pv i σ H → Y i H x H' → g x σ H' fun σ2 H2 => tb { D with nx := Pv (i + 1), ct := Pv (i + 1), bk := D.nx } σ2 H2) (hd : ∀ σ H, Pv n σ H → D.nx σ H) : fK g tb D σ J H := for_it w Pv h0 hG hs hd
/-! ### a while: its test's answer, then the ways -/
theorem go_while {c : TT} (W : Nat → L2.St → Hp → Prop) (m : Nat) (h0 : W m σ H)
    (hs : ∀ m σ H, W m σ H → ∃ b : Bool, (∀ QB : Bool → Hp → Prop, (∀ H2, Same H H2 → QB b H2) → c σ H QB) ∧ ∀ H2, Same H H2 →
      (b = true → tb { D with nx := fun σ' H' => ∃ m', m' < m ∧ W m' σ' H', ct := fun σ' H' => ∃ m', m' < m ∧ W m' σ' H', bk := D.nx } σ H2) ∧ (b = false → D.nx σ H2)) : tWhile c tb D σ H := by
  refine ⟨W, ⟨m, h0⟩, fun m σ H w => ?_⟩
  obtain ⟨b, h1, h2⟩ := hs m σ H w
  refine h1 _ fun H2 s2 => ?_
  obtain ⟨h3, h4⟩ := h2 H2 s2
  exact if_by (fun e => ⟨_, fun _ _ n => n, h3 e⟩) h4
/-! ### a comprehension -/
def lcK (g : TG) (tt : TT) (te : TE) (vs : List Nat) (σ : L2.St) (Q : VK) : It → Hp → Prop := fun J H1 => ∀ D, H1 D = none → ∃ W : Nat → Nat → Hp → Prop, (∃ m, W 0 m (upd H1 D (.lst []))) ∧ ∀ i m H, W i m H →
  (J.stop i H ∧ Q (.ref D) H) ∨ (J.go i H ∧ ∃ Nx : Hp → Prop, (∀ H', Nx H' → ∃ m', m' < m ∧ W (i + 1) m' H') ∧ ∀ x H', J.yld i H x H' → g x (wipe σ vs) H' fun σ2 H2 => wipe σ2 vs = wipe σ vs ∧ tt σ2 H2 fun b H3 =>
    if b = true then te σ2 H3 fun y H4 => ∃ acc, H4 D = some (.lst acc) ∧ acc.length < sizeLine ∧ Nx (upd H4 D (.lst (acc ++ [y]))) else Nx H3)
theorem go_lc (k : wi σ H (lcK g tt te vs σ Q)) : tLc wi g tt te vs σ H Q := k
theorem go_lcIf {J : It} {n : Nat} {G : Hp → Prop} {Y : Nat → Hp → V → Hp → Prop} (w : Walk J n G Y) (hn : n ≤ 100000) (p : Nat → Bool) (f : Nat → V) (hG : ∀ H', Same H H' → G H')
    (hs : ∀ i x H1 H' (R : VK) (N : Hp → Prop), i < n → Same H H1 → Y i H1 x H' → (∀ H4, p i = true → Same H1 H4 → R (f i) H4) → (∀ H4, p i = false → Same H1 H4 → N H4) →
      g x (wipe σ vs) H' fun σ2 H2 => wipe σ2 vs = wipe σ vs ∧ tt σ2 H2 fun b H3 => if b = true then te σ2 H3 R else N H3)
    (k : ∀ D H', H D = none → Same H H' → H' D = some (.lst (((List.range n).filter p).map f)) → Q (.ref D) H') : lcK g tt te vs σ Q J H := fun D nD => lc_pureIf w nD hn p f hG hs fun H' s e => k D H' nD s e
theorem go_lcP {J : It} {n : Nat} {G : Hp → Prop} {Y : Nat → Hp → V → Hp → Prop} (w : Walk J n G Y) (hn : n ≤ 100000) (f : Nat → V) (hG : ∀ H', Same H H' → G H')
    (hs : ∀ i x H1 H' (R : VK), i < n → Same H H1 → Y i H1 x H' → (∀ H4, Same H1 H4 → R (f i) H4) → g x (wipe σ vs) H' fun σ2 H2 => wipe σ2 vs = wipe σ vs ∧ te σ2 H2 R)
    (k : ∀ D H', H D = none → Same H H' → H' D = some (.lst ((List.range n).map f)) → Q (.ref D) H') : lcK g tYes te vs σ Q J H := fun D nD => lc_pure w nD hn f hG hs fun H' s e => k D H' nD s e
end
/-! ### data -/
def dI (l : List Int) : PyData := .list (l.map .int)
def dN (l : List Nat) : PyData := .list (l.map fun x : Nat => .int (x : Int))
theorem dpAll_ints {K : PySem.W.Frag} {H : Hp} : ∀ l : List Int, DpAll K H (l.map V.int) (l.map .int)
  | [] => .nil
  | x :: l => .cons (.int x) (dpAll_ints l)
theorem dp_ints {K : PySem.W.Frag} {H : Hp} {a : Addr} {l : List Int} (h : SqL K H a (l.map V.int)) : Dp K H (.ref a) (dI l) := .lst h (dpAll_ints l)
theorem lay_ints : ∀ l : List Int, PyData.canLayAll0 (l.map .int) = true
  | [] => by simp [PyData.canLayAll0]
  | x :: l => by simp [PyData.canLayAll0, PyData.canLay0, lay_ints l]
theorem depth_ints : ∀ l : List Int, PyData.depthAll (l.map .int) ≤ 1
  | [] => by simp [PyData.depthAll]
  | x :: l => by
    have h1 := depth_ints l
    simp only [List.map_cons, PyData.depthAll, PyData.depth]
    omega
theorem shaped_ints (l : List Int) : SeqAt.shaped (dI l) = true := by
  have h1 := depth_ints l
  have h2 : PyData.depth (dI l) ≤ 64 := by
    simp only [dI, PyData.depth]
    omega
  show (PyData.canLay0 (dI l) && decide (PyData.depth (dI l) ≤ 64)) = true
  rw [Bool.and_eq_true]
  exact ⟨by simp only [dI, PyData.canLay0]; exact lay_ints l, decide_eq_true h2⟩
theorem eqvAll_ints : ∀ l m : List Int, PyData.eqvAll (l.map .int) (m.map .int) = decide (l = m)
  | [], [] => by simp [PyData.eqvAll]
  | [], _ :: _ => by simp [PyData.eqvAll]
  | _ :: _, [] => by simp [PyData.eqvAll]
  | x :: l, y :: m => by
    rw [List.map_cons, List.map_cons, PyData.eqvAll, eqvAll_ints l m]
    simp only [PyData.eqv]
    rw [Bool.eq_iff_iff]
    simp
theorem eqv_ints (l m : List Int) : PyData.eqv (dI l) (dI m) = decide (l = m) := by
  unfold dI
  rw [PyData.eqv]
  exact eqvAll_ints l m
theorem nv_iv (r : List Nat) : nv r = (r.map fun x : Nat => (x : Int)).map V.int := by
  unfold nv
  rw [List.map_map]
  rfl
section
variable {K : PySem.W.Frag} {H : Hp} {Q : VK} {a b : Addr} {l m : List Int}
theorem go_eqL (h : SqL K H a (l.map V.int)) (h' : SqL K H b (m.map V.int)) (k : Q (.bl (decide (l = m))) H) : rEqD K (.ref a) (.ref b) H Q := go_eqD (dp_ints h) (dp_ints h') (shaped_ints l) (shaped_ints m) (by rw [eqv_ints]; exact k)
theorem go_neL (h : SqL K H a (l.map V.int)) (h' : SqL K H b (m.map V.int)) (k : Q (.bl (!decide (l = m))) H) : rNeD K (.ref a) (.ref b) H Q := go_neD (dp_ints h) (dp_ints h') (shaped_ints l) (shaped_ints m) (by rw [eqv_ints]; exact k)
end
/-- rows as data -/
def iN (r : List Nat) : List Int := r.map fun x : Nat => (x : Int)
def dR (rs : List (List Nat)) : PyData := .list (rs.map fun r => dI (iN r))
theorem iN_inj : ∀ {r s : List Nat}, iN r = iN s → r = s
  | [], [], _ => rfl
  | [], _ :: _, h => by simp [iN] at h
  | _ :: _, [], h => by simp [iN] at h
  | x :: r, y :: s, h => by
    unfold iN at h
    rw [List.map_cons, List.map_cons] at h
    injection h with h1 h2
    have e : x = y := by omega
    rw [e, iN_inj (r := r) (s := s) h2]
theorem dpAll_rows {K : PySem.W.Frag} {H : Hp} : ∀ (xs : List V) (rs : List (List Nat)), xs.length = rs.length → (∀ k, k < rs.length → ∃ p, xs[k]? = some (.ref p) ∧ SqL K H p (nv (rs.getD k []))) → DpAll K H xs (rs.map fun r => dI (iN r))
  | [], [], _, _ => .nil
  | [], _ :: _, h, _ => by simp at h
  | _ :: _, [], h, _ => by simp at h
  | x :: xs, r :: rs, h, hk => by
    obtain ⟨p, e, hp⟩ := hk 0 (by simp)
    have e : x = .ref p := by simpa using e
    subst e
    refine .cons (dp_ints (l := iN r) (by rw [nv_iv] at hp; exact hp)) (dpAll_rows xs rs (by simpa using h) fun k hlt => ?_)
    obtain ⟨q, e2, hq⟩ := hk (k + 1) (by simp; omega)
    exact ⟨q, by simpa using e2, by simpa using hq⟩
theorem RowsAt.dp {K : PySem.W.Frag} {H : Hp} {a : Addr} {rs : List (List Nat)} (h : RowsAt K H a rs) : Dp K H (.ref a) (dR rs) := by
  obtain ⟨xs, h1, h2, h3⟩ := h
  exact .lst h1 (dpAll_rows xs rs h2 h3)
theorem lay_rows : ∀ rs : List (List Nat), PyData.canLayAll0 (rs.map fun r => dI (iN r)) = true
  | [] => by simp [PyData.canLayAll0]
  | r :: rs => by
    have h : PyData.canLay0 (dI (iN r)) = true := by simp only [dI, PyData.canLay0]; exact lay_ints _
    simp [PyData.canLayAll0, h, lay_rows rs]
theorem depth_rows : ∀ rs : List (List Nat), PyData.depthAll (rs.map fun r => dI (iN r)) ≤ 2
  | [] => by simp [PyData.depthAll]
  | r :: rs => by
    have h1 := depth_rows rs
    have h2 : PyData.depth (dI (iN r)) ≤ 2 := by
      have := depth_ints (iN r)
      simp only [dI, PyData.depth]
      omega
    simp only [List.map_cons, PyData.depthAll]
    omega
theorem shaped_rows (rs : List (List Nat)) : SeqAt.shaped (dR rs) = true := by
  have h1 := depth_rows rs
  have h2 : PyData.depth (dR rs) ≤ 64 := by
    simp only [dR, PyData.depth]
    omega
  show (PyData.canLay0 (dR rs) && decide (PyData.depth (dR rs) ≤ 64)) = true
  rw [Bool.and_eq_true]
  exact ⟨by simp only [dR, PyData.canLay0]; exact lay_rows rs, decide_eq_true h2⟩
theorem eqvAll_rows : ∀ l m : List (List Nat), PyData.eqvAll (l.map fun r => dI (iN r)) (m.map fun r => dI (iN r)) = decide (l = m)
  | [], [] => by simp [PyData.eqvAll]
  | [], _ :: _ => by simp [PyData.eqvAll]
  | _ :: _, [] => by simp [PyData.eqvAll]
  | x :: l, y :: m => by
    rw [List.map_cons, List.map_cons, PyData.eqvAll, eqvAll_rows l m, eqv_ints, Bool.eq_iff_iff, Bool.and_eq_true, decide_eq_true_eq, decide_eq_true_eq, decide_eq_true_eq]
    constructor
    · rintro ⟨h1, h2⟩
      rw [iN_inj h1, h2]
    · intro h
      injection h with h1 h2
      exact ⟨by rw [h1], h2⟩
theorem eqv_rows (l m : List (List Nat)) : PyData.eqv (dR l) (dR m) = decide (l = m) := by
  unfold dR
  rw [PyData.eqv]
  exact eqvAll_rows l m
section
variable {K : PySem.W.Frag} {H : Hp} {Q : VK} {a b : Addr} {l m : List (List Nat)}
theorem go_eqR (h : RowsAt K H a l) (h' : RowsAt K H b m) (k : Q (.bl (decide (l = m))) H) : rEqD K (.ref a) (.ref b) H Q := go_eqD h.dp h'.dp (shaped_rows l) (shaped_rows m) (by rw [eqv_rows]; exact k)
theorem go_neR (h : RowsAt K H a l) (h' : RowsAt K H b m) (k : Q (.bl (!decide (l = m))) H) : rNeD K (.ref a) (.ref b) H Q := go_neD h.dp h'.dp (shaped_rows l) (shaped_rows m) (by rw [eqv_rows]; exact k)
end
theorem rows_nil {K : PySem.W.Frag} {H : Hp} {a : Addr} (h : SqL K H a []) : RowsAt K H a [] := ⟨[], h, rfl, fun k hk => absurd hk (by simp)⟩
/-! ### the place of a thing in a row -/
theorem ix_first : ∀ {r : List Nat} {a m b : Nat}, m < r.idxOf a → r[m]? = some b → b ≠ a
  | [], a, m, b, h, e => by simp at e
  | x :: r, a, m, b, h, e => by
    rw [List.idxOf_cons] at h
    by_cases hx : x = a
    · subst hx
      simp at h
    · have hb : (x == a) = false := beq_eq_false_iff_ne.mpr hx
      rw [hb] at h
      cases m with
      | zero =>
        have e : x = b := by simpa using e
        rw [← e]
        exact hx
      | succ m =>
        have e : r[m]? = some b := by simpa using e
        exact ix_first (r := r) (m := m) (by simpa using h) e
section
variable {K : PySem.W.Frag} {H : Hp} {Q : VK} {a : Addr} {r : List Nat} {x : Int}
theorem go_ixN (h : SqL K H a (nv r)) (hx : inN r x = true) (k : Q (.int (ixO r x : Nat)) H) : rIndex K (.ref a) [.int x] H Q := by
  obtain ⟨h1, h2, h3⟩ := inN_ix hx
  refine go_ix (n := ixO r x) h rfl (flat_nv r) (nv_get h1) ?_ (fun m z hm e => ?_) k
  · rw [eqV_int, decide_eq_true_eq, h2]
    omega
  · have hml : m < r.length := Nat.lt_trans hm h1
    rw [nv_get hml] at e
    have e : V.int (r.getD m 0 : Nat) = z := Option.some.inj e
    rw [← e, eqV_int, decide_eq_false_iff_not]
    have hne := ix_first (r := r) (a := x.toNat) (m := m) (b := r.getD m 0) hm (by rw [List.getD_eq_getElem?_getD, List.getElem?_eq_getElem hml]; rfl)
    omega
theorem go_nin {y : V} {xs : List V} (h : SqL K H a xs) (hx : flatV y = true) (ha : xs.all flatV = true) (k : Q (.bl (!inV y xs)) H) : rIn K true y (.ref a) H Q := go_in h hx ha k
theorem go_isin {y : V} {xs : List V} (h : SqL K H a xs) (hx : flatV y = true) (ha : xs.all flatV = true) (k : Q (.bl (inV y xs)) H) : rIn K false y (.ref a) H Q := go_in h hx ha k
theorem go_isinT {y : V} {xs : List V} (h : SqT K H a xs) (hx : flatV y = true) (ha : xs.all flatV = true) (k : Q (.bl (inV y xs)) H) : rIn K false y (.ref a) H Q := go_inT h hx ha k
end
/-- the odd places below n -/
theorem size_odd (n : Nat) : Builtin.Range.rangeSize 1 (n : Int) 2 = ((n / 2 : Nat) : Int) := by
  unfold Builtin.Range.rangeSize
  simp only [show ((2 : Int) > 0) by decide, if_true]
  split <;> omega
theorem fits {z : Int} (h1 : -100002 ≤ z) (h2 : z ≤ 100002) : Builtin.Range.rangeFitsLong z = true := by
  unfold Builtin.Range.rangeFitsLong
  rw [Bool.and_eq_true, decide_eq_true_eq, decide_eq_true_eq]
  omega
theorem rg_odd {n : Nat} (hn : n ≤ 100000) : RgC 1 (n : Int) 2 (n / 2) := by
  refine ⟨by decide, by decide, ?_, size_odd n⟩
  unfold Builtin.Range.small
  rw [size_odd, fits (z := 1) (by decide) (by decide), fits (z := (n : Int)) (by omega) (by omega), fits (z := 2) (by decide) (by decide), fits (z := ((n / 2 : Nat) : Int)) (by omega) (by omega), if_pos (by decide), fits (z := (n : Int) + (2 - 1)) (by omega) (by omega), Bool.or_true]
  rfl
end Ed

/-! Fields of objects; lists of truths. -/
namespace Ed
open PySem L2 Deal
theorem not_tt {b : Bool} (h : (!b) = true) : b = false := by cases b with | true => cases h | false => rfl
theorem not_ff {b : Bool} (h : (!b) = false) : b = true := by cases b with | true => rfl | false => cases h
theorem lk_eq {x : Str} {v : V} {r : List (Str × V)} : List.lookup x ((x, v) :: r) = some v := by simp [List.lookup]
theorem lk_ne {x y : Str} {v : V} {r : List (Str × V)} (h : ¬ x = y) : List.lookup x ((y, v) :: r) = List.lookup x r := by
  have e : (x == y) = false := beq_eq_false_iff_ne.mpr h
  simp [List.lookup, e]
theorem lk_nil {x : Str} : List.lookup x ([] : List (Str × V)) = none := rfl
theorem pf_nil {x : Str} {v : V} : putF x v [] = [(x, v)] := rfl
theorem pf_eq {x : Str} {v u : V} {r : List (Str × V)} : putF x v ((x, u) :: r) = (x, v) :: r := by
  show (if x = x then _ else _) = _
  rw [if_pos rfl]
theorem pf_ne {x y : Str} {v u : V} {r : List (Str × V)} (h : ¬ y = x) : putF x v ((y, u) :: r) = (y, u) :: putF x v r := by
  show (if y = x then _ else _) = _
  rw [if_neg h]
theorem sq_bls {K : PySem.W.Frag} {H : Hp} {D : Addr} {n : Nat} {f : Nat → Bool} (h : H D = some (.lst ((List.range n).map fun i => V.bl (f i)))) : SqL K H D (((List.range n).map f).map V.bl) := by
  rw [List.map_map]
  exact sqL_of h
theorem in01 (z : Int) : inV (.int z) [.int 0, .int 1] = is01 z := by
  unfold inV is01
  rw [List.any_cons, List.any_cons, List.any_nil, eqV_int, eqV_int, Bool.or_false]
  have e0 : decide ((0 : Int) = z) = decide (z = 0) := by rw [Bool.eq_iff_iff, decide_eq_true_eq, decide_eq_true_eq]; omega
  have e1 : decide ((1 : Int) = z) = decide (z = 1) := by rw [Bool.eq_iff_iff, decide_eq_true_eq, decide_eq_true_eq]; omega
  rw [e0, e1]
/-- one field, two fields -/
def f1 (x : Str) (l : Addr) : List (Str × V) := [(x, .ref l)]
def f2 (x y : Str) (l m : Addr) : List (Str × V) := [(x, .ref l), (y, .ref m)]
theorem f1_at {x : Str} {l : Addr} : (f1 x l).lookup x = some (.ref l) := lk_eq
theorem f2_fst {x y : Str} {l m : Addr} : (f2 x y l m).lookup x = some (.ref l) := lk_eq
theorem f2_snd {x y : Str} {l m : Addr} (h : ¬ y = x) : (f2 x y l m).lookup y = some (.ref m) := (lk_ne h).trans lk_eq
theorem f1_no {x z : Str} {l : Addr} (h : ¬ z = x) : (f1 x l).lookup z = none := lk_ne h
theorem f2_no {x y z : Str} {l m : Addr} (h : ¬ z = x) (h' : ¬ z = y) : (f2 x y l m).lookup z = none := (lk_ne h).trans (lk_ne h')
theorem getD_last {xs : List Int} {z : Int} : (xs ++ [z]).getD ((xs ++ [z]).length - 1) 0 = z := by simp
theorem at_last {d : List Int} (h : d ≠ []) : atI (d.map V.int) (-1) = some (.int (d.getD (d.length - 1) 0)) := by
  obtain ⟨l, z, rfl⟩ : ∃ l z, d = l ++ [z] := by
    rcases List.eq_nil_or_concat d with e | ⟨l, a, e⟩
    · exact absurd e h
    · exact ⟨l, a, by simpa using e⟩
  rw [getD_last, List.map_append]
  exact atI_last _ _
theorem rows0 {K : PySem.W.Frag} {H : Hp} {a : Addr} {rs : List (List Nat)} (h : RowsAt K H a rs) (h0 : 0 < rs.length) : ∃ xs p, SqL K H a xs ∧ xs.length = rs.length ∧ atI xs 0 = some (.ref p) ∧ SqL K H p (nv (rs.getD 0 [])) := by
  obtain ⟨xs, h1, h2, h3⟩ := h
  obtain ⟨p, e, hp⟩ := h3 0 h0
  exact ⟨xs, p, h1, h2, at_of (j := 0) rfl e, hp⟩
/-- all but x as it was -/
def But (x : Addr) (H H' : Hp) : Prop := ∀ b o, H b = some o → b ≠ x → H' b = some o
theorem But.same {x : Addr} {H H1 H2 : Hp} (s : Same H H1) (h : H x = none) (b : But x H1 H2) : Same H H2 := fun c o e => b c o (s c o e) (ne_of_none e h)
theorem Same.nil {H H' : Hp} (s : Same H H') {p : Addr} (h : H' p = none) : H p = none := s.free h
end Ed

/-! The rules whose readings name the written part, with that part given by its name (for a comprehension's block). -/
namespace Ed
open PySem L2 Deal
section
variable {X : Cx} {e o value tg : Expr} {f : Str} {pos pos' apos cpos : Pos} {ta tv te to : TE} {t : TA} {es : List Expr} {T id : String} {name : Str} {r : V → List V → Hp → VK → Prop}
theorem ixl (K : PySem.W.Frag) (h : X.K = K := by rfl) : IxR X (rIxL K) := by subst h; exact ix_list
theorem ixt (K : PySem.W.Frag) (h : X.K = K := by rfl) : IxR X (rIxT K) := by subst h; exact ix_tup
theorem cLen (K : PySem.W.Frag) (h : X.K = K := by rfl) : CallR X (.builtin "len") (rLen K) := by subst h; exact c_len
theorem cList (K : PySem.W.Frag) (h : X.K = K := by rfl) : CallR X (.type "list") (rLst K) := by subst h; exact c_list
theorem cAll (K : PySem.W.Frag) (hc : X.calm = true := by rfl) (h : X.K = K := by rfl) : CallR X (.builtin "all") (rAll K) := by subst h; exact cr_all hc
theorem cAny (K : PySem.W.Frag) (hc : X.calm = true := by rfl) (h : X.K = K := by rfl) : CallR X (.builtin "any") (rAny K) := by subst h; exact cr_any hc
theorem cSum (K : PySem.W.Frag) (hc : X.calm = true := by rfl) (h : X.K = K := by rfl) : CallR X (.builtin "sum") (rSum K) := by subst h; exact cr_sum hc
theorem cSorted (K : PySem.W.Frag) (h : X.K = K := by rfl) : CallR X (.builtin "sorted") (rSortedI K) := by subst h; exact cr_sortedI
theorem cIsi (K : PySem.W.Frag) (h : X.K = K := by rfl) : CallR X (.builtin "isinstance") (rIsi K) := by subst h; exact call_isi
theorem oEqD (K : PySem.W.Frag) (hu : X.A.units + 64 < cLine) (h : X.K = K := by rfl) : OpR X (compareOp .Eq) (rEqD K) := by subst h; exact op_eqD hu
theorem oNeD (K : PySem.W.Frag) (hu : X.A.units + 64 < cLine) (h : X.K = K := by rfl) : OpR X (compareOp .NotEq) (rNeD K) := by subst h; exact op_neD hu
theorem oIn (K : PySem.W.Frag) (h : X.K = K := by rfl) : OpR X (compareOp .In) (rIn K false) := by subst h; exact op_in_seq
theorem oNotIn (K : PySem.W.Frag) (h : X.K = K := by rfl) : OpR X (compareOp .NotIn) (rIn K true) := by subst h; exact op_notIn_seq
theorem slL (K : PySem.W.Frag) (h : X.K = K := by rfl) : SlR X (rSlL K) := by subst h; exact sl_list
theorem mIndex (K : PySem.W.Frag) (h : X.K = K := by rfl) : MtR X "list.index" (rIndex K) := by subst h; exact mt_index
theorem eFld (K : PySem.W.Frag) (he : PE X e ta) (hb : attributeBase e f X.env (eval e X.env) = eval e X.env := by rfl) (h : X.K = K := by rfl) : PE X (.Attribute e f pos) (tFld K ta f) := by subst h; exact pe_fld he hb
theorem sFldS (K : PySem.W.Frag) (ha : PE X o ta) (hv : PE X value tv) (hs : swapsWith value (some (.Attribute o f pos')) pos.line X.env = pure false := by rfl) (h : X.K = K := by rfl) : PS X (.Assign [.Attribute o f pos'] value pos) (sFld K ta tv f) := by subst h; exact ps_fld ha hv hs
theorem eRev (K : PySem.W.Frag) {k : Nat} {p1 p2 p3 pos : Pos} (he : PE X e te) (h : X.K = K := by rfl) : PE X (.Subscript e (.Slice none none (some (.UnaryOp .USub (.Constant (.int 1) k p1) p2)) p3) pos) (tRevL K te) := by subst h; exact pe_revL he
theorem eBm0 (K : PySem.W.Frag) (pa : PlainAttrs T) (slot : Slot T name id) (hty : typeOf (.builtin id) = pure (.type "method_descriptor")) (hm : MtR X id r) (ho : PE X o to)
    (hbase : attributeBase o name X.env (eval o X.env) = eval o X.env := by rfl) (hline : (apos.endLine == cpos.line) = true := by rfl) (h : X.K = K := by rfl) : PE X (.Call (.Attribute o name apos) [] [] cpos) (tBM0 K T r to) := by subst h; exact pe_bm0 pa slot hty hm ho hbase hline
theorem eBm (K : PySem.W.Frag) (pa : PlainAttrs T) (slot : Slot T name id) (hty : typeOf (.builtin id) = pure (.type "method_descriptor")) (hm : MtR X id r) (ho : PE X o to) (ha : PA X (e :: es) t) (hbase : attributeBase o name X.env (eval o X.env) = eval o X.env := by rfl) (hfew : ((backTo cpos (starEach (e :: es) X.env)).all (fun x => !x.1) && (backToKw cpos (keywordEach [] X.env)).all (fun x => x.1.isSome) && decide ((e :: es).length + ([] : List Keyword).length + (if ([] : List Keyword).isEmpty then 0 else 1) < 30)) = true := by rfl) (hline : (apos.endLine == cpos.line) = true := by rfl) (hs : starEach (e :: es) X.env = (false, eval e X.env) :: starEach es X.env := by rfl) (hplain : (backTo cpos (starEach es X.env)).any (·.1) = false := by rfl) (h : X.K = K := by rfl) : PE X (.Call (.Attribute o name apos) (e :: es) [] cpos) (tBM K T r to t) := by
  subst h
  exact pe_bm pa slot hty hm ho ha hbase hfew hline hs hplain
theorem iLst (K : PySem.W.Frag) {l : Expr} {tl : TE} (hl : PE X l tl) (h : X.K = K := by rfl) : PI X tg l (iList K tl) := by subst h; exact pi_list hl
theorem iTpl (K : PySem.W.Frag) {l : Expr} {tl : TE} (hl : PE X l tl) (h : X.K = K := by rfl) : PI X tg l (iTup K tl) := by subst h; exact pi_tup hl
theorem iEnm (K : PySem.W.Frag) {e : Expr} {ta : TA} {p pos tpos : Pos} {elts : List Expr} {kk : Nat} (hg : Gl X "enumerate") (hm : X.mg "enumerate" = none) (ha : PA X [e] ta) (hs : starEach [e] X.env = [(false, eval e X.env)] := by rfl) (h : X.K = K := by rfl) :
    PI X (.Tuple elts kk tpos) (.Call (.Name "enumerate" p) [e] [] pos) (iEnum K ta) := by subst h; exact pi_enum hg hm ha hs
theorem iZp (K : PySem.W.Frag) {e e2 : Expr} {ta : TA} {p pos tpos : Pos} {elts : List Expr} {kk : Nat} (hg : Gl X "zip") (hm : X.mg "zip" = none) (ha : PA X [e, e2] ta)
    (hs : starEach [e, e2] X.env = (false, eval e X.env) :: starEach [e2] X.env := by rfl) (hpl : (backTo pos (starEach [e2] X.env)).any (·.1) = false := by rfl) (h : X.K = K := by rfl) :
    PI X (.Tuple elts kk tpos) (.Call (.Name "zip" p) [e, e2] [] pos) (iZip K ta) := by subst h; exact pi_zip hg hm ha hs hpl
theorem gTpl (K : PySem.W.Frag) {es : List Expr} {k : Nat} {t : TGs} {n : Nat} (hc : X.calm = true) (h : PGs X es t)
    (hn : (assignEach es X.env).length = n := by rfl) (hst : (assignEach es X.env).findIdx? (·.1) = none := by rfl) (hK : X.K = K := by rfl) : PG X (.Tuple es k pos) (gTup K n t) := by subst hK; exact pg_tup hc h hn hst
end
end Ed

/-! Types of lists; sorted rows; how ties and the walk lie. -/
namespace Ed
open PySem L2 Deal
theorem sq_ty {K : PySem.W.Frag} {H : Hp} {a : Addr} {xs : List V} (h : SqL K H a xs) : TyX K H (.ref a) (.type "list") := by
  rcases h with (h | ⟨o, h⟩) | ⟨o, its, n, h1, h2, _⟩
  · exact .base (.lst h)
  · exact .base (.frz h)
  · exact .kList h1 h2
section
variable {K : PySem.W.Frag} {H : Hp} {Q : VK} {a : Addr}
theorem go_sorted {ns : List Int} (h : SqL K H a (ns.map V.int)) (k : ∀ (ns' : List Int) p H', ns'.Perm ns → ns'.Pairwise (· ≤ ·) → H p = none → Same H H' → H' p = some (.lst (ns'.map V.int)) → Q (.ref p) H') : rSortedI K [.ref a] H Q :=
  ⟨a, ns, rfl, h, fun ns' p h1 h2 hp => k ns' p _ h1 h2 hp (same_new hp) upd_same⟩
end
/-- two sorted lists of the same numbers are one -/
theorem sorted_one : ∀ {l m : List Int}, l.Perm m → l.Pairwise (· ≤ ·) → m.Pairwise (· ≤ ·) → l = m
  | [], m, h, _, _ => (List.nil_perm.mp h).symm
  | x :: l, [], h, _, _ => absurd (List.perm_nil.mp h) (by simp)
  | x :: l, y :: m, h, hl, hm => by
    have e : x = y := by
      have h1 : x ∈ y :: m := h.mem_iff.mp (by simp)
      have h2 : y ∈ x :: l := h.mem_iff.mpr (by simp)
      rcases List.mem_cons.mp h1 with e | h1
      · exact e
      · rcases List.mem_cons.mp h2 with e | h2
        · exact e.symm
        · have a1 := (List.pairwise_cons.mp hm).1 x h1
          have a2 := (List.pairwise_cons.mp hl).1 y h2
          omega
    subst e
    rw [sorted_one ((List.perm_cons x).mp h) (List.pairwise_cons.mp hl).2 (List.pairwise_cons.mp hm).2]
theorem range_sorted : ∀ n : Nat, (iN (List.range n)).Pairwise (· ≤ ·) := fun n => by
  unfold iN
  rw [List.pairwise_map]
  exact List.Pairwise.imp (fun h => by omega) List.pairwise_lt_range
theorem rg_iN (n : Nat) : rgV 0 (n : Int) = (iN (List.range n)).map V.int := by
  unfold rgV iN
  rw [List.map_map]
  have e : ((n : Int) - 0).toNat = n := by omega
  rw [e]
  apply List.map_congr_left
  intro i _
  show V.int (0 + (i : Int)) = V.int (i : Int)
  rw [Int.zero_add]
/-! ### tables -/
def tab (n : Nat) (f : Nat → V) : List V := (List.range n).map f
theorem tab_len {n : Nat} {f : Nat → V} : (tab n f).length = n := by simp [tab]
theorem tab_get {n : Nat} {f : Nat → V} {i : Nat} (h : i < n) : (tab n f)[i]? = some (f i) := by
  unfold tab
  rw [List.getElem?_map, List.getElem?_range h]
  rfl
theorem tab_at {n : Nat} {f : Nat → V} {i : Nat} {z : Int} (e : z = (i : Int)) (h : i < n) : atI (tab n f) z = some (f i) := by
  rw [e]
  exact atI_nat (tab_get h)
theorem tab_set {n : Nat} {f : Nat → V} {i : Nat} {v : V} (h : i < n) : (tab n f).set i v = tab n (fset f i v) := by
  apply List.ext_getElem?
  intro j
  by_cases e : i = j
  · subst e
    rw [List.getElem?_set_self (by rw [tab_len]; exact h), tab_get h, fset_same]
  · rw [List.getElem?_set_ne e]
    by_cases hj : j < n
    · rw [tab_get hj, tab_get hj, fset_ne (fun z => e z.symm)]
    · rw [List.getElem?_eq_none (by rw [tab_len]; omega), List.getElem?_eq_none (by rw [tab_len]; omega)]
theorem ix_nat {n i : Nat} (h : i < n) : ixN n (i : Int) = some i := by
  unfold ixN
  rw [if_pos (by omega), if_pos (by omega)]
  simp
/-! ### a comprehension that makes things -/
def hide (D : Addr) (H : Hp) : Hp := fun b => if b = D then none else H b
theorem hide_ne {D b : Addr} {H : Hp} (h : b ≠ D) : hide D H b = H b := by unfold hide; rw [if_neg h]
theorem hide_same (D : Addr) (H : Hp) : Same (hide D H) H := fun b o e => by
  unfold hide at e
  by_cases h : b = D
  · rw [if_pos h] at e; cases e
  · rw [if_neg h] at e; exact e
theorem hide_upd {D : Addr} {H H' : Hp} {o : HO} (s : Same H H') : Same (hide D H) (hide D (upd H' D o)) := fun b x e => by
  have hb : b ≠ D := fun z => by unfold hide at e; rw [if_pos z] at e; cases e
  rw [hide_ne hb] at e
  rw [hide_ne hb, upd_ne hb]
  exact s _ _ e
theorem hide_old {D : Addr} {H H' : Hp} (s : Same H H') (h : H D = none) : Same H (hide D H') := fun b o e => by
  rw [hide_ne (ne_of_none e h)]
  exact s _ _ e
theorem hide_mono {D : Addr} {H H' : Hp} (s : Same H H') : Same (hide D H) (hide D H') := fun b x e => by
  have hb : b ≠ D := fun z => by unfold hide at e; rw [if_pos z] at e; cases e
  rw [hide_ne hb] at e
  rw [hide_ne hb]
  exact s _ _ e
section
variable {σ : L2.St} {H : Hp} {Q : VK} {te : TE} {tt : TT} {g : TG} {vs : List Nat} {J : It} {n : Nat} {G : Hp → Prop} {Y : Nat → Hp → V → Hp → Prop}
theorem go_lcR (w : Walk J n G Y) (hn : n ≤ 100000) (P : Nat → V → Hp → Prop) (hP : ∀ i v H H', Same H H' → P i v H → P i v H') (hG : ∀ H', Same H H' → G H')
    (hs : ∀ D, H D = none → ∀ i x H1 H' (R : VK), i < n → Same H H1 → (∃ l, H1 D = some (.lst l)) → Y i H1 x H' → (∀ v H4, Same H1 H4 → P i v (hide D H4) → R v H4) → g x (wipe σ vs) H' fun σ2 H2 => wipe σ2 vs = wipe σ vs ∧ te σ2 H2 R)
    (k : ∀ D H' xs, H D = none → Same H H' → H' D = some (.lst xs) → xs.length = n → (∀ i, i < n → ∃ v, xs[i]? = some v ∧ P i v H') → Q (.ref D) H') : lcK g tYes te vs σ Q J H := by
  intro D nD
  refine lc_it w (fun i H' => Same H H' ∧ ∃ xs, H' D = some (.lst xs) ∧ xs.length = i ∧ ∀ j, j < i → ∃ v, xs[j]? = some v ∧ P j v (hide D H')) ⟨same_mut (Same.refl _) nD, [], upd_same, rfl, fun j hj => absurd hj (by omega)⟩ (fun i H' _ h => hG H' h.1) ?_ ?_
  · rintro i x H1 H' hi ⟨s, xs, e, hl, hx⟩ y
    refine hs D nD i x H1 H' (fun y H4 => ∃ acc, H4 D = some (.lst acc) ∧ acc.length < sizeLine ∧ (Same H (upd H4 D (.lst (acc ++ [y]))) ∧ ∃ xs, upd H4 D (.lst (acc ++ [y])) D = some (.lst xs) ∧ xs.length = i + 1 ∧ ∀ j, j < i + 1 → ∃ v, xs[j]? = some v ∧ P j v (hide D (upd H4 D (.lst (acc ++ [y])))))) hi s ⟨_, e⟩ y fun v H4 s4 p4 => ?_
    refine ⟨xs, s4 _ _ e, small_lt (by omega), same_mut (s.trans s4) nD, xs ++ [v], upd_same, by simp [hl], fun j hj => ?_⟩
    by_cases ej : j = i
    · subst ej
      exact ⟨v, by rw [List.getElem?_append_right (by omega), hl, Nat.sub_self]; rfl, hP _ _ _ _ (hide_upd (Same.refl _)) p4⟩
    · obtain ⟨u, eu, pu⟩ := hx j (by omega)
      exact ⟨u, by rw [List.getElem?_append_left (by omega)]; exact eu, hP _ _ _ _ (hide_upd s4) pu⟩
  · rintro H' ⟨s, xs, e, hl, hx⟩
    exact k D H' xs nD s e hl fun i hi => by
      obtain ⟨v, ev, pv⟩ := hx i hi
      exact ⟨v, ev, hP _ _ _ _ (hide_same D H') pv⟩
end
/-! ### ties -/
structure TiesM (H : Hp) (F : Addr) (n : Nat) (as : Nat → Addr) (T : Nat → List Tie) : Prop where
  lst : H F = some (.lst (tab n fun i => .ref (as i)))
  inj : ∀ i j, i < n → j < n → as i = as j → i = j
  row : ∀ i, i < n → ∃ qs : List Addr, H (as i) = some (.lst (qs.map V.ref)) ∧ qs.length = (T i).length ∧ ∀ (j : Nat) t, (T i)[j]? = some t → ∃ q, qs[j]? = some q ∧ H q = some (.tup [.int (t.1 : Nat), .int (t.2 : Nat)])
  ne : ∀ i, i < n → as i ≠ F
theorem TiesM.same {H H' : Hp} {F : Addr} {n : Nat} {as : Nat → Addr} {T : Nat → List Tie} (s : Same H H') (h : TiesM H F n as T) : TiesM H' F n as T := by
  refine ⟨s _ _ h.lst, h.inj, fun i hi => ?_, h.ne⟩
  obtain ⟨qs, h1, h2, h3⟩ := h.row i hi
  refine ⟨qs, s _ _ h1, h2, fun j t e => ?_⟩
  obtain ⟨q, e1, e2⟩ := h3 j t e
  exact ⟨q, e1, s _ _ e2⟩
theorem TiesM.add {H : Hp} {F : Addr} {n : Nat} {as : Nat → Addr} {T : Nat → List Tie} (h : TiesM H F n as T) {x : Nat} (hx : x < n) {qs : List Addr} {t : Addr} {y k : Nat} (e : H (as x) = some (.lst (qs.map V.ref))) (hl : qs.length = (T x).length)
    (et : H t = some (.tup [.int (y : Nat), .int (k : Nat)])) : TiesM (upd H (as x) (.lst (qs.map V.ref ++ [.ref t]))) F n as (addT T x (y, k)) := by
  have tup : ∀ q l, H q = some (.tup l) → q ≠ as x := fun q l z => ne_of z e (by intro w; cases w)
  refine ⟨by rw [upd_ne (h.ne x hx).symm]; exact h.lst, h.inj, fun i hi => ?_, h.ne⟩
  by_cases ei : i = x
  · subst ei
    refine ⟨qs ++ [t], by rw [upd_same, List.map_append]; rfl, by unfold addT; rw [fset_same]; simp [hl], fun j u eu => ?_⟩
    unfold addT at eu
    rw [fset_same] at eu
    by_cases hj : j < (T i).length
    · rw [List.getElem?_append_left hj] at eu
      obtain ⟨qs', a1, a2, a3⟩ := h.row i hi
      have eq : qs'.map V.ref = qs.map V.ref := by
        rw [e] at a1
        injection a1 with a1
        injection a1 with a1
        exact a1.symm
      have eq2 : qs' = qs := by
        have := congrArg (List.map fun v => match v with | V.ref a => a | _ => 0) eq
        simpa [List.map_map, Function.comp_def] using this
      subst eq2
      obtain ⟨q, b1, b2⟩ := a3 j u eu
      exact ⟨q, by rw [List.getElem?_append_left (by omega)]; exact b1, by rw [upd_ne (tup _ _ b2)]; exact b2⟩
    · rw [List.getElem?_append_right (by omega)] at eu
      have hj2 : j - (T i).length = 0 := by
        by_cases z : j - (T i).length = 0
        · exact z
        · rw [List.getElem?_eq_none (by simp; omega)] at eu
          cases eu
      rw [hj2] at eu
      have eu : (y, k) = u := by simpa using eu
      subst eu
      exact ⟨t, by rw [List.getElem?_append_right (by omega), hl, hj2]; rfl, by rw [upd_ne (tup _ _ et)]; exact et⟩
  · obtain ⟨qs', a1, a2, a3⟩ := h.row i hi
    have na : as i ≠ as x := fun z => ei (h.inj i x hi hx z)
    refine ⟨qs', by rw [upd_ne na]; exact a1, by unfold addT; rw [fset_ne ei]; exact a2, fun j u eu => ?_⟩
    unfold addT at eu
    rw [fset_ne ei] at eu
    obtain ⟨q, b1, b2⟩ := a3 j u eu
    exact ⟨q, b1, by rw [upd_ne (tup _ _ b2)]; exact b2⟩
/-- not many ties -/
theorem rowT_len {k : Nat} {r : List Nat} {T : Nat → List Tie} {x : Nat} : ∀ m, (rowT k r T m x).length ≤ (T x).length + 2 * m
  | 0 => Nat.le_refl _
  | m + 1 => by
    have h := rowT_len (k := k) (r := r) (T := T) (x := x) m
    have ad : ∀ (U : Nat → List Tie) (z : Nat) (t : Tie), (addT U z t x).length ≤ (U x).length + 1 := fun U z t => by
      unfold addT fset
      split
      · rename_i e
        subst e
        simp
      · omega
    unfold rowT
    have h1 := ad (addT (rowT k r T m) (r.getD (2 * m) 0) (r.getD (2 * m + 1) 0, k)) (r.getD (2 * m + 1) 0) (r.getD (2 * m) 0, k)
    have h2 := ad (rowT k r T m) (r.getD (2 * m) 0) (r.getD (2 * m + 1) 0, k)
    omega
theorem tiesK_len {n : Nat} {rs : List (List Nat)} (G : Good n rs) {x : Nat} : ∀ i, i ≤ rs.length → (tiesK rs i x).length ≤ i * n
  | 0, _ => by simp [tiesK]
  | i + 1, h => by
    have ih := tiesK_len G (x := x) i (by omega)
    have hl := G.len (Good.at_mem (rs := rs) (k := i) (by omega))
    unfold tiesK
    have := rowT_len (k := i) (r := rs.getD i []) (T := tiesK rs i) (x := x) ((rs.getD i []).length / 2)
    rw [hl] at this ⊢
    have e : (i + 1) * n = i * n + n := Nat.succ_mul i n
    omega
/-- rows of a size that is met -/
structure Rw (n : Nat) (rs : List (List Nat)) : Prop where
  G : Good n rs
  ln : n ≤ 1000
  lr : rs.length ≤ 50
theorem Rw.ties {n : Nat} {rs : List (List Nat)} (R : Rw n rs) {x i : Nat} (h : i ≤ rs.length) : (tiesK rs i x).length ≤ 50000 := by
  have h1 := tiesK_len R.G (x := x) i h
  have h2 := R.ln
  have h3 := R.lr
  have : i * n ≤ 50 * 1000 := Nat.mul_le_mul (by omega) h2
  omega
end Ed

/-! How a walk lies. -/
namespace Ed
open PySem L2 Deal
def si : Option Bool → Int
  | none => -1
  | some false => 0
  | some true => 1
def sv (o : Option Bool) : V := .int (si o)
def hi : Option Nat → Int
  | none => -1
  | some h => (h : Int)
def hv (o : Option Nat) : V := .int (hi o)
def av : Option (Nat × Nat) → List V
  | none => [.int (-1), .int (-1)]
  | some (p, k) => [.int (p : Int), .int (k : Int)]
theorem si_neg {o : Option Bool} : si o < 0 ↔ o = none := by
  cases o with
  | none => simp [si]
  | some b => cases b <;> simp [si]
theorem si_inj {o u : Option Bool} (h : si o = si u) : o = u := by
  cases o with
  | none => cases u with
    | none => rfl
    | some c => cases c <;> simp [si] at h
  | some b => cases u with
    | none => cases b <;> simp [si] at h
    | some c => cases b <;> cases c <;> simp_all [si]
theorem si_flip {o : Option Bool} (h : o ≠ none) : 1 - si o = si (flip o) := by
  cases o with
  | none => exact absurd rfl h
  | some b => cases b <;> rfl
def wf (tl sl hl al : Addr) (bv : V) : List (Str × V) := [("ties", .ref tl), ("sides", .ref sl), ("heads", .ref hl), ("ahead", .ref al), ("bar", bv)]
section
variable {tl sl hl al : Addr} {bv cv : V}
theorem wf_ties : (wf tl sl hl al bv).lookup ("ties" : Str) = some (.ref tl) := lk_eq
theorem wf_sides : (wf tl sl hl al bv).lookup ("sides" : Str) = some (.ref sl) := (lk_ne (by decide +kernel)).trans lk_eq
theorem wf_heads : (wf tl sl hl al bv).lookup ("heads" : Str) = some (.ref hl) := (lk_ne (by decide +kernel)).trans ((lk_ne (by decide +kernel)).trans lk_eq)
theorem wf_ahead : (wf tl sl hl al bv).lookup ("ahead" : Str) = some (.ref al) := (lk_ne (by decide +kernel)).trans ((lk_ne (by decide +kernel)).trans ((lk_ne (by decide +kernel)).trans lk_eq))
theorem wf_bar : (wf tl sl hl al bv).lookup ("bar" : Str) = some bv := (lk_ne (by decide +kernel)).trans ((lk_ne (by decide +kernel)).trans ((lk_ne (by decide +kernel)).trans ((lk_ne (by decide +kernel)).trans lk_eq)))
theorem wf_put : putF "bar" cv (wf tl sl hl al bv) = wf tl sl hl al cv := by
  unfold wf
  rw [pf_ne (by decide +kernel), pf_ne (by decide +kernel), pf_ne (by decide +kernel), pf_ne (by decide +kernel), pf_eq]
theorem wf_no {m : Str} (h1 : ¬ m = "ties") (h2 : ¬ m = "sides") (h3 : ¬ m = "heads") (h4 : ¬ m = "ahead") (h5 : ¬ m = "bar") : (wf tl sl hl al bv).lookup m = none := by
  unfold wf
  rw [lk_ne h1, lk_ne h2, lk_ne h3, lk_ne h4, lk_ne h5]
  rfl
theorem wf_made : putF "bar" .non (putF "ahead" (.ref al) (putF "heads" (.ref hl) (putF "sides" (.ref sl) (putF "ties" (.ref tl) [])))) = wf tl sl hl al .non := by
  have d1 : ¬ ("ties" : Str) = "sides" := by decide +kernel
  have d2 : ¬ ("ties" : Str) = "heads" := by decide +kernel
  have d3 : ¬ ("ties" : Str) = "ahead" := by decide +kernel
  have d4 : ¬ ("ties" : Str) = "bar" := by decide +kernel
  have d5 : ¬ ("sides" : Str) = "heads" := by decide +kernel
  have d6 : ¬ ("sides" : Str) = "ahead" := by decide +kernel
  have d7 : ¬ ("sides" : Str) = "bar" := by decide +kernel
  have d8 : ¬ ("heads" : Str) = "ahead" := by decide +kernel
  have d9 : ¬ ("heads" : Str) = "bar" := by decide +kernel
  have d10 : ¬ ("ahead" : Str) = "bar" := by decide +kernel
  rw [pf_nil, pf_ne d1, pf_nil, pf_ne d2, pf_ne d5, pf_nil, pf_ne d3, pf_ne d6, pf_ne d8, pf_nil, pf_ne d4, pf_ne d7, pf_ne d9, pf_ne d10, pf_nil]
  rfl
end
def BarAt (H : Hp) (bv : V) : Option (Nat × Nat × Nat) → Prop
  | none => bv = .non
  | some (a, b, k) => ∃ t, bv = .ref t ∧ H t = some (.tup [.int (a : Nat), .int (b : Nat), .int (k : Nat)])
theorem BarAt.keep {H H' : Hp} {bv : V} {o : Option (Nat × Nat × Nat)} (h : BarAt H bv o) (s : ∀ t l, H t = some (.tup l) → H' t = some (.tup l)) : BarAt H' bv o := by
  cases o with
  | none => exact h
  | some q =>
    obtain ⟨t, e, ht⟩ := h
    exact ⟨t, e, s _ _ ht⟩
/-- a walk at p; Z: all that stays -/
structure WA (C : Addr) (Z H : Hp) (p dx tl sl hl al : Addr) (n : Nat) (as : Nat → Addr) (T : Nat → List Tie) (s : S) : Prop where
  zs : Same Z H
  zp : Z p = none
  z1 : Z sl = none
  z2 : Z hl = none
  z3 : Z al = none
  n12 : sl ≠ hl
  n13 : sl ≠ al
  n23 : hl ≠ al
  ti : TiesM Z tl n as T
  ob : ∃ bv, H p = some (.ins C dx (wf tl sl hl al bv)) ∧ BarAt H bv s.bar
  sd : H sl = some (.lst (tab n fun i => sv (s.sides i)))
  hd : H hl = some (.lst (tab n fun i => hv (s.heads i)))
  ah : ∃ qs : Nat → Addr, H al = some (.lst (tab n fun i => .ref (qs i))) ∧ ∀ i, i < n → H (qs i) = some (.tup (av (s.ahead i)))
section
variable {C : Addr} {Z H H' : Hp} {p dx tl sl hl al : Addr} {n : Nat} {as : Nat → Addr} {T : Nat → List Tie} {s : S}
theorem WA.same (h : WA C Z H p dx tl sl hl al n as T s) (e : Same H H') : WA C Z H' p dx tl sl hl al n as T s := by
  obtain ⟨zs, zp, z1, z2, z3, n12, n13, n23, ti, ⟨bv, ob, ba⟩, sd, hd, qs, a1, a2⟩ := h
  exact ⟨zs.trans e, zp, z1, z2, z3, n12, n13, n23, ti, ⟨bv, e _ _ ob, ba.keep fun t l z => e _ _ z⟩, e _ _ sd, e _ _ hd, qs, e _ _ a1, fun i hi => e _ _ (a2 i hi)⟩
theorem tabS {f : Nat → Option Bool} {i : Nat} {o : Option Bool} (hi : i < n) : (tab n fun j => sv (f j)).set i (sv o) = tab n fun j => sv (fset f i o j) := by
  rw [tab_set hi]
  congr 1
  funext j
  unfold fset
  split <;> rfl
theorem tabH {f : Nat → Option Nat} {i : Nat} {o : Option Nat} (hi : i < n) : (tab n fun j => hv (f j)).set i (hv o) = tab n fun j => hv (fset f i o j) := by
  rw [tab_set hi]
  congr 1
  funext j
  unfold fset
  split <;> rfl
theorem tabR {f : Nat → Addr} {i : Nat} {o : Addr} (hi : i < n) : (tab n fun j => V.ref (f j)).set i (V.ref o) = tab n fun j => V.ref (fset f i o j) := by
  rw [tab_set hi]
  congr 1
  funext j
  unfold fset
  split <;> rfl
theorem WA.setS (h : WA C Z H p dx tl sl hl al n as T s) {i : Nat} (hi : i < n) (o : Option Bool) : WA C Z (upd H sl (.lst ((tab n fun j => sv (s.sides j)).set i (sv o)))) p dx tl sl hl al n as T { s with sides := fset s.sides i o } := by
  obtain ⟨zs, zp, z1, z2, z3, n12, n13, n23, ti, ⟨bv, ob, ba⟩, sd, hd, qs, a1, a2⟩ := h
  have tup : ∀ t l, H t = some (.tup l) → upd H sl (.lst ((tab n fun j => sv (s.sides j)).set i (sv o))) t = some (.tup l) := fun t l z => by rw [upd_ne (ne_of z sd (by intro w; cases w))]; exact z
  exact ⟨same_mut zs z1, zp, z1, z2, z3, n12, n13, n23, ti, ⟨bv, by rw [upd_ne (ne_of ob sd (by intro w; cases w))]; exact ob, ba.keep tup⟩, by rw [upd_same, tabS hi], by rw [upd_ne n12.symm]; exact hd, qs, by rw [upd_ne n13.symm]; exact a1, fun j hj => tup _ _ (a2 j hj)⟩
theorem WA.setH (h : WA C Z H p dx tl sl hl al n as T s) {i : Nat} (hi : i < n) (o : Option Nat) : WA C Z (upd H hl (.lst ((tab n fun j => hv (s.heads j)).set i (hv o)))) p dx tl sl hl al n as T { s with heads := fset s.heads i o } := by
  obtain ⟨zs, zp, z1, z2, z3, n12, n13, n23, ti, ⟨bv, ob, ba⟩, sd, hd, qs, a1, a2⟩ := h
  have tup : ∀ t l, H t = some (.tup l) → upd H hl (.lst ((tab n fun j => hv (s.heads j)).set i (hv o))) t = some (.tup l) := fun t l z => by rw [upd_ne (ne_of z hd (by intro w; cases w))]; exact z
  exact ⟨same_mut zs z2, zp, z1, z2, z3, n12, n13, n23, ti, ⟨bv, by rw [upd_ne (ne_of ob hd (by intro w; cases w))]; exact ob, ba.keep tup⟩, by rw [upd_ne n12]; exact sd, by rw [upd_same, tabH hi], qs, by rw [upd_ne n23.symm]; exact a1, fun j hj => tup _ _ (a2 j hj)⟩
theorem WA.setA (h : WA C Z H p dx tl sl hl al n as T s) {i : Nat} (hi : i < n) {q : Addr} {a b : Nat} (hq : H q = some (.tup [.int (a : Nat), .int (b : Nat)])) {l : List V} (hl' : H al = some (.lst l)) :
    WA C Z (upd H al (.lst (l.set i (.ref q)))) p dx tl sl hl al n as T { s with ahead := fset s.ahead i (some (a, b)) } := by
  obtain ⟨zs, zp, z1, z2, z3, n12, n13, n23, ti, ⟨bv, ob, ba⟩, sd, hd, qs, a1, a2⟩ := h
  have el : l = tab n fun i => .ref (qs i) := by
    rw [a1] at hl'
    injection hl' with e
    injection e with e
    exact e.symm
  subst el
  have tup : ∀ t m, H t = some (.tup m) → upd H al (.lst ((tab n fun i => V.ref (qs i)).set i (.ref q))) t = some (.tup m) := fun t m z => by rw [upd_ne (ne_of z a1 (by intro w; cases w))]; exact z
  refine ⟨same_mut zs z3, zp, z1, z2, z3, n12, n13, n23, ti, ⟨bv, by rw [upd_ne (ne_of ob a1 (by intro w; cases w))]; exact ob, ba.keep tup⟩, by rw [upd_ne n13]; exact sd, by rw [upd_ne n23]; exact hd, fset qs i q, by rw [upd_same, tabR hi], fun j hj => ?_⟩
  by_cases e : j = i
  · subst e
    rw [fset_same]
    show upd H al _ q = some (.tup (av (fset s.ahead j (some (a, b)) j)))
    rw [fset_same]
    exact tup _ _ hq
  · rw [fset_ne e]
    show upd H al _ (qs j) = some (.tup (av (fset s.ahead i (some (a, b)) j)))
    rw [fset_ne e]
    exact tup _ _ (a2 j hj)
theorem WA.setB (h : WA C Z H p dx tl sl hl al n as T s) {t : Addr} {a b k : Nat} (ht : H t = some (.tup [.int (a : Nat), .int (b : Nat), .int (k : Nat)])) {fs : List (Str × V)} (hp : H p = some (.ins C dx fs)) :
    WA C Z (upd H p (.ins C dx (putF "bar" (.ref t) fs))) p dx tl sl hl al n as T { s with bar := some (a, b, k) } := by
  obtain ⟨zs, zp, z1, z2, z3, n12, n13, n23, ti, ⟨bv, ob, ba⟩, sd, hd, qs, a1, a2⟩ := h
  have ef : fs = wf tl sl hl al bv := by
    rw [ob] at hp
    injection hp with e
    injection e with e1 e2 e3
    exact e3.symm
  subst ef
  have tup : ∀ t m, H t = some (.tup m) → upd H p (.ins C dx (putF "bar" (.ref t) (wf tl sl hl al bv))) t = some (.tup m) := fun t m z => by rw [upd_ne (ne_of z ob (by intro w; cases w))]; exact z
  have tup' : ∀ u m, H u = some (.tup m) → upd H p (.ins C dx (putF "bar" (.ref t) (wf tl sl hl al bv))) u = some (.tup m) := fun u m z => by rw [upd_ne (ne_of z ob (by intro w; cases w))]; exact z
  exact ⟨same_mut zs zp, zp, z1, z2, z3, n12, n13, n23, ti, ⟨.ref t, by rw [upd_same, wf_put], t, rfl, tup' _ _ ht⟩, by rw [upd_ne (ne_of sd ob (by intro w; cases w))]; exact sd, by rw [upd_ne (ne_of hd ob (by intro w; cases w))]; exact hd, qs, by rw [upd_ne (ne_of a1 ob (by intro w; cases w))]; exact a1, fun j hj => tup' _ _ (a2 j hj)⟩
/-- another list changes -/
theorem WA.other (h : WA C Z H p dx tl sl hl al n as T s) {w : Addr} {l l' : List V} (hw : H w = some (.lst l)) (zw : Z w = none) (w1 : w ≠ sl) (w2 : w ≠ hl) (w3 : w ≠ al) : WA C Z (upd H w (.lst l')) p dx tl sl hl al n as T s := by
  obtain ⟨zs, zp, z1, z2, z3, n12, n13, n23, ti, ⟨bv, ob, ba⟩, sd, hd, qs, a1, a2⟩ := h
  have tup : ∀ t m, H t = some (.tup m) → upd H w (.lst l') t = some (.tup m) := fun t m z => by rw [upd_ne (ne_of z hw (by intro w; cases w))]; exact z
  exact ⟨same_mut zs zw, zp, z1, z2, z3, n12, n13, n23, ti, ⟨bv, by rw [upd_ne (ne_of ob hw (by intro w; cases w))]; exact ob, ba.keep tup⟩, by rw [upd_ne w1.symm]; exact sd, by rw [upd_ne w2.symm]; exact hd, qs, by rw [upd_ne w3.symm]; exact a1, fun j hj => tup _ _ (a2 j hj)⟩
end
/-! ### few that wait -/
theorem few_of : ∀ (n : Nat) (l : List Nat), l.Nodup → (∀ x ∈ l, x < n) → l.length ≤ n
  | 0, l, _, h => by
    cases l with
    | nil => exact Nat.le_refl _
    | cons x l => exact absurd (h x (by simp)) (by omega)
  | n + 1, l, nd, h => by
    have h1 : (l.erase n).Nodup := nd.erase n
    have h2 : ∀ x ∈ l.erase n, x < n := fun x hx => by
      have hm := List.mem_of_mem_erase hx
      have := h x hm
      have ne : x ≠ n := fun e => by
        subst e
        exact (List.Nodup.not_mem_erase nd) hx
      omega
    have ih := few_of n _ h1 h2
    have hl := List.length_erase (l := l) (a := n)
    split at hl <;> omega
theorem refs_tab {xs : List V} {n : Nat} {P : Nat → Addr → Prop} (hl : xs.length = n) (h : ∀ i, i < n → ∃ v, xs[i]? = some v ∧ ∃ q, v = .ref q ∧ P i q) : ∃ qs : Nat → Addr, xs = tab n (fun i => .ref (qs i)) ∧ ∀ i, i < n → P i (qs i) := by
  refine ⟨fun i => match xs[i]? with | some (.ref q) => q | _ => 0, ?_, fun i hi => ?_⟩
  · apply List.ext_getElem?
    intro i
    by_cases hi : i < n
    · rw [tab_get hi]
      obtain ⟨v, ev, q, eq, _⟩ := h i hi
      subst eq
      simp only [ev]
    · rw [List.getElem?_eq_none (by omega), List.getElem?_eq_none (by rw [tab_len]; omega)]
  · obtain ⟨v, ev, q, eq, hq⟩ := h i hi
    subst eq
    simp only [ev]
    exact hq
theorem TiesM.hide {H : Hp} {F x C dx : Addr} {fs : List (Str × V)} {n : Nat} {as : Nat → Addr} {T : Nat → List Tie} (h : TiesM H F n as T) (hx : H x = some (.ins C dx fs)) : TiesM (Ed.hide x H) F n as T := by
  have k : ∀ b o, H b = some o → (∀ C dx fs, o ≠ .ins C dx fs) → Ed.hide x H b = some o := fun b o e hn => by
    rw [hide_ne (ne_of e hx (hn _ _ _))]
    exact e
  refine ⟨k _ _ h.lst (by intro _ _ _ z; cases z), h.inj, fun i hi => ?_, h.ne⟩
  obtain ⟨qs, h1, h2, h3⟩ := h.row i hi
  refine ⟨qs, k _ _ h1 (by intro _ _ _ z; cases z), h2, fun j t e => ?_⟩
  obtain ⟨q, e1, e2⟩ := h3 j t e
  exact ⟨q, e1, k _ _ e2 (by intro _ _ _ z; cases z)⟩
end Ed

/-! Ends of lists, slices, tables of sides. -/
namespace Ed
open PySem L2 Deal
theorem nv_app (a b : List Nat) : nv (a ++ b) = nv a ++ nv b := by unfold nv; rw [List.map_append]
theorem nv_cons (a : Nat) (b : List Nat) : nv (a :: b) = .int (a : Int) :: nv b := rfl
theorem nv_snoc (a : List Nat) (b : Nat) : nv (a ++ [b]) = nv a ++ [.int (b : Int)] := by rw [nv_app]; rfl
theorem nv_drop (a : List Nat) : nv a.dropLast = (nv a).dropLast := by unfold nv; rw [List.map_dropLast]
theorem nv_rev (a : List Nat) : nv a.reverse = (nv a).reverse := by unfold nv; rw [List.map_reverse]
theorem atI_neg {xs : List V} {j k : Nat} {v : V} (hk : xs.length = j + k) (hk0 : 0 < k) (h : xs[j]? = some v) : atI xs (-(k : Int)) = some v := by
  unfold atI ixN
  rw [if_neg (by omega), if_pos (by omega)]
  show xs[(-(k : Int) + (xs.length : Int)).toNat]? = some v
  have e : (-(k : Int) + (xs.length : Int)).toNat = j := by omega
  rw [e]
  exact h
theorem nv_last {l : List Nat} {y : Nat} : atI (nv (l ++ [y])) (-1) = some (.int (y : Int)) := by
  rw [nv_snoc]
  exact atI_last _ _
theorem nv_second {l : List Nat} (h : 1 < l.length) : atI (nv l) (-2) = some (.int (l.getD (l.length - 2) 0 : Nat)) := by
  exact atI_neg (j := l.length - 2) (k := 2) (by rw [nv_len]; omega) (by decide) (nv_get (by omega))
theorem cut_last (xs : List V) : cutV xs none (some (-1)) = xs.dropLast := by
  unfold cutV HT.sIx
  simp only [show ((-1 : Int) < 0) by decide, if_true, List.drop_zero, Nat.sub_zero]
  have e : (-1 + (xs.length : Int)).toNat = xs.length - 1 := by omega
  rw [e, List.dropLast_eq_take]
theorem cut_to (xs : List V) (k : Nat) : cutV xs none (some (k : Int)) = xs.take k := by
  unfold cutV
  rw [HT.sIx_none, HT.sIx_nat, List.drop_zero, Nat.sub_zero]
  by_cases h : k ≤ xs.length
  · rw [Nat.min_eq_left h]
  · rw [Nat.min_eq_right (by omega), List.take_of_length_le (Nat.le_refl _), List.take_of_length_le (by omega)]
theorem cut_from (xs : List V) (k : Nat) : cutV xs (some (k : Int)) none = xs.drop k := by
  unfold cutV
  rw [HT.sIx_nat, HT.sIx_none]
  by_cases h : k ≤ xs.length
  · rw [Nat.min_eq_left h, List.take_of_length_le (by rw [List.length_drop]; omega)]
  · rw [Nat.min_eq_right (by omega), Nat.sub_self, List.take_zero, List.drop_of_length_le (by omega)]
section
variable {H : Hp} {Q : VK} {a : Addr}
theorem go_popN {l : List Nat} (h : H a = some (.lst (nv l))) (hl : l ≠ []) (k : ∀ v, Q v (upd H a (.lst (nv l.dropLast)))) : rPop (.ref a) [] H Q := by
  have e := split_last hl
  rw [← e, nv_snoc] at h
  exact go_pop h (k _)
end
theorem walk_r0 {n : Nat} : Walk (Itr 0 n) n (fun _ => True) (fun i H x H' => H' = H ∧ x = .int (i : Int)) := walk_range.mono (fun _ h => h) fun i H x H' _ _ y => ⟨y.1, y.2.trans (by show V.int (0 + (i : Int)) = V.int (i : Int); rw [Int.zero_add])⟩
/-- the sides of a finished walk as numbers -/
def dl (n : Nat) (s : S) : List Int := (List.range n).map fun i => si (s.sides i)
theorem dl_len {n : Nat} {s : S} : (dl n s).length = n := by simp [dl]
theorem dl_get {n : Nat} {s : S} {i : Nat} (h : i < n) : (dl n s).getD i 0 = si (s.sides i) := by
  unfold dl
  rw [List.getD_eq_getElem?_getD, List.getElem?_map, List.getElem?_range h]
  rfl
theorem tab_dl {n : Nat} {s : S} : (tab n fun i => sv (s.sides i)) = (dl n s).map V.int := by
  unfold dl tab
  rw [List.map_map]
  rfl
theorem upT_none {s : S} {m y : Nat} (h : s.ahead y = none) : upT s m y = [y] ∧ upP s m y = [] := by
  cases m with
  | zero => exact ⟨rfl, rfl⟩
  | succ m =>
    unfold upT upP
    rw [h]
    exact ⟨rfl, rfl⟩
theorem upT_some {s : S} {m y p k : Nat} (h : s.ahead y = some (p, k)) : upT s (m + 1) y = y :: upT s m p ∧ upP s (m + 1) y = k :: upP s m p := by
  constructor
  · show (match s.ahead y with | none => [y] | some (p, _) => y :: upT s m p) = _
    rw [h]
  · show (match s.ahead y with | none => [] | some (p, k) => k :: upP s m p) = _
    rw [h]
theorem upT_len {s : S} : ∀ m y, (upT s m y).length ≤ m + 1
  | 0, y => Nat.le_refl _
  | m + 1, y => by
    cases h : s.ahead y with
    | none =>
      rw [(upT_none (m := m + 1) h).1]
      simp
    | some pk =>
      rw [(upT_some (m := m) (p := pk.1) (k := pk.2) h).1]
      have := upT_len (s := s) m pk.1
      simp
      omega
theorem mrg_stop {q : Q4} (h : ¬ more q) : ∀ m, mrg m q = q
  | 0 => rfl
  | m + 1 => by
    show (if more q then mrg m (cutQ q) else q) = q
    rw [if_neg h]
theorem mrg_more {q : Q4} (h : more q) (m : Nat) : mrg (m + 1) q = mrg m (cutQ q) := by
  show (if more q then mrg m (cutQ q) else q) = _
  rw [if_pos h]
end Ed

/-! zip of three lists; slices by twos. -/
namespace Ed
open PySem PySem.Spec PyProof.Rows L2 Deal
def Itz3 (K : PySem.W.Frag) (a b c : Addr) : It :=
  ⟨fun i H => ∃ (xs ys zs : List V) (x y z : V), SqL K H a xs ∧ SqL K H b ys ∧ SqL K H c zs ∧ xs[i]? = some x ∧ ys[i]? = some y ∧ zs[i]? = some z,
    fun i H v H' => ∃ T x y z, v = .ref T ∧ H T = none ∧ H' = upd H T (.tup [x, y, z]) ∧ (∀ xs, SqL K H a xs → xs[i]? = some x) ∧ (∀ ys, SqL K H b ys → ys[i]? = some y) ∧ ∀ zs, SqL K H c zs → zs[i]? = some z,
    fun i H => ∃ xs ys zs : List V, SqL K H a xs ∧ SqL K H b ys ∧ SqL K H c zs ∧ i ≤ xs.length ∧ i ≤ ys.length ∧ i ≤ zs.length ∧ (i = xs.length ∨ i = ys.length ∨ i = zs.length)⟩
theorem turn_zip3 {P : Program} {w : World} {K : PySem.W.Frag} {elts : List Expr} {kk : Nat} {tpos : Pos} {a b c z TI TO i1 i2 i3 : Addr} (D : ZipSep3 z TI TO i1 i2 i3 [i1, a] [i2, b] [i3, c]) (n1 : a ≠ i1) (n2 : b ≠ i2) (n3 : c ≠ i3) :
    Turn P w K (.Tuple elts kk tpos) (Itz3 K a b c) [z, TI, TO, i1, i2, i3] z (fun i h => IsZip h z TI TO .none ∧ IsTupOf3 h TI (.ref i1) (.ref i2) (.ref i3) ∧ (∃ x y u, IsTupOf3 h TO x y u) ∧ h.IsListIter i1 a i ∧ h.IsListIter i2 b i ∧ h.IsListIter i3 c i) where
  mem := by simp
  obj := fun i h st d hd => by
    obtain ⟨hz, hTI, ⟨x, y, u, hTO⟩, ⟨o1, e1, _, d1⟩, ⟨o2, e2, _, d2⟩, ⟨o3, e3, _, d3⟩⟩ := st
    have e' : d = z ∨ d = TI ∨ d = TO ∨ d = i1 ∨ d = i2 ∨ d = i3 := by simpa using hd
    rcases e' with q | q | q | q | q | q
    · rw [q]; exact ⟨_, hz, fun v q => nomatch q⟩
    · rw [q]; exact ⟨_, hTI, fun v q => nomatch q⟩
    · rw [q]; exact ⟨_, hTO, fun v q => nomatch q⟩
    · rw [q]; exact ⟨o1, e1, fun v q => by rw [d1] at q; cases q⟩
    · rw [q]; exact ⟨o2, e2, fun v q => by rw [d2] at q; cases q⟩
    · rw [q]; exact ⟨o3, e3, fun v q => by rw [d3] at q; cases q⟩
  keep := fun i h h' st k => by
    obtain ⟨hz, hTI, ⟨x, y, u, hTO⟩, h1, h2, h3⟩ := st
    exact ⟨k z (by simp) _ hz, k TI (by simp) _ hTI, ⟨x, y, u, k TO (by simp) _ hTO⟩, h1.at fun o q => k i1 (by simp) o q, h2.at fun o q => k i2 (by simp) o q, h3.at fun o q => k i3 (by simp) o q⟩
  item := by
    intro X hP hw hK hc i pins s σ H E I hf st hg
    subst hP hw hK
    obtain ⟨hz, hTI, ⟨x0, y0, u0, hTO⟩, h1, h2, h3⟩ := st
    obtain ⟨xs, ys, zs, x, y, zz, hqx, hqy, hqz, hx, hy, hzz⟩ := hg
    obtain ⟨its, rv, p, _⟩ := I.list hqx
    obtain ⟨its2, rv2, p2, _⟩ := I.list hqy
    obtain ⟨its3, rv3, p3, _⟩ := I.list hqz
    obtain ⟨u, hu, ru⟩ := rv.get hx
    obtain ⟨u2, hu2, ru2⟩ := rv2.get hy
    obtain ⟨u3, hu3, ru3⟩ := rv3.get hzz
    have hzl : z < s.heap.objs.size := Heap.lt_size hz
    have hh : X.A.in1.handled = none := I.ok.hd hc
    have lt1 : i < its.toArray.size := by
      rw [List.size_toArray]
      exact (List.getElem?_eq_some_iff.mp hu).1
    have lt2 : i < its2.toArray.size := by
      rw [List.size_toArray]
      exact (List.getElem?_eq_some_iff.mp hu2).1
    have lt3 : i < its3.toArray.size := by
      rw [List.size_toArray]
      exact (List.getElem?_eq_some_iff.mp hu3).1
    refine wpAny_pyNext_zipD3_item D (Draws.list hh i1 a n1 its.toArray) (Draws.list hh i2 b n2 its2.toArray) (Draws.list hh i3 c n3 its3.toArray) hz hTI hTO ⟨h1, p.isList⟩ ⟨h2, p2.isList⟩ ⟨h3, p3.isList⟩ lt1 lt2 lt3 fun w1 w2 w3 h' tk q1 q2 q3 z' TO' h1' h2' h3' hT hsz hk => ?_
    have e1 : w1 = u := by
      have q1 : its.toArray[i]? = some w1 := q1
      rw [List.getElem?_toArray, hu] at q1
      exact (Option.some.inj q1).symm
    have e2 : w2 = u2 := by
      have q2 : its2.toArray[i]? = some w2 := q2
      rw [List.getElem?_toArray, hu2] at q2
      exact (Option.some.inj q2).symm
    have e3 : w3 = u3 := by
      have q3 : its3.toArray[i]? = some w3 := q3
      rw [List.getElem?_toArray, hu3] at q3
      exact (Option.some.inj q3).symm
    subst e1 e2 e3
    refine ⟨_, rfl, wpAny_letOwnedTupleGo_zip (s := { s with heap := h', toks := tk }) z' fun h'' z'' sb => ?_⟩
    have hT2 : h''.get? s.heap.objs.size = some { cls := .type "tuple", data := .seq #[w1, w2, w3] } := (sb.2 _ (Nat.ne_of_gt hzl)).trans hT
    have new : ObjOk X.prog X.w (upd H s.heap.objs.size (.tup [x, y, zz])) h'' s.heap.objs.size (.tup [x, y, zz]) :=
      ⟨by show 3 ≤ sizeLine; decide, [w1, w2, w3], .cons ru (.cons ru2 (.cons ru3 .nil)), ⟨_, hT2, rfl, _, rfl⟩⟩
    have I1 : Inv X pins σ (upd H s.heap.objs.size (.tup [x, y, zz])) { s with heap := h'', toks := tk } :=
      I.turnedNew (t' := tk) (ch := [z, TI, TO, i1, i2, i3]) (fun d o hb q => (sb.2 d (fun q' => hb (by simp [q']))).trans (hk d o (fun q' => hb (by simp [q'])) (fun q' => hb (by simp [q'])) (fun q' => hb (by simp [q'])) (fun q' => hb (by simp [q'])) (fun q' => hb (by simp [q'])) q)) hf (Nat.le_refl _) new
    refine ⟨.ref s.heap.objs.size, _, I1, rfl, ⟨_, x, y, zz, rfl, I.hok.fresh (Nat.le_refl _), rfl, fun l hl => by rw [I.list_inj hl hqx]; exact hx, fun l hl => by rw [I.list_inj hl hqy]; exact hy, fun l hl => by rw [I.list_inj hl hqz]; exact hzz⟩, ⟨z'', ?_, ⟨w1, w2, w3, ?_⟩, ?_, ?_, ?_⟩, fun d hcm => ?_⟩
    · exact (sb.2 _ D.TIz).trans (hk _ _ D.TIz D.TITO D.TIi1 D.TIi2 D.TIi3 hTI)
    · exact (sb.2 _ D.TOz).trans TO'
    · exact h1'.1.at fun o q => (sb.2 _ D.zi1.symm).trans q
    · exact h2'.1.at fun o q => (sb.2 _ D.zi2.symm).trans q
    · exact h3'.1.at fun o q => (sb.2 _ D.zi3.symm).trans q
    · have hlt : d < s.heap.objs.size := by
        have e' : d = z ∨ d = TI ∨ d = TO ∨ d = i1 ∨ d = i2 ∨ d = i3 := by simpa using hcm
        rcases e' with q | q | q | q | q | q
        · rw [q]; exact hzl
        · rw [q]; exact Heap.lt_size hTI
        · rw [q]; exact Heap.lt_size hTO
        · rw [q]; obtain ⟨_, e1, _⟩ := h1; exact Heap.lt_size e1
        · rw [q]; obtain ⟨_, e2, _⟩ := h2; exact Heap.lt_size e2
        · rw [q]; obtain ⟨_, e3, _⟩ := h3; exact Heap.lt_size e3
      rw [upd_ne (Nat.ne_of_lt hlt)]
      exact (hf d hcm).1
  done := by
    intro X hP hw hK hc i pins s σ H E I hf st hg
    subst hP hw hK
    obtain ⟨hz, hTI, ⟨x0, y0, u0, hTO⟩, h1, h2, h3⟩ := st
    obtain ⟨xs, ys, zs, hqx, hqy, hqz, l1, l2, l3, hend⟩ := hg
    obtain ⟨its, rv, p, _⟩ := I.list hqx
    obtain ⟨its2, rv2, p2, _⟩ := I.list hqy
    obtain ⟨its3, rv3, p3, _⟩ := I.list hqz
    have k1 := rv.length
    have k2 := rv2.length
    have k3 := rv3.length
    have hh : X.A.in1.handled = none := I.ok.hd hc
    exact wpAny_pyNext_zipD3_end D (Draws.list hh i1 a n1 its.toArray) (Draws.list hh i2 b n2 its2.toArray) (Draws.list hh i3 c n3 its3.toArray) hz hTI hTO ⟨h1, p.isList⟩ ⟨h2, p2.isList⟩ ⟨h3, p3.isList⟩
      (by rw [List.size_toArray]; omega) (by rw [List.size_toArray]; omega) (by rw [List.size_toArray]; omega) (by rw [List.size_toArray, List.size_toArray, List.size_toArray]; omega) fun h' tk hk => ⟨rfl, I.turnedL (t' := tk) (ch := [z, TI, TO, i1, i2, i3]) (fun d o hb q =>
      hk d o (fun q' => hb (by simp [q'])) (fun q' => hb (by simp [q'])) (fun q' => hb (by simp [q'])) (fun q' => hb (by simp [q'])) (fun q' => hb (by simp [q'])) q) hf⟩
  self := fun A i s Q E st h => wpAny_pyIter_zip st.1 h
def iZip3 (K : PySem.W.Frag) (ta : TA) : TI := fun σ H R => ta σ H fun vs H1 => ∃ a b c xs ys zs, vs = [.ref a, .ref b, .ref c] ∧ SqL K H1 a xs ∧ SqL K H1 b ys ∧ SqL K H1 c zs ∧ R (Itz3 K a b c) H1
theorem pi_zip3 {X : Cx} {e e2 e3 : Expr} {ta : TA} {p pos tpos : Pos} {elts : List Expr} {kk : Nat} (hg : Gl X "zip") (hm : X.mg "zip" = none) (ha : PA X [e, e2, e3] ta)
    (hs : starEach [e, e2, e3] X.env = (false, eval e X.env) :: starEach [e2, e3] X.env := by rfl) (hpl : (backTo pos (starEach [e2, e3] X.env)).any (·.1) = false := by rfl) :
    PI X (.Tuple elts kk tpos) (.Call (.Name "zip" p) [e, e2, e3] [] pos) (iZip3 X.K ta) := by
  refine ⟨fun pins s σ H R I h => ?_⟩
  refine Call_ (ld_blt I hg hm PyProof.Rows.boot_zip (PyProof.Rows.callWith_type1 (thn (ha.run pos pins s σ H _ I h) fun us s1 ⟨vs, H1, I1, r1, q1⟩ => ?_) hs hpl))
  obtain ⟨a, b, c, xs, ys, zs, ex, hqx, hqy, hqz, q⟩ := q1
  subst ex
  cases r1 with
  | cons r rr =>
    cases rr with
    | cons r' rr =>
      cases rr with
      | cons r'' rr =>
        cases rr
        cases r
        cases r'
        cases r''
        obtain ⟨its, rv, p1, _⟩ := I1.list hqx
        obtain ⟨its2, rv2, p2, _⟩ := I1.list hqy
        obtain ⟨its3, rv3, p3, _⟩ := I1.list hqz
        have la : a < s1.heap.objs.size := p1.lt
        have lb : b < s1.heap.objs.size := p2.lt
        have lc : c < s1.heap.objs.size := p3.lt
        refine zip_begins3 (begins_list a its.toArray) (begins_list b its2.toArray) (begins_list c its3.toArray) p1.isList p2.isList p3.isList fun h' hz hTI hTO g1 g2 g3 hsz hk => wpAny_pyIter_zip hz ?_
        have I2 : Inv X pins σ H1 { s1 with heap := h' } := I1.kept (t' := s1.toks) hk
        have sep := zip_sep3 (N := s1.heap.objs.size) (fp1 := [a]) (fp2 := [b]) (fp3 := [c]) (fun d hd => by rw [List.mem_singleton.mp hd]; exact la) (fun d hd => by rw [List.mem_singleton.mp hd]; exact lb) (fun d hd => by rw [List.mem_singleton.mp hd]; exact lc)
        refine ⟨s1.heap.objs.size + 5, [s1.heap.objs.size + 5, s1.heap.objs.size + 3, s1.heap.objs.size + 4, s1.heap.objs.size, s1.heap.objs.size + 1, s1.heap.objs.size + 2], _, _, H1, rfl, I2, turn_zip3 sep (Nat.ne_of_lt la) (Nat.ne_of_lt (Nat.lt_succ_of_lt lb)) (Nat.ne_of_lt (Nat.lt_succ_of_lt (Nat.lt_succ_of_lt lc))), ⟨hz, hTI, ⟨_, _, _, hTO⟩, ⟨_, g1, rfl, rfl⟩, ⟨_, g2, rfl, rfl⟩, ⟨_, g3, rfl, rfl⟩⟩, fun d hcm => ?_, q⟩
        have e' : d = s1.heap.objs.size + 5 ∨ d = s1.heap.objs.size + 3 ∨ d = s1.heap.objs.size + 4 ∨ d = s1.heap.objs.size ∨ d = s1.heap.objs.size + 1 ∨ d = s1.heap.objs.size + 2 := by simpa using hcm
        have hle : s1.heap.objs.size ≤ d := by
          rcases e' with z | z | z | z | z | z
          · rw [z]; exact Nat.le_add_right _ _
          · rw [z]; exact Nat.le_add_right _ _
          · rw [z]; exact Nat.le_add_right _ _
          · rw [z]; exact Nat.le_refl _
          · rw [z]; exact Nat.le_add_right _ _
          · rw [z]; exact Nat.le_add_right _ _
        exact I1.fpOk hle (I1.hok.fresh hle)
end Ed

/-! Every other one of a list. -/
namespace Ed
open PySem PySem.Spec PyProof.Rows L2 Deal
def evr {α : Type} : List α → List α
  | [] => []
  | [x] => [x]
  | x :: _ :: r => x :: evr r
theorem pick2 {α : Type} : ∀ l : List α, ((List.range ((l.length + 1) / 2)).filterMap fun k => l[2 * k]?) = evr l
  | [] => by simp [evr]
  | [x] => by simp [evr]
  | x :: y :: r => by
    have e : ((x :: y :: r).length + 1) / 2 = (r.length + 1) / 2 + 1 := by
      simp only [List.length_cons]
      omega
    rw [e, List.range_succ_eq_map, List.filterMap_cons]
    have ih := pick2 r
    show x :: (List.filterMap (fun k => (x :: y :: r)[2 * k]?) (List.map Nat.succ (List.range ((r.length + 1) / 2)))) = x :: evr r
    rw [List.filterMap_map, ← ih]
    congr 1
theorem fm_congr {α β : Type} {f g : α → Option β} (h : ∀ x, f x = g x) (l : List α) : l.filterMap f = l.filterMap g := by
  rw [show f = g from funext h]
theorem bounds2 (n : Nat) : sliceBounds none none (some 2) n = (0, (n : Int), 2) := rfl
theorem bounds12 (n : Nat) : sliceBounds (some 1) none (some 2) n = (max 0 (min 1 (n : Int)), (n : Int), 2) := rfl
theorem slice2 (items : Array Value) : slicePick items none none (some 2) = (evr items.toList).toArray := by
  unfold slicePick
  rw [bounds2]
  show ((sliceRange 0 (items.size : Int) 2).filterMap (items[·]?)).toArray = _
  have e : sliceRange 0 (items.size : Int) 2 = (List.range ((items.toList.length + 1) / 2)).map fun k => 2 * k := by
    unfold sliceRange
    have h1 : ((2 : Int) > 0) := by decide
    have hc : (if (0 : Int) < (items.size : Int) then ((items.size : Int) - 0 + 2 - 1) / 2 else 0).toNat = (items.toList.length + 1) / 2 := by
      rw [Array.length_toList]
      split <;> omega
    simp only [h1, if_true, hc]
    apply List.map_congr_left
    intro k _
    omega
  rw [e, List.filterMap_map, ← pick2]
  congr 1
  apply fm_congr
  intro k
  simp
theorem slice12 (items : Array Value) : slicePick items (some 1) none (some 2) = (evr (items.toList.drop 1)).toArray := by
  unfold slicePick
  rw [bounds12]
  show ((sliceRange (max 0 (min 1 (items.size : Int))) (items.size : Int) 2).filterMap (items[·]?)).toArray = _
  have e : sliceRange (max 0 (min 1 (items.size : Int))) (items.size : Int) 2 = (List.range (((items.toList.drop 1).length + 1) / 2)).map fun k => 1 + 2 * k := by
    unfold sliceRange
    have h1 : ((2 : Int) > 0) := by decide
    have hc : (if max 0 (min 1 (items.size : Int)) < (items.size : Int) then ((items.size : Int) - max 0 (min 1 (items.size : Int)) + 2 - 1) / 2 else 0).toNat = ((items.toList.drop 1).length + 1) / 2 := by
      rw [List.length_drop, Array.length_toList]
      split <;> omega
    simp only [h1, if_true, hc]
    apply List.map_congr_left
    intro k hk
    have hk := List.mem_range.mp hk
    rw [List.length_drop, Array.length_toList] at hk
    omega
  rw [e, List.filterMap_map, ← pick2]
  congr 1
  apply fm_congr
  intro k
  simp [List.getElem?_drop, Nat.add_comm]
theorem evr_vals : ∀ {xs : List V} {us : List Value}, Vals xs us → Vals (evr xs) (evr us)
  | _, _, .nil => .nil
  | _, _, .cons r .nil => .cons r .nil
  | _, _, .cons r (.cons _ t) => .cons r (evr_vals t)
theorem evr_len {α : Type} : ∀ l : List α, (evr l).length = (l.length + 1) / 2
  | [] => by simp [evr]
  | [x] => by simp [evr]
  | x :: y :: r => by
    show (evr r).length + 1 = ((x :: y :: r).length + 1) / 2
    rw [evr_len r]
    simp only [List.length_cons]
    omega
theorem evr_map {α β : Type} (f : α → β) : ∀ l : List α, evr (l.map f) = (evr l).map f
  | [] => rfl
  | [x] => rfl
  | x :: y :: r => by
    show f x :: evr (r.map f) = f x :: (evr r).map f
    rw [evr_map f r]
theorem evr_perm {α : Type} : ∀ l : List α, (evr l ++ evr (l.drop 1)).Perm l
  | [] => .nil
  | [x] => .refl _
  | x :: y :: r => by
    have ih := evr_perm r
    have e : evr ((x :: y :: r).drop 1) = y :: evr (r.drop 1) := by
      cases r with
      | nil => rfl
      | cons z r => rfl
    rw [e]
    show (x :: (evr r ++ y :: evr (r.drop 1))).Perm (x :: y :: r)
    refine .cons x (List.Perm.trans List.perm_middle (.cons y ih))
section
variable {X : Cx}
/-- xs[::2], xs[1::2] -/
def tStep (K : PySem.W.Frag) (d : Nat) (te : TE) : TE := fun σ H Q => te σ H fun x H1 => ∃ a xs, x = .ref a ∧ SqL K H1 a xs ∧ ∀ p, H1 p = none → Q (.ref p) (upd H1 p (.lst (evr (xs.drop d))))
theorem pe_step0 {e : Expr} {te : TE} {k : Nat} {p1 p3 pos : Pos} (he : PE X e te) : PE X (.Subscript e (.Slice none none (some (.Constant (.int 2) k p1)) p3) pos) (tStep X.K 0 te) := by
  refine ⟨fun pins s σ H Q I h => ?_⟩
  refine Subscript_ (thn (he.run pins s σ H _ I h) fun v s1 ⟨x, H1, I1, r1, q1⟩ => ?_)
  obtain ⟨a, xs, ex, hx, q⟩ := q1
  subst ex
  cases r1
  have hst : PO X (some (.Constant (.int 2) k p1)) (tPart (tC (.int 2))) := po_some pe_int
  refine wpAny_Slice (thn (po_none.run pins s1 σ H1 (fun o H2 => o = none ∧ H2 = H1) I1 ⟨rfl, rfl⟩) fun vl s2 ⟨l, H2, I2, pl, el, e2⟩ => ?_)
  subst el e2
  refine thn (po_none.run pins s2 σ H2 (fun o H3 => o = none ∧ H3 = H2) I2 ⟨rfl, rfl⟩) fun vu s3 ⟨u, H3, I3, pu, eu, e3⟩ => ?_
  subst eu e3
  refine thn (hst.run pins s3 σ H3 (fun o H4 => o = some 2 ∧ H4 = H3) I3 ⟨2, rfl, rfl, rfl⟩) fun vs s4 ⟨o, H4, I4, ps, eo, e4⟩ => ?_
  subst eo e4
  have I5 : Inv X pins σ H4 { s4 with heap := s4.heap.push { cls := .type "slice", data := .fields #[vl, vu, vs] } } := I4.kept (t' := s4.toks) fun b ob q => Heap.get?_push_of_some _ q
  obtain ⟨its, r, ht, hz⟩ := I5.list hx
  have hlen := r.length
  show wpAny (model X.prog X.w) X.A (subscriptTail e (.Slice none none (some (.Constant (.int 2) k p1)) p3) (.ref a) (.ref s4.heap.objs.size)) (EP X pins σ Q) X.xe { s4 with heap := s4.heap.push { cls := .type "slice", data := .fields #[vl, vu, vs] } }
  refine tail_any (ops := [.ref a, .ref s4.heap.objs.size]) ht.isList.typeIs (PySem.slot_list_getitem.lookup) ?_ (by with_unfolding_all rfl)
  refine wpAny_getItem_list_slice ht.isList (Heap.IsSliceOf.new _ vl vu vs) pl pu ps (by decide) ?_ (by rw [List.size_toArray]; omega)
  rw [slice2]
  refine ⟨.ref _, _, I5.laid (t' := s4.toks) (o := .lst (evr (xs.drop 0))) (fun b ob q => Heap.get?_push_of_some _ q) (Nat.le_refl _) ?_, rfl, q _ (I5.hok.fresh (Nat.le_refl _))⟩
  exact ⟨by rw [evr_len, List.length_drop]; omega, _, 0, evr_vals r, Heap.get?_push_size _ rfl⟩
theorem pe_step1 {e : Expr} {te : TE} {k k' : Nat} {p1 p2 p3 pos : Pos} (he : PE X e te) : PE X (.Subscript e (.Slice (some (.Constant (.int 1) k' p2)) none (some (.Constant (.int 2) k p1)) p3) pos) (tStep X.K 1 te) := by
  refine ⟨fun pins s σ H Q I h => ?_⟩
  refine Subscript_ (thn (he.run pins s σ H _ I h) fun v s1 ⟨x, H1, I1, r1, q1⟩ => ?_)
  obtain ⟨a, xs, ex, hx, q⟩ := q1
  subst ex
  cases r1
  have hst : PO X (some (.Constant (.int 2) k p1)) (tPart (tC (.int 2))) := po_some pe_int
  have hlo : PO X (some (.Constant (.int 1) k' p2)) (tPart (tC (.int 1))) := po_some pe_int
  refine wpAny_Slice (thn (hlo.run pins s1 σ H1 (fun o H2 => o = some 1 ∧ H2 = H1) I1 ⟨1, rfl, rfl, rfl⟩) fun vl s2 ⟨l, H2, I2, pl, el, e2⟩ => ?_)
  subst el e2
  refine thn (po_none.run pins s2 σ H2 (fun o H3 => o = none ∧ H3 = H2) I2 ⟨rfl, rfl⟩) fun vu s3 ⟨u, H3, I3, pu, eu, e3⟩ => ?_
  subst eu e3
  refine thn (hst.run pins s3 σ H3 (fun o H4 => o = some 2 ∧ H4 = H3) I3 ⟨2, rfl, rfl, rfl⟩) fun vs s4 ⟨o, H4, I4, ps, eo, e4⟩ => ?_
  subst eo e4
  have I5 : Inv X pins σ H4 { s4 with heap := s4.heap.push { cls := .type "slice", data := .fields #[vl, vu, vs] } } := I4.kept (t' := s4.toks) fun b ob q => Heap.get?_push_of_some _ q
  obtain ⟨its, r, ht, hz⟩ := I5.list hx
  have hlen := r.length
  show wpAny (model X.prog X.w) X.A (subscriptTail e (.Slice (some (.Constant (.int 1) k' p2)) none (some (.Constant (.int 2) k p1)) p3) (.ref a) (.ref s4.heap.objs.size)) (EP X pins σ Q) X.xe { s4 with heap := s4.heap.push { cls := .type "slice", data := .fields #[vl, vu, vs] } }
  refine tail_any (ops := [.ref a, .ref s4.heap.objs.size]) ht.isList.typeIs (PySem.slot_list_getitem.lookup) ?_ (by with_unfolding_all rfl)
  refine wpAny_getItem_list_slice ht.isList (Heap.IsSliceOf.new _ vl vu vs) pl pu ps (by decide) ?_ (by rw [List.size_toArray]; omega)
  rw [slice12]
  refine ⟨.ref _, _, I5.laid (t' := s4.toks) (o := .lst (evr (xs.drop 1))) (fun b ob q => Heap.get?_push_of_some _ q) (Nat.le_refl _) ?_, rfl, q _ (I5.hok.fresh (Nat.le_refl _))⟩
  exact ⟨by rw [evr_len, List.length_drop]; omega, _, 0, evr_vals (r.drop 1), Heap.get?_push_size _ rfl⟩
theorem eStep0 (K : PySem.W.Frag) {e : Expr} {te : TE} {k : Nat} {p1 p3 pos : Pos} (he : PE X e te) (h : X.K = K := by rfl) : PE X (.Subscript e (.Slice none none (some (.Constant (.int 2) k p1)) p3) pos) (tStep K 0 te) := by subst h; exact pe_step0 he
theorem eStep1 (K : PySem.W.Frag) {e : Expr} {te : TE} {k k' : Nat} {p1 p2 p3 pos : Pos} (he : PE X e te) (h : X.K = K := by rfl) : PE X (.Subscript e (.Slice (some (.Constant (.int 1) k' p2)) none (some (.Constant (.int 2) k p1)) p3) pos) (tStep K 1 te) := by subst h; exact pe_step1 he
theorem iZp3 (K : PySem.W.Frag) {e e2 e3 : Expr} {ta : TA} {p pos tpos : Pos} {elts : List Expr} {kk : Nat} (hg : Gl X "zip") (hm : X.mg "zip" = none) (ha : PA X [e, e2, e3] ta)
    (hs : starEach [e, e2, e3] X.env = (false, eval e X.env) :: starEach [e2, e3] X.env := by rfl) (hpl : (backTo pos (starEach [e2, e3] X.env)).any (·.1) = false := by rfl) (h : X.K = K := by rfl) :
    PI X (.Tuple elts kk tpos) (.Call (.Name "zip" p) [e, e2, e3] [] pos) (iZip3 K ta) := by subst h; exact pi_zip3 hg hm ha hs hpl
end
section
variable {K : PySem.W.Frag} {σ : L2.St} {H : Hp} {Q : VK} {te : TE} {ts : TA} {a b c : Addr} {xs ys zs : List V} {R : It → Hp → Prop} {d : Nat}
def stK (K : PySem.W.Frag) (d : Nat) (Q : VK) : VK := fun x H1 => ∃ a xs, x = .ref a ∧ SqL K H1 a xs ∧ ∀ p, H1 p = none → Q (.ref p) (upd H1 p (.lst (evr (xs.drop d))))
theorem go_step (k : te σ H (stK K d Q)) : tStep K d te σ H Q := k
theorem go_stK (h : SqL K H a xs) (k : ∀ p H', H p = none → Same H H' → H' p = some (.lst (evr (xs.drop d))) → Q (.ref p) H') : stK K d Q (.ref a) H := ⟨a, xs, rfl, h, fun p hp => k p _ hp (same_new hp) upd_same⟩
def izK3 (K : PySem.W.Frag) (R : It → Hp → Prop) : List V → Hp → Prop := fun vs H1 => ∃ a b c xs ys zs, vs = [.ref a, .ref b, .ref c] ∧ SqL K H1 a xs ∧ SqL K H1 b ys ∧ SqL K H1 c zs ∧ R (Itz3 K a b c) H1
theorem go_iz3 (k : ts σ H (izK3 K R)) : iZip3 K ts σ H R := k
theorem go_izK3 (h1 : SqL K H a xs) (h2 : SqL K H b ys) (h3 : SqL K H c zs) (k : R (Itz3 K a b c) H) : izK3 K R [.ref a, .ref b, .ref c] H := ⟨a, b, c, xs, ys, zs, rfl, h1, h2, h3, k⟩
/-- a new triple each -/
theorem walk_zip3 {n : Nat} (hn : n = min (min xs.length ys.length) zs.length) : Walk (Itz3 K a b c) n (fun H => SqL K H a xs ∧ SqL K H b ys ∧ SqL K H c zs) (fun i H v H' => ∃ T x y z, v = .ref T ∧ H T = none ∧ H' = upd H T (.tup [x, y, z]) ∧ xs[i]? = some x ∧ ys[i]? = some y ∧ zs[i]? = some z) := by
  subst hn
  refine ⟨fun i _ hi q => ?_, fun _ q => ⟨xs, ys, zs, q.1, q.2.1, q.2.2, by omega, by omega, by omega, by omega⟩, fun i H v H' _ q y => ?_⟩
  · have h1 : i < xs.length := by omega
    have h2 : i < ys.length := by omega
    have h3 : i < zs.length := by omega
    exact ⟨xs, ys, zs, xs[i], ys[i], zs[i], q.1, q.2.1, q.2.2, by simp [h1], by simp [h2], by simp [h3]⟩
  · obtain ⟨T, x, y, z, h1, h2, h3, h4, h5, h6⟩ := y
    exact ⟨T, x, y, z, h1, h2, h3, h4 xs q.1, h5 ys q.2.1, h6 zs q.2.2⟩
end
end Ed

/-! Rows as lists of references; all but one place; small helpers for the laws' own defs. -/
namespace Ed
open PySem L2 Deal
section
variable {K : PySem.W.Frag} {H H' H1 H2 : Hp} {x a b p : Addr} {o : HO} {xs ys : List V} {rs qs : List (List Nat)}
theorem But.seq (t : But x H H') (h : SqL K H a xs) (ne : a ≠ x) : SqL K H' a xs := by
  rcases h with (h | ⟨o, h⟩) | h
  · exact .inl (.inl (t _ _ h ne))
  · exact .inl (.inr ⟨o, t _ _ h ne⟩)
  · exact .inr h
theorem But.upd : But x H (upd H x o) := fun c z e ne => by
  rw [upd_ne ne]
  exact e
theorem But.trans (t : But x H H1) (u : But x H1 H2) : But x H H2 := fun c z e n => u c z (t c z e n) n
theorem same_but (s : Same H H') : But x H H' := fun c z e _ => s c z e
theorem But.hide (t : But x H H') : Same (hide x H) (Ed.hide x H') := fun c z e => by
  have ne : c ≠ x := fun w => by
    unfold Ed.hide at e
    rw [if_pos w] at e
    cases e
  rw [hide_ne ne] at e ⊢
  exact t _ _ e ne
theorem hide_at : hide x H x = none := by
  unfold hide
  rw [if_pos rfl]
theorem hide_in (h : hide x H a = some o) : a ≠ x := fun e => by
  rw [e, hide_at] at h
  cases h
theorem ne_free (h : H a = some o) (h' : H b = none) : a ≠ b := fun e => by
  rw [e, h'] at h
  cases h
/-- rows: references to lists of things -/
inductive RowsV (K : PySem.W.Frag) (H : Hp) : List V → List (List Nat) → Prop where
  | nil : RowsV K H [] []
  | cons {p : Addr} {r : List Nat} {xs : List V} {rs : List (List Nat)} (h : SqL K H p (nv r)) (t : RowsV K H xs rs) : RowsV K H (.ref p :: xs) (r :: rs)
theorem RowsV.same (s : Same H H') : ∀ {xs : List V} {rs : List (List Nat)}, RowsV K H xs rs → RowsV K H' xs rs
  | _, _, .nil => .nil
  | _, _, .cons h t => .cons (s.seq h) (RowsV.same s t)
theorem RowsV.len : ∀ {xs : List V} {rs : List (List Nat)}, RowsV K H xs rs → xs.length = rs.length
  | _, _, .nil => rfl
  | _, _, .cons _ t => by rw [List.length_cons, List.length_cons, RowsV.len t]
theorem RowsV.app : ∀ {xs : List V} {rs : List (List Nat)}, RowsV K H xs rs → RowsV K H ys qs → RowsV K H (xs ++ ys) (rs ++ qs)
  | _, _, .nil, u => u
  | _, _, .cons h t, u => .cons h (RowsV.app t u)
theorem RowsV.rev : ∀ {xs : List V} {rs : List (List Nat)}, RowsV K H xs rs → RowsV K H xs.reverse rs.reverse
  | _, _, .nil => .nil
  | _, _, .cons h t => by
    rw [List.reverse_cons, List.reverse_cons]
    exact RowsV.app (RowsV.rev t) (.cons h .nil)
theorem RowsV.take : ∀ (k : Nat) {xs : List V} {rs : List (List Nat)}, RowsV K H xs rs → RowsV K H (xs.take k) (rs.take k)
  | 0, _, _, _ => by
    rw [List.take_zero, List.take_zero]
    exact .nil
  | k + 1, _, _, .nil => .nil
  | k + 1, _, _, .cons h t => .cons h (RowsV.take k t)
theorem RowsV.drop : ∀ (k : Nat) {xs : List V} {rs : List (List Nat)}, RowsV K H xs rs → RowsV K H (xs.drop k) (rs.drop k)
  | 0, _, _, h => h
  | k + 1, _, _, .nil => .nil
  | k + 1, _, _, .cons _ t => RowsV.drop k t
theorem RowsV.get : ∀ {xs : List V} {rs : List (List Nat)}, RowsV K H xs rs → ∀ k, k < rs.length → ∃ p, xs[k]? = some (.ref p) ∧ SqL K H p (nv (rs.getD k []))
  | _, _, .nil, k, hk => absurd hk (by simp)
  | _, _, .cons (p := p) h t, 0, _ => ⟨p, rfl, h⟩
  | _, _, .cons h t, k + 1, hk => by
    obtain ⟨p, e, hp⟩ := RowsV.get t k (by simpa using hk)
    exact ⟨p, by simpa using e, by simpa using hp⟩
theorem RowsV.of : ∀ {xs : List V} {rs : List (List Nat)}, xs.length = rs.length → (∀ k, k < rs.length → ∃ p, xs[k]? = some (.ref p) ∧ SqL K H p (nv (rs.getD k []))) → RowsV K H xs rs
  | [], [], _, _ => .nil
  | [], _ :: _, h, _ => by simp at h
  | _ :: _, [], h, _ => by simp at h
  | x :: xs, r :: rs, h, hk => by
    obtain ⟨p, e, hp⟩ := hk 0 (by simp)
    have e : x = .ref p := by simpa using e
    subst e
    refine .cons (by simpa using hp) (RowsV.of (by simpa using h) fun k hlt => ?_)
    obtain ⟨q, e2, hq⟩ := hk (k + 1) (by simp; omega)
    exact ⟨q, by simpa using e2, by simpa using hq⟩
theorem RowsV.at (h : SqL K H a xs) (t : RowsV K H xs rs) : RowsAt K H a rs := ⟨xs, h, t.len, t.get⟩
theorem RowsAt.v (h : RowsAt K H a rs) : ∃ xs, SqL K H a xs ∧ RowsV K H xs rs := by
  obtain ⟨xs, h1, h2, h3⟩ := h
  exact ⟨xs, h1, RowsV.of h2 h3⟩
end
theorem ins_perm {fs ts : List Nat} {j : Nat} (i : Nat) (h : fs.Perm (ts.take j)) (hj : j < ts.length) : (fs.take i ++ [ts.getD j 0] ++ fs.drop i).Perm (ts.take (j + 1)) := by
  have e : ts.take (j + 1) = ts.take j ++ [ts.getD j 0] := by
    rw [List.take_add_one, List.getD_eq_getElem?_getD, List.getElem?_eq_getElem hj]
    rfl
  rw [e, List.append_assoc]
  refine List.Perm.trans List.perm_middle ?_
  show (ts.getD j 0 :: (fs.take i ++ fs.drop i)).Perm _
  rw [List.take_append_drop]
  refine List.Perm.trans (.cons _ h) ?_
  exact (List.perm_append_singleton _ _).symm
theorem nv_take (l : List Nat) (i : Nat) : nv (l.take i) = (nv l).take i := by unfold nv; rw [List.map_take]
theorem nv_dropN (l : List Nat) (i : Nat) : nv (l.drop i) = (nv l).drop i := by unfold nv; rw [List.map_drop]
theorem nv_range (n : Nat) : rgV 0 (n : Int) = nv (List.range n) := by rw [rg_iN, nv_iv]; rfl
theorem nv_evr (l : List Nat) : nv (evr l) = evr (nv l) := (evr_map _ l).symm
end Ed
namespace Ed
open PySem L2 Deal
theorem filter_at {m : Nat} : ∀ {r : List Nat}, ((List.range r.length).filter fun i => decide (r.getD i 0 < m)).map (fun i => V.int (r.getD i 0 : Nat)) = nv (r.filter fun x => decide (x < m))
  | [] => rfl
  | x :: r => by
    have ih := filter_at (m := m) (r := r)
    rw [List.length_cons, List.range_succ_eq_map, List.filter_cons, List.filter_map, List.filter_cons]
    have e : (List.map (fun i => V.int (((x :: r).getD i 0 : Nat) : Int)) (List.map Nat.succ (List.filter ((fun i => decide ((x :: r).getD i 0 < m)) ∘ Nat.succ) (List.range r.length)))) = nv (r.filter fun x => decide (x < m)) := by
      rw [List.map_map, ← ih]
      rfl
    have e0 : (x :: r).getD 0 0 = x := rfl
    rw [e0]
    by_cases h : x < m
    · rw [if_pos (decide_eq_true h), if_pos (decide_eq_true h), List.map_cons, e, nv_cons]
      rfl
    · rw [if_neg (by simp [h]), if_neg (by simp [h]), e]
theorem getD_map {α β : Type} {f : List α → List β} {rs : List (List α)} {i : Nat} (h : i < rs.length) : (rs.map f).getD i [] = f (rs.getD i []) := by
  rw [List.getD_eq_getElem?_getD, List.getD_eq_getElem?_getD, List.getElem?_map, List.getElem?_eq_getElem h]
  rfl
end Ed
namespace Ed
open PySem L2 Deal
theorem any_not {p : Nat → Bool} {l : List Nat} : (l.any fun i => !p i) = !l.all p := by
  induction l with
  | nil => rfl
  | cons x l ih => rw [List.any_cons, List.all_cons, ih, Bool.not_and]
theorem drop1_getD {l : List Int} {i : Nat} : (l.drop 1).getD i 0 = l.getD (i + 1) 0 := by
  rw [List.getD_eq_getElem?_getD, List.getD_eq_getElem?_getD, List.getElem?_drop, Nat.add_comm]
theorem all_getD {p : Int → Bool} {l : List Int} (h : l.all p = true) {i : Nat} (hi : i < l.length) : p (l.getD i 0) = true := by
  refine List.all_eq_true.mp h _ ?_
  rw [List.getD_eq_getElem?_getD, List.getElem?_eq_getElem hi]
  exact List.getElem_mem _
theorem inR_of {n : Nat} {x : Int} (h : inR n x = true) : 0 ≤ x ∧ x < (n : Int) := by
  unfold inR at h
  rw [Bool.and_eq_true, decide_eq_true_eq, decide_eq_true_eq] at h
  exact h
theorem inR_in {n : Nat} {rs : List (List Nat)} (G : Good n rs) {k x : Int} (hk : inR rs.length k = true) (hx : inR n x = true) : inN (rs.getD k.toNat []) x = true := by
  obtain ⟨k1, k2⟩ := inR_of hk
  obtain ⟨x1, x2⟩ := inR_of hx
  unfold inN
  rw [Bool.and_eq_true, decide_eq_true_eq, List.contains_iff_mem]
  refine ⟨x1, (G.perm _ (Good.at_mem (by omega))).mem_iff.mpr (List.mem_range.mpr (by omega))⟩
/-- the places u, v are a pair's -/
def pairAt (u v : Nat) : Bool := (!decide (u = v)) && decide (u / 2 = v / 2)
theorem pair_in {n : Nat} {rs : List (List Nat)} (G : Good n rs) {k x y : Int} (hk : inR rs.length k = true) (hx : inR n x = true) (hy : inR n y = true) : isPair rs k x y = pairAt (ixO (rs.getD k.toNat []) x) (ixO (rs.getD k.toNat []) y) := by
  unfold isPair pairAt
  rw [if_pos (inR_of hk), if_pos (inR_in G hk hx), if_pos (inR_in G hk hy)]
theorem pair_yes {u v : Nat} (h : min u v % 2 = 0) (h' : max u v = min u v + 1) : pairAt u v = true := by
  unfold pairAt
  rw [Bool.and_eq_true, Bool.not_eq_true', decide_eq_false_iff_not, decide_eq_true_eq]
  omega
theorem pair_no {u v : Nat} (h : min u v % 2 = 1 ∨ max u v ≠ min u v + 1) : pairAt u v = false := by
  unfold pairAt
  rw [Bool.and_eq_false_iff, Bool.not_eq_false', decide_eq_true_eq, decide_eq_false_iff_not]
  omega
theorem two_sorted {u v : Nat} {l : List Int} (h : l.Perm [(u : Int), (v : Int)]) (hs : l.Pairwise (· ≤ ·)) : l = [((min u v : Nat) : Int), ((max u v : Nat) : Int)] := by
  refine sorted_one (h.trans ?_) hs ?_
  · by_cases e : u ≤ v
    · rw [Nat.min_eq_left e, Nat.max_eq_right e]
    · rw [Nat.min_eq_right (by omega), Nat.max_eq_left (by omega)]
      exact .swap _ _ _
  · refine List.pairwise_cons.mpr ⟨fun z hz => ?_, List.pairwise_singleton _ _⟩
    rw [List.mem_singleton] at hz
    subst hz
    omega
end Ed

/-! The making of rows: what stands between its turns. -/
namespace Ed
open PySem L2 Deal
def hide2 (b R : Addr) (H : Hp) : Hp := hide b (hide R H)
section
variable {K : PySem.W.Frag} {H H' H1 H2 : Hp} {b R a p : Addr} {o : HO} {n i : Nat} {bs bs2 : List Int} {xs : List V} {rs : List (List Nat)} {r : List Nat}
theorem hide2_in (h : hide2 b R H a = some o) : a ≠ b ∧ a ≠ R ∧ H a = some o := by
  unfold hide2 at h
  have h1 := hide_in h
  rw [hide_ne h1] at h
  have h2 := hide_in h
  rw [hide_ne h2] at h
  exact ⟨h1, h2, h⟩
theorem hide2_of (h1 : a ≠ b) (h2 : a ≠ R) (h : H a = some o) : hide2 b R H a = some o := by
  unfold hide2
  rw [hide_ne h1, hide_ne h2]
  exact h
theorem hide2_sub : Same (hide2 b R H) H := fun c z e => (hide2_in e).2.2
theorem hide2_but (t : But b H H') : Same (hide2 b R H) (hide2 b R H') := fun c z e => by
  obtain ⟨h1, h2, h3⟩ := hide2_in e
  exact hide2_of h1 h2 (t _ _ h3 h1)
theorem hide2_upd : Same (hide2 b R H) (hide2 b R (upd H R o)) := fun c z e => by
  obtain ⟨h1, h2, h3⟩ := hide2_in e
  exact hide2_of h1 h2 (by rw [upd_ne h2]; exact h3)
structure LR (K : PySem.W.Frag) (H H' : Hp) (b R ev : Addr) (n i : Nat) (bs : List Int) (xs : List V) (rs : List (List Nat)) : Prop where
  nb : H b = none
  nR : H R = none
  bR : b ≠ R
  s : Same H H'
  eb : H' b = some (.lst (bs.map V.int))
  lb : bs.length = n
  eR : H' R = some (.lst xs)
  rows : RowsV K (hide2 b R H') xs rs
  ev : hide2 b R H' ev = some (.lst (nv (List.range n)))
  G : Good n rs
  l : rs.length = i + 1
theorem LR.but {ev : Addr} (L : LR K H H' b R ev n i bs xs rs) (t : But b H' H2) (e : H2 b = some (.lst (bs2.map V.int))) (h : bs2.length = bs.length) : LR K H H2 b R ev n i bs2 xs rs :=
  ⟨L.nb, L.nR, L.bR, t.same L.s L.nb, e, h.trans L.lb, t _ _ L.eR L.bR.symm, L.rows.same (hide2_but t), hide2_but t _ _ L.ev, L.G, L.l⟩
theorem LR.same {ev : Addr} (L : LR K H H' b R ev n i bs xs rs) (s : Same H' H2) : LR K H H2 b R ev n i bs xs rs := L.but (same_but s) (s _ _ L.eb) rfl
theorem LR.push {ev : Addr} (L : LR K H H' b R ev n i bs xs rs) (e : hide2 b R H' p = some (.lst (nv r))) (h : r.Perm (List.range n)) : LR K H (upd H' R (.lst (xs ++ [.ref p]))) b R ev n (i + 1) bs (xs ++ [.ref p]) (rs ++ [r]) :=
  ⟨L.nb, L.nR, L.bR, same_mut L.s L.nR, by rw [upd_ne L.bR]; exact L.eb, L.lb, upd_same, (L.rows.same hide2_upd).app (.cons (sqL_of (hide2_upd _ _ e)) .nil), hide2_upd _ _ L.ev,
    ⟨by simp, fun q hq => by
      rw [List.mem_append, List.mem_singleton] at hq
      rcases hq with hq | hq
      · exact L.G.perm q hq
      · rw [hq]; exact h⟩, by rw [List.length_append, L.l]; rfl⟩
/-- a new place is neither -/
theorem LR.new {ev : Addr} (L : LR K H H' b R ev n i bs xs rs) (h : H' p = none) : p ≠ b ∧ p ≠ R := by
  constructor
  · intro e
    rw [e, L.eb] at h
    cases h
  · intro e
    rw [e, L.eR] at h
    cases h
theorem LR.row0 {ev : Addr} (L : LR K H H' b R ev n i bs xs rs) : ∃ p r, atI xs 0 = some (.ref p) ∧ SqL K (hide2 b R H') p (nv r) ∧ r.Perm (List.range n) := by
  obtain ⟨p, e, h⟩ := L.rows.get 0 (by rw [L.l]; omega)
  exact ⟨p, _, at_of (j := 0) rfl e, h, L.G.perm _ (Good.at_mem (by rw [L.l]; omega))⟩
end
theorem take_snoc {l : List Nat} {k : Nat} (h : k < l.length) : l.take (k + 1) = l.take k ++ [l.getD k 0] := by
  rw [List.take_add_one, List.getD_eq_getElem?_getD, List.getElem?_eq_getElem h]
  rfl
theorem zip_perm {ws fs gs : List Nat} {k : Nat} (h : ws.Perm (fs.take k ++ gs.take k)) (h1 : k < fs.length) (h2 : k < gs.length) : (ws ++ [fs.getD k 0, gs.getD k 0]).Perm (fs.take (k + 1) ++ gs.take (k + 1)) := by
  rw [take_snoc h1, take_snoc h2]
  refine (h.append_right _).trans ?_
  generalize fs.take k = A
  generalize gs.take k = B
  generalize fs.getD k 0 = x
  generalize gs.getD k 0 = y
  rw [List.append_assoc, List.append_assoc]
  refine List.Perm.append_left A ?_
  show (B ++ x :: [y]).Perm (x :: (B ++ [y]))
  exact List.perm_middle
theorem pair_swap {ws l : List Nat} {x y : Nat} (h : (ws ++ [x, y]).Perm l) : (ws ++ [y, x]).Perm l := (List.Perm.append_left ws (.swap x y [])).trans h
theorem half_perm {ws fs gs r : List Nat} {n : Nat} (h : ws.Perm (fs.take gs.length ++ gs)) (hf : fs.Perm (evr r)) (hg : gs.Perm (evr (r.drop 1))) (hr : r.Perm (List.range n)) : (ws ++ fs.drop gs.length).Perm (List.range n) := by
  refine (h.append_right _).trans ?_
  have e : (fs.take gs.length ++ gs ++ fs.drop gs.length).Perm (fs ++ gs) := by
    rw [List.append_assoc]
    refine (List.Perm.append_left _ List.perm_append_comm).trans ?_
    rw [← List.append_assoc, List.take_append_drop]
  exact e.trans ((hf.append hg).trans ((evr_perm r).trans hr))
end Ed

/-! The answers' own word: what deal hands back shows; few things: all dealings. -/
namespace Ed
open PySem L2 Deal
theorem row_ok {r : List Nat} {d : List Int} : rowBad r d = false ↔ ∀ j, j < r.length / 2 → d.getD (r.getD (2 * j) 0) 0 ≠ d.getD (r.getD (2 * j + 1) 0) 0 := by
  unfold rowBad
  rw [List.any_eq_false]
  constructor
  · intro h j hj
    have := h j (List.mem_range.mpr hj)
    rw [decide_eq_true_eq] at this
    exact this
  · intro h j hj
    rw [decide_eq_true_eq]
    exact h j (List.mem_range.mp hj)
theorem is01_iff {z : Int} : is01 z = true ↔ z = 0 ∨ z = 1 := by
  unfold is01
  rw [Bool.or_eq_true, decide_eq_true_eq, decide_eq_true_eq]
/-- an even dealing: each pair is parted -/
theorem even_iff {n : Nat} {rs : List (List Nat)} (G : Good n rs) {d : List Int} : isEven n rs d = true ↔ d.length = n ∧ d.all is01 = true ∧ ∀ k x y, Adj rs k x y → d.getD x 0 ≠ d.getD y 0 := by
  unfold isEven
  by_cases h : d.length = n ∧ d.all is01 = true
  · rw [if_pos h, List.all_eq_true]
    constructor
    · intro hr
      refine ⟨h.1, h.2, fun k x y ha => ?_⟩
      obtain ⟨hk, j, hj, hxy⟩ := ha
      have hm := hr _ (Good.at_mem hk)
      rw [Bool.not_eq_true', row_ok] at hm
      have := hm j hj
      rcases hxy with ⟨e1, e2⟩ | ⟨e1, e2⟩
      · rw [e1, e2] at this
        exact this
      · rw [e1, e2] at this
        exact fun z => this z.symm
    · rintro ⟨_, _, ha⟩ r hr
      rw [Bool.not_eq_true', row_ok]
      intro j hj
      obtain ⟨k, hk, rfl⟩ := List.getElem_of_mem hr
      have e : rs.getD k [] = rs[k] := by simp [List.getD, hk]
      refine ha k _ _ ⟨hk, j, by rw [e]; exact hj, .inl ?_⟩
      rw [e]
      exact ⟨rfl, rfl⟩
  · rw [if_neg h]
    constructor
    · intro z
      cases z
    · rintro ⟨h1, h2, _⟩
      exact absurd ⟨h1, h2⟩ h
theorem si_some {o : Option Bool} (h : o ≠ none) : si o = 0 ∨ si o = 1 := by
  match o, h with
  | some false, _ => exact .inl rfl
  | some true, _ => exact .inr rfl
  | none, h => exact absurd rfl h
theorem dl_01 {n : Nat} {rs : List (List Nat)} {s : S} {dep : Nat → Nat} (F : Fin n rs s dep) : (dl n s).all is01 = true := by
  rw [List.all_eq_true]
  intro z hz
  unfold dl at hz
  rw [List.mem_map] at hz
  obtain ⟨i, hi, rfl⟩ := hz
  exact is01_iff.mpr (si_some (F.sd i (List.mem_range.mp hi)))
theorem dl_even {n : Nat} {rs : List (List Nat)} {s : S} {dep : Nat → Nat} (G : Good n rs) (F : Fin n rs s dep) (hb : s.bar = none) : isEven n rs (dl n s) = true := by
  rw [even_iff G]
  refine ⟨dl_len, dl_01 F, fun k x y ha => ?_⟩
  obtain ⟨l1, l2, _⟩ := G.adj_lt ha
  rw [dl_get l1, dl_get l2]
  exact fun z => F.even hb k x y ha (si_inj z)
theorem even_more {n : Nat} {rs : List (List Nat)} {d : List Int} (h : d.length = n) : isEven n rs (d ++ [0]) = false := by
  unfold isEven
  rw [if_neg]
  rintro ⟨h1, _⟩
  rw [List.length_append] at h1
  simp at h1
  omega
theorem ring_more {n : Nat} {rs : List (List Nat)} {ts ps : List Int} (h : ts.length % 2 = 0) : isRing n rs (ts ++ [0]) ps = false := by
  unfold isRing
  rw [if_pos]
  refine .inr (.inl ?_)
  rw [List.length_append]
  simp
  omega
theorem Ch.nth {R : Nat → Nat → Nat → Prop} : ∀ {ps ts : List Nat}, Ch R ts ps → ∀ i, i < ps.length → R (ps.getD i 0) (ts.getD i 0) (ts.getD (i + 1) 0)
  | [], _, _, i, hi => absurd hi (by simp)
  | k :: ps, [], h, _, _ => absurd h ch_no
  | k :: ps, x :: ts, h, i, hi => by
    obtain ⟨y, h1, h2, h3⟩ := ch_cons.mp h
    cases i with
    | zero =>
      have e : ts.getD 0 0 = y := by
        cases ts with
        | nil => cases h1
        | cons z ts => simpa using h1
      show R k x (ts.getD 0 0)
      rw [e]
      exact h2
    | succ i => exact Ch.nth h3 i (by simpa using hi)
theorem Ch.mem_of {R : Nat → Nat → Nat → Prop} {n : Nat} (hR : ∀ k x y, R k x y → x < n ∧ y < n) {ps ts : List Nat} (h : Ch R ts ps) (hp : ps ≠ []) : ∀ i, i < ts.length → ts.getD i 0 < n := by
  intro i hi
  have hl := h.len
  have : 0 < ps.length := List.length_pos_iff.mpr hp
  cases i with
  | zero => exact (hR _ _ _ (Ch.nth h 0 (by omega))).1
  | succ i => exact (hR _ _ _ (Ch.nth h i (by omega))).2
theorem ix_at {n : Nat} {rs : List (List Nat)} (G : Good n rs) {r : List Nat} (hr : r ∈ rs) {i : Nat} (hi : i < n) : ixO r ((r.getD i 0 : Nat) : Int) = i := by
  have l := G.len hr
  have nd : r.Nodup := (G.perm r hr).nodup_iff.mpr List.nodup_range
  unfold ixO
  rw [Int.toNat_natCast]
  have hm : r.getD i 0 ∈ r := by
    rw [List.getD_eq_getElem?_getD, List.getElem?_eq_getElem (by omega)]
    exact List.getElem_mem _
  have h1 := List.idxOf_lt_length_of_mem hm
  refine G.inj hr (by omega) hi ?_
  rw [List.getD_eq_getElem?_getD, List.getElem?_eq_getElem h1]
  simp
theorem adj_pair {n : Nat} {rs : List (List Nat)} (G : Good n rs) {k x y : Nat} (h : Adj rs k x y) : isPair rs (k : Int) (x : Int) (y : Int) = true := by
  obtain ⟨l1, l2, _⟩ := G.adj_lt h
  have ik : inR rs.length (k : Int) = true := by
    unfold inR
    rw [Bool.and_eq_true, decide_eq_true_eq, decide_eq_true_eq]
    have := h.1
    omega
  have ix : ∀ z, z < n → inR n (z : Int) = true := fun z hz => by
    unfold inR
    rw [Bool.and_eq_true, decide_eq_true_eq, decide_eq_true_eq]
    omega
  rw [pair_in G ik (ix x l1) (ix y l2), Int.toNat_natCast]
  obtain ⟨hk, j, hj, hxy⟩ := h
  have hm := Good.at_mem hk
  have hl := G.len hm
  have a1 := ix_at G hm (i := 2 * j) (by omega)
  have a2 := ix_at G hm (i := 2 * j + 1) (by omega)
  rcases hxy with ⟨e1, e2⟩ | ⟨e1, e2⟩
  · rw [e1] at a1
    rw [e2] at a2
    rw [a1, a2]
    exact pair_yes (by omega) (by omega)
  · rw [e1] at a1
    rw [e2] at a2
    rw [a1, a2]
    exact pair_yes (by omega) (by omega)
theorem iN_len (r : List Nat) : (iN r).length = r.length := by simp [iN]
theorem iN_get (r : List Nat) (i : Nat) : (iN r).getD i 0 = ((r.getD i 0 : Nat) : Int) := by
  unfold iN
  rw [List.getD_eq_getElem?_getD, List.getD_eq_getElem?_getD, List.getElem?_map]
  cases r[i]? <;> rfl
theorem nv_iN (r : List Nat) : nv r = (iN r).map V.int := nv_iv r
theorem chain_ok {n : Nat} {rs : List (List Nat)} (G : Good n rs) {ts ps : List Nat} (h : Ch (Adj rs) ts ps) (hx : ∀ i, i < ts.length → ts.getD i 0 < n) : isChain n rs (iN ts) (iN ps) = true := by
  have hl := h.len
  unfold isChain
  rw [if_neg, if_pos, List.all_eq_true]
  · intro i hi
    rw [List.mem_range, iN_len] at hi
    rw [iN_get, iN_get, iN_get]
    exact adj_pair G (Ch.nth h i hi)
  · rw [← range_all (d := 0), List.all_eq_true]
    intro i hi
    rw [List.mem_range, iN_len] at hi
    rw [iN_get]
    have := hx i hi
    unfold inR
    rw [Bool.and_eq_true, decide_eq_true_eq, decide_eq_true_eq]
    omega
  · rw [iN_len, iN_len]
    rintro (e | e)
    · have := congrArg List.length e
      rw [iN_len] at this
      simp at this
      subst this
      simp at hl
    · omega
theorem ring_ok {n : Nat} {rs : List (List Nat)} (G : Good n rs) {ts ps : List Nat} (h : RingOf rs ts ps) : isRing n rs (iN ts) (iN ps) = true ∧ ts.length % 2 = 0 := by
  have hl := h.ch.len
  have ho := h.odd
  refine ⟨?_, by omega⟩
  unfold isRing
  rw [if_neg]
  · exact chain_ok G h.ch (Ch.mem_of (fun k x y ha => ⟨(G.adj_lt ha).1, (G.adj_lt ha).2.1⟩) h.ch fun e => by rw [e] at ho; cases ho)
  · rw [iN_len, iN_get, iN_get]
    rintro (e | e | e)
    · omega
    · omega
    · refine e ?_
      have hc := h.cl
      rw [List.getLast?_eq_getElem?, List.head?_eq_getElem?] at hc
      rw [List.getD_eq_getElem?_getD, List.getD_eq_getElem?_getD, hc]
/-! ### few things: all dealings -/
def digs (n m : Nat) : List Int := (List.range n).map fun k => ((m / 2 ^ k % 2 : Nat) : Int)
theorem digs_len {n m : Nat} : (digs n m).length = n := by simp [digs]
theorem digs_get {n m k : Nat} (h : k < n) : (digs n m).getD k 0 = ((m / 2 ^ k % 2 : Nat) : Int) := by
  unfold digs
  rw [List.getD_eq_getElem?_getD, List.getElem?_map, List.getElem?_range h]
  rfl
theorem digs_cons {n m b : Nat} (hb : b < 2) : digs (n + 1) (b + 2 * m) = (b : Int) :: digs n m := by
  unfold digs
  rw [List.range_succ_eq_map, List.map_cons, List.map_map]
  congr 1
  · show (((b + 2 * m) / 2 ^ 0 % 2 : Nat) : Int) = (b : Int)
    rw [Nat.pow_zero, Nat.div_one]
    omega
  · apply List.map_congr_left
    intro k _
    show (((b + 2 * m) / 2 ^ (k + 1) % 2 : Nat) : Int) = ((m / 2 ^ k % 2 : Nat) : Int)
    rw [Nat.pow_succ, Nat.mul_comm (2 ^ k) 2, ← Nat.div_div_eq_div_mul]
    have e : (b + 2 * m) / 2 = m := by omega
    rw [e]
theorem digs_all : ∀ {d : List Int}, d.all is01 = true → ∃ m, m < 2 ^ d.length ∧ digs d.length m = d
  | [], _ => ⟨0, by decide, rfl⟩
  | z :: d, h => by
    rw [List.all_cons, Bool.and_eq_true] at h
    obtain ⟨m, hm, e⟩ := digs_all h.2
    have hz := is01_iff.mp h.1
    refine ⟨z.toNat + 2 * m, ?_, ?_⟩
    · rw [List.length_cons, Nat.pow_succ]
      omega
    · rw [List.length_cons, digs_cons (by omega), e]
      congr 1
      omega
theorem any_even {n : Nat} {rs : List (List Nat)} (G : Good n rs) : ((List.range (2 ^ n)).any fun m => isEven n rs (digs n m)) = decide ((walk n rs).bar = none) := by
  obtain ⟨dep, F⟩ := walk_fin G
  rw [Bool.eq_iff_iff, List.any_eq_true, decide_eq_true_eq]
  constructor
  · rintro ⟨m, _, he⟩
    cases hb : (walk n rs).bar with
    | none => rfl
    | some b =>
      exfalso
      obtain ⟨h1, h2, h3⟩ := (even_iff G).mp he
      refine (F.ring G hb).bars (d := fun x => some (decide ((digs n m).getD x 0 = 1))) (fun x z => nomatch z) fun k x y ha z => ?_
      have hne := h3 k x y ha
      obtain ⟨l1, l2, _⟩ := G.adj_lt ha
      have g1 := is01_iff.mp (all_getD h2 (show x < (digs n m).length by omega))
      have g2 := is01_iff.mp (all_getD h2 (show y < (digs n m).length by omega))
      have z : decide ((digs n m).getD x 0 = 1) = decide ((digs n m).getD y 0 = 1) := Option.some.inj z
      rcases g1 with g1 | g1
      · rcases g2 with g2 | g2
        · exact hne (g1.trans g2.symm)
        · rw [g1, g2] at z
          exact absurd z (by decide)
      · rcases g2 with g2 | g2
        · rw [g1, g2] at z
          exact absurd z (by decide)
        · exact hne (g1.trans g2.symm)
  · intro hb
    have he := dl_even G F hb
    obtain ⟨m, hm, e⟩ := digs_all (dl_01 F)
    rw [dl_len] at hm e
    exact ⟨m, List.mem_range.mpr hm, by rw [e]; exact he⟩
theorem few_range (m : Nat) : ∀ n, (List.range n).filter (fun x => decide (x < m)) = List.range (min n m)
  | 0 => by simp
  | n + 1 => by
    rw [List.range_succ, List.filter_append, few_range m n]
    by_cases h : n < m
    · rw [List.filter_cons_of_pos (by simpa using h), List.filter_nil, Nat.min_eq_left (by omega), Nat.min_eq_left (by omega), List.range_succ]
    · rw [List.filter_cons_of_neg (by simpa using h), List.filter_nil, List.append_nil, Nat.min_eq_right (by omega), Nat.min_eq_right (by omega)]
theorem Rw.few {n : Nat} {rs : List (List Nat)} (R : Rw n rs) (m : Nat) : Rw (min n m) (rs.map fun r => r.filter fun x => decide (x < m)) := by
  refine ⟨⟨fun e => R.G.ne (List.map_eq_nil_iff.mp e), fun r hr => ?_⟩, Nat.le_trans (Nat.min_le_left _ _) R.ln, by rw [List.length_map]; exact R.lr⟩
  rw [List.mem_map] at hr
  obtain ⟨q, hq, rfl⟩ := hr
  rw [← few_range]
  exact (R.G.perm q hq).filter _
theorem Rw.sub {n : Nat} {rs qs : List (List Nat)} (R : Rw n rs) (h : ∀ r ∈ qs, r ∈ rs) (hne : qs ≠ []) (hl : qs.length ≤ 50) : Rw n qs := ⟨⟨hne, fun r hr => R.G.perm r (h r hr)⟩, R.ln, hl⟩
theorem Rw.turn {n : Nat} {rs : List (List Nat)} (R : Rw n rs) : Rw n (rs.map List.reverse) := by
  refine ⟨⟨fun e => R.G.ne (List.map_eq_nil_iff.mp e), fun r hr => ?_⟩, R.ln, by rw [List.length_map]; exact R.lr⟩
  rw [List.mem_map] at hr
  obtain ⟨q, hq, rfl⟩ := hr
  exact (List.reverse_perm q).trans (R.G.perm q hq)
end Ed
namespace Ed
theorem take_ne {α : Type} {l : List α} {k : Nat} (h : 0 < l.length) (hk : 0 < k) : l.take k ≠ [] := fun e => by
  have := congrArg List.length e
  rw [List.length_take, List.length_nil] at this
  omega
end Ed

/-! How many differ: len(set(list)); the count of a truth in a list of truths. -/
namespace Ed
open PySem PySem.Spec PyProof.Rows L2 Deal
section
variable {κ : Type} [DecidableEq κ]
def dd (l : List κ) (v : κ) : List κ := if v ∈ l then l else l ++ [v]
/-- the different ones of the first i -/
def gm (val : Nat → κ) : Nat → List κ
  | 0 => []
  | i + 1 => dd (gm val i) (val i)
theorem dd_mem {l : List κ} {v k : κ} : k ∈ dd l v ↔ k ∈ l ∨ k = v := by
  unfold dd
  by_cases h : v ∈ l
  · rw [if_pos h]
    constructor
    · exact .inl
    · rintro (e | e)
      · exact e
      · rw [e]; exact h
  · rw [if_neg h, List.mem_append, List.mem_singleton]
theorem dd_len {l : List κ} {v : κ} : (dd l v).length = if decide (v ∈ l) = true then l.length else l.length + 1 := by
  unfold dd
  by_cases h : v ∈ l
  · rw [if_pos h, if_pos (decide_eq_true h)]
  · rw [if_neg h, if_neg (by simp [h]), List.length_append]
    rfl
theorem gm_le (val : Nat → κ) : ∀ i, (gm val i).length ≤ i
  | 0 => Nat.le_refl _
  | i + 1 => by
    show (dd (gm val i) (val i)).length ≤ i + 1
    have := gm_le val i
    rw [dd_len]
    split <;> omega
theorem gm_mem {val : Nat → κ} : ∀ {i : Nat} {k : κ}, k ∈ gm val i ↔ ∃ j, j < i ∧ val j = k
  | 0, k => by simp [gm]
  | i + 1, k => by
    show k ∈ dd (gm val i) (val i) ↔ _
    rw [dd_mem, gm_mem (i := i)]
    constructor
    · rintro (⟨j, hj, e⟩ | e)
      · exact ⟨j, by omega, e⟩
      · exact ⟨i, by omega, e.symm⟩
    · rintro ⟨j, hj, e⟩
      by_cases ej : j = i
      · subst ej; exact .inr e.symm
      · exact .inl ⟨j, by omega, e⟩
theorem gm_nodup (val : Nat → κ) : ∀ i, (gm val i).Nodup
  | 0 => List.nodup_nil
  | i + 1 => by
    show (dd (gm val i) (val i)).Nodup
    have ih := gm_nodup val i
    unfold dd
    by_cases h : val i ∈ gm val i
    · rw [if_pos h]; exact ih
    · rw [if_neg h]
      refine List.nodup_append.mpr ⟨ih, by simp, ?_⟩
      intro x hx y hy e
      rw [List.mem_singleton] at hy
      rw [e, hy] at hx
      exact h hx
end
section
variable {prog : Program} {w : World} {A : Around} {R : Result → Shared → Prop} {W1 : Addr} {fp wr : List Addr} {G : Array GenState → Array GenState → Prop} {n : Nat} {P : Nat → Value → Prop} {St : Nat → Shared → Prop}
variable {κ : Type} [DecidableEq κ] {knd : PySem.KeyKind prog w κ}
theorem set_as {h : Heap} {a : Addr} {S S' : κ → Bool} {n n' : Nat} (hS : h.SetOf knd a S n) (e : ∀ k, S k = S' k) (en : n = n') : h.SetOf knd a S' n' := by
  rw [← show S = S' from funext e, ← en]
  exact hS
theorem set_kept {h h' : Heap} {a : Addr} {S : κ → Bool} {n : Nat} (hS : h.SetOf knd a S n) (k : ∀ o, h.get? a = some o → h'.get? a = some o) : h'.SetOf knd a S n := by
  obtain ⟨o, es, ep, t, ho, r⟩ := hS
  exact ⟨o, es, ep, t, k o ho, r⟩
theorem loop_gm (W : WalksS prog w A.in1 W1 fp wr G n P St) (S : Addr) (nS : S ∉ fp) (val : Nat → κ) (hv : ∀ i v, P i v → knd.is (val i) v = true ∧ v.scannable = true) (hb : n + 1 < scanBound) :
    ∀ (k i : Nat) (s : Shared), n - i = k → i ≤ n → St i s → s.heap.SetOf knd S (fun z => decide (z ∈ gm val i)) (gm val i).length →
      (∀ s', Moved (S :: wr) G s s' → s'.heap.SetOf knd S (fun z => decide (z ∈ gm val n)) (gm val n).length → R (.ok (.ret .none)) s') →
      codeAny (model prog w) A (.builtin "set.update.loop" ⟨[.ref S, .ref W1], []⟩) R s := by
  have nw : S ∉ wr := fun z => nS (W.sub _ z)
  have up : ∀ b ∈ wr, b ∈ S :: wr := fun b z => .tail _ z
  intro k
  induction k with
  | zero =>
    intro i s hk hi hst hS hR
    obtain rfl : i = n := by omega
    refine codeAny_builtin PyProof.Rows.F.entry_set_update_loop ?_
    rw [Around.under_plainId PyProof.Rows.F.plain_set_update_loop _]
    show wpAny _ A.in1 (pyNext (.ref W1) >>= _) _ _ s
    refine wpAny_bind (W.done s _ _ hst fun t hm => ?_)
    exact wpAny_pure (hR t (hm.mono up) (set_kept hS fun o ho => hm.heap S _ nw ho))
  | succ k ih =>
    intro i s hk hi hst hS hR
    have lt : i < n := by omega
    refine codeAny_builtin PyProof.Rows.F.entry_set_update_loop ?_
    rw [Around.under_plainId PyProof.Rows.F.plain_set_update_loop _]
    show wpAny _ A.in1 (pyNext (.ref W1) >>= _) _ _ s
    refine wpAny_bind (W.item i s _ _ lt hst fun v t hP hst' hm => ?_)
    obtain ⟨hkv, hsc⟩ := hv i v hP
    have hS' := set_kept hS fun o ho => hm.heap S _ nw ho
    show wpAny _ A.in1 (holding [v] (setAdd S v) >>= _) _ _ t
    refine wpAny_bind (wpAny_holding ?_)
    unfold setAdd
    refine wpAny_holding (wpAny_bind (knd.pyHash (k := val i) hkv ?_))
    have room : (gm val i).length + 1 < scanBound := Nat.lt_of_le_of_lt (Nat.add_le_add_right (gm_le val i) 1) (by omega)
    refine wpAny_setAddHashed_of (knd := knd) (s := { t with toks := t.toks + 1 }) hkv hsc hS' room fun h' sb hS2 => ?_
    have hSi : h'.SetOf knd S (fun z => decide (z ∈ gm val (i + 1))) (gm val (i + 1)).length := by
      refine set_as hS2 (fun z => ?_) dd_len.symm
      show (decide (z ∈ gm val i) || decide (z = val i)) = decide (z ∈ dd (gm val i) (val i))
      rw [Bool.eq_iff_iff, Bool.or_eq_true, decide_eq_true_eq, decide_eq_true_eq, decide_eq_true_eq, dd_mem]
    refine wpAny_pure ⟨plainId_quiet PyProof.Rows.F.plain_set_update_loop _, ih (i + 1) _ (by omega) lt (W.frame _ t _ _ hst' (Nat.le_succ _) fun b z o e => ?_) hSi fun u hu hSu => ?_⟩
    · rw [sb.2 b fun y : b = S => nS (y ▸ z)]
      exact e
    · refine hR u (Moved.trans W.gtrans ((hm.mono up).then_heap (Nat.le_succ _) fun b o z e => ?_) hu) hSu
      rw [sb.2 b fun y : b = S => z (y ▸ List.mem_cons_self)]
      exact e
end
/-- a set just made -/
def set0 (led : Bool) : Obj := { cls := .type "set", dict := none, data := .set #[] 0 (.fresh 0 0 led) }
section
variable {prog : Program} {w : World} {A : Around} {E : Value → Shared → Prop} {s : Shared} {κ : Type} [DecidableEq κ] {knd : PySem.KeyKind prog w κ}
set_option maxHeartbeats 3200000 in
theorem call_setK {l : Addr} {its : Array Value} (val : Nat → κ) {Q : Value → Shared → Prop} (hh : A.handled = none) (hl : s.heap.IsList l its) (hv : ∀ (i : Nat) (v : Value), its[i]? = some v → knd.is (val i) v = true ∧ v.scannable = true) (hb : its.size + 1 < scanBound)
    (h : ∀ (h' : Heap) (tk : Nat), h'.SetOf knd s.heap.objs.size (fun z => decide (z ∈ gm val its.size)) (gm val its.size).length → (∀ b o, b < s.heap.objs.size → s.heap.get? b = some o → h'.get? b = some o) → Q (.ref s.heap.objs.size) { s with heap := h', toks := tk }) :
    wpAny (model prog w) A (call (.type "set") [.ref l]) Q E s := by
  obtain ⟨c, tl, hmro⟩ := PySem.F.called_set.mro
  have m1 := PySem.F.called_set.made
  have m2 := PySem.F.called_set.sub
  refine wpAny_call (codeAny_of_tree ?_)
  show wpAny _ _ (callAny (.type "set") _) _ _ _
  refine wpAny_pure ⟨Code.quiet_builtin _ (by decide +kernel), codeAny_builtin PySem.F.entry_type_call ?_⟩
  rw [Around.under_plain (weight_type_call_type "set" [.ref l] []) rfl]
  have m3 := PySem.F.called_set.notType
  have m4 := PySem.F.called_set.canCreate
  have m5 := PySem.F.typeCall_set_1 (.ref l)
  repeat (any_goals (first | assumption | wp_step))
  refine codeAny_mono (code_set_new_1 (.ref l) (E := E) (Q₁ := fun o t => ∃ led : Bool, o = .ref s.heap.objs.size ∧ t = { s with heap := s.heap.push (set0 led) }) fun led => ⟨led, rfl, rfl⟩) fun r t hr => ?_
  cases r with
  | error e => exact hr
  | ok fl =>
    cases fl with
    | ret ob =>
      obtain ⟨led, rfl, rfl⟩ := hr
      have hS : (s.heap.push (set0 led)).get? s.heap.objs.size = some (set0 led) := Heap.get?_push_size _ rfl
      have hT : Shared.TypeIs { s with heap := s.heap.push (set0 led) } (.ref s.heap.objs.size) "set" := ⟨_, hS, rfl⟩
      have m6 := PySem.F.called_set.init.lookup
      have m7 := PySem.F.called_set.init.bind (.ref s.heap.objs.size)
      repeat (any_goals (first | assumption | wp_step))
      refine codeAny_mono (codeAny_call_builtin (R := wants (fun r t => r = .none ∧ ∃ h' tk, t = { s with heap := h', toks := tk } ∧ h'.SetOf knd s.heap.objs.size (fun z => decide (z ∈ gm val its.size)) (gm val its.size).length ∧ (∀ b o, b < s.heap.objs.size → s.heap.get? b = some o → h'.get? b = some o)) E)
        PySem.F.called_set.init.plain PySem.F.entry_set_init (check_set_init_1 hT ?_)) fun r2 t2 hr2 => ?_
      · obtain ⟨⟨oc, od, ox, os⟩, hol, hcl, nl, hdl⟩ := hl
        simp only at hcl hdl
        subst hcl hdl
        have hol2 : (s.heap.push (set0 led)).get? l = some { cls := .type "list", dict := od, data := .seq its nl, slots := os } := Heap.get?_push_of_some _ hol
        have q1 := PySem.F.sub_list_set
        have q2 := PySem.F.sub_list_frozenset
        have q3 : (Value.type "list" == Value.type "dict") = false := by decide
        have hl1 : (s.heap.push (set0 led)).IsList l its := ⟨_, hol2, rfl, nl, rfl⟩
        unfold Builtin.«set.__init__» noKeywords Builtin.Frozenset.updateFrom
        generalize hPI : pyIter = PI
        wp_walk
        subst hPI
        refine wpAny_pyIter_list hl1 (wpAny_bind (wpAny_runValue ?_))
        have ls := Heap.lt_size hol
        have z3 : A.in1.in1.in1.handled = none := by simp [hh]
        have nI : l ≠ (s.heap.push (set0 led)).objs.size := by
          rw [Heap.size_push]
          have ls : (l : Nat) < s.heap.objs.size := ls
          exact Nat.ne_of_lt (Nat.lt_succ_of_lt ls)
        have nS : s.heap.objs.size ∉ [(s.heap.push (set0 led)).objs.size, l] := by
          rw [Heap.size_push]
          simp only [List.mem_cons, List.not_mem_nil, or_false, not_or]
          exact ⟨Nat.ne_of_lt (Nat.lt_succ_self _), fun z => Nat.lt_irrefl _ (z ▸ ls)⟩
        refine loop_gm (knd := knd) ((Walks.list z3 _ l nI its).toS) s.heap.objs.size nS val hv hb (its.size - 0) 0 _ (by omega) (Nat.zero_le _) ⟨⟨_, Heap.get?_push_size _ rfl, rfl, rfl⟩, (hl1.push _)⟩ ?_ ?_
        · exact set_as ((setObjOf_fresh (knd := knd) led).setOf (Heap.get?_push_of_some _ hS) (by unfold scanBound; omega)) (fun _ => rfl) rfl
        · intro u hm hSu
          obtain ⟨h', g', d', tk', os'⟩ := u
          obtain rfl : g' = s.gens := hm.gens
          obtain rfl : d' = s.drawn := hm.drawn
          obtain rfl : os' = s.os := hm.os
          show wpAny _ _ _ _ _ _
          refine wpAny_pure ?_
          show wpAny _ _ (ret Value.none) _ _ _
          refine wpAny_pure ⟨rfl, h', tk', rfl, hSu, fun b o z e => ?_⟩
          refine hm.heap b o ?_ (Heap.get?_push_of_some _ (Heap.get?_push_of_some _ e))
          simp only [List.mem_cons, List.not_mem_nil, or_false, not_or]
          rw [Heap.size_push]
          exact ⟨Nat.ne_of_lt z, Nat.ne_of_lt (Nat.lt_succ_of_lt z)⟩
      · cases r2 with
        | error e => exact hr2
        | ok fl2 =>
          cases fl2 with
          | ret r =>
            obtain ⟨rfl, h', tk, rfl, hSu, hk⟩ := hr2
            repeat (any_goals (first | assumption | wp_step))
            exact h _ _ hSu hk
          | _ => exact hr2.elim
    | _ => exact hr.elim
end
end Ed

namespace Ed
open PySem PySem.Spec PyProof.Rows L2 Deal
section
variable {X : Cx}
/-- len(set(l)), l of truths; of numbers -/
def tLenSetB (K : PySem.W.Frag) (ta : TE) : TE := fun σ H Q => ta σ H fun x H1 => ∃ (l : Addr) (bs : List Bool), x = .ref l ∧ SqL K H1 l (bs.map V.bl) ∧ bs.length ≤ 4000 ∧ Q (.int ((gm (fun i => bs.getD i false) bs.length).length : Nat)) H1
def tLenSetN (K : PySem.W.Frag) (ta : TE) : TE := fun σ H Q => ta σ H fun x H1 => ∃ (l : Addr) (ns : List Int), x = .ref l ∧ SqL K H1 l (ns.map V.int) ∧ ns.length ≤ 4000 ∧ Q (.int ((gm (fun i => ns.getD i 0) ns.length).length : Nat)) H1
theorem vals_bl : ∀ {bs : List Bool} {us : List Value}, Vals (bs.map V.bl) us → ∀ (i : Nat) (v : Value), us[i]? = some v → v = .bool (bs.getD i false)
  | [], _, .nil, i, v, h => by simp at h
  | b :: bs, _, .cons r t, 0, v, h => by
    cases (show _ = Value.bool b from r)
    exact (Option.some.inj h).symm
  | b :: bs, _, .cons r t, i + 1, v, h => vals_bl t i v (by simpa using h)
theorem vals_int : ∀ {ns : List Int} {us : List Value}, Vals (ns.map V.int) us → ∀ (i : Nat) (v : Value), us[i]? = some v → ∃ t, v = .int (ns.getD i 0) t
  | [], _, .nil, i, v, h => by simp at h
  | b :: bs, _, .cons r t, 0, v, h => by
    obtain ⟨k, rfl⟩ := r
    exact ⟨k, (Option.some.inj h).symm⟩
  | b :: bs, _, .cons r t, i + 1, v, h => vals_int t i v (by simpa using h)
section
variable {a : Expr} {ta : TE} {p p2 q pos : Pos}
theorem eLenSetB (K : PySem.W.Frag) (hg : Gl X "len") (hm : X.mg "len" = none) (hg2 : Gl X "set") (hm2 : X.mg "set" = none) (ha : PE X a ta) (hc : X.calm = true := by rfl) (na : starEach [a] X.env = (false, eval a X.env) :: starEach [] X.env := by rfl) (hK : X.K = K := by rfl) :
    PE X (.Call (.Name "len" p) [.Call (.Name "set" p2) [a] [] q] [] pos) (tLenSetB K ta) := by
  subst hK
  refine ⟨fun pins s σ H Q I h => Call_ (ld_blt I hg hm boot_len ?_)⟩
  refine callWith_builtin1 (args_cons (Call_ (ld_blt I hg2 hm2 boot_set ?_)) rfl) rfl rfl
  refine callWith_type1 (args_cons (thn (ha.run pins s σ H _ I h) fun v s1 ⟨x, H1, I1, r1, q1⟩ => args_nil ?_) na) na rfl
  obtain ⟨l, bs, rfl, hq, hl, k⟩ := q1
  cases r1
  obtain ⟨its, r, pl, hz⟩ := I1.list hq
  have hlen : its.toArray.size = bs.length := by rw [List.size_toArray, ← r.length, List.length_map]
  refine call_setK (knd := PpSet.boolK X.prog X.w) (fun i => bs.getD i false) (I1.ok.hd hc) pl.isList (fun i v hv => ?_) (by rw [hlen]; unfold scanBound; omega) fun h' tk hS hk => args_nil ?_
  · rw [vals_bl r i v (by simpa using hv)]
    exact ⟨PpSet.boolK_is _ _ _, rfl⟩
  · rw [hlen] at hS
    obtain ⟨o, es, ep, t, ho, hex, hd, _, _, _, hf, hn⟩ := hS
    have hle := gm_le (fun i => bs.getD i false) bs.length
    have I2 : Inv X pins σ H1 { s1 with heap := h', toks := tk } := I1.kept fun b o e => hk b o (Heap.lt_size e) e
    exact call_len_set ho hex hd hf (by rw [hn]; omega) ⟨.int ((gm (fun i => bs.getD i false) bs.length).length : Nat), H1, I2.tok _, ⟨_, by rw [hn]⟩, k⟩
theorem eLenSetN (K : PySem.W.Frag) (hg : Gl X "len") (hm : X.mg "len" = none) (hg2 : Gl X "set") (hm2 : X.mg "set" = none) (ha : PE X a ta) (hc : X.calm = true := by rfl) (na : starEach [a] X.env = (false, eval a X.env) :: starEach [] X.env := by rfl) (hK : X.K = K := by rfl) :
    PE X (.Call (.Name "len" p) [.Call (.Name "set" p2) [a] [] q] [] pos) (tLenSetN K ta) := by
  subst hK
  refine ⟨fun pins s σ H Q I h => Call_ (ld_blt I hg hm boot_len ?_)⟩
  refine callWith_builtin1 (args_cons (Call_ (ld_blt I hg2 hm2 boot_set ?_)) rfl) rfl rfl
  refine callWith_type1 (args_cons (thn (ha.run pins s σ H _ I h) fun v s1 ⟨x, H1, I1, r1, q1⟩ => args_nil ?_) na) na rfl
  obtain ⟨l, bs, rfl, hq, hl, k⟩ := q1
  cases r1
  obtain ⟨its, r, pl, hz⟩ := I1.list hq
  have hlen : its.toArray.size = bs.length := by rw [List.size_toArray, ← r.length, List.length_map]
  refine call_setK (knd := intKind X.prog X.w) (fun i => bs.getD i 0) (I1.ok.hd hc) pl.isList (fun i v hv => ?_) (by rw [hlen]; unfold scanBound; omega) fun h' tk hS hk => args_nil ?_
  · obtain ⟨z, e⟩ := vals_int r i v (by simpa using hv)
    rw [e]
    exact ⟨intKind_is _ _ _ _, rfl⟩
  · rw [hlen] at hS
    obtain ⟨o, es, ep, t, ho, hex, hd, _, _, _, hf, hn⟩ := hS
    have hle := gm_le (fun i => bs.getD i 0) bs.length
    have I2 : Inv X pins σ H1 { s1 with heap := h', toks := tk } := I1.kept fun b o e => hk b o (Heap.lt_size e) e
    exact call_len_set ho hex hd hf (by rw [hn]; omega) ⟨.int ((gm (fun i => bs.getD i 0) bs.length).length : Nat), H1, I2.tok _, ⟨_, by rw [hn]⟩, k⟩
end
section
variable {K : PySem.W.Frag} {σ : L2.St} {H : Hp} {Q : VK} {te : TE} {a : Addr}
def lsBK (K : PySem.W.Frag) (Q : VK) : VK := fun x H1 => ∃ (l : Addr) (bs : List Bool), x = .ref l ∧ SqL K H1 l (bs.map V.bl) ∧ bs.length ≤ 4000 ∧ Q (.int ((gm (fun i => bs.getD i false) bs.length).length : Nat)) H1
theorem go_lsB (k : te σ H (lsBK K Q)) : tLenSetB K te σ H Q := k
theorem go_lsBK {bs : List Bool} (h : SqL K H a (bs.map V.bl)) (hl : bs.length ≤ 4000) (k : Q (.int ((gm (fun i => bs.getD i false) bs.length).length : Nat)) H) : lsBK K Q (.ref a) H := ⟨a, bs, rfl, h, hl, k⟩
def lsNK (K : PySem.W.Frag) (Q : VK) : VK := fun x H1 => ∃ (l : Addr) (ns : List Int), x = .ref l ∧ SqL K H1 l (ns.map V.int) ∧ ns.length ≤ 4000 ∧ Q (.int ((gm (fun i => ns.getD i 0) ns.length).length : Nat)) H1
theorem go_lsN (k : te σ H (lsNK K Q)) : tLenSetN K te σ H Q := k
theorem go_lsNK {ns : List Int} (h : SqL K H a (ns.map V.int)) (hl : ns.length ≤ 4000) (k : Q (.int ((gm (fun i => ns.getD i 0) ns.length).length : Nat)) H) : lsNK K Q (.ref a) H := ⟨a, ns, rfl, h, hl, k⟩
end
/-- l.count(b), l of truths -/
def rCnt (K : PySem.W.Frag) : V → List V → Hp → VK → Prop := fun x xs H Q => ∃ (a : Addr) (bs : List Bool) (b : Bool), x = .ref a ∧ xs = [.bl b] ∧ SqL K H a (bs.map V.bl) ∧ Q (.int ((bs.countP fun y => y == b : Nat) : Int)) H
theorem dpAll_bls {K : PySem.W.Frag} {H : Hp} : ∀ l : List Bool, DpAll K H (l.map V.bl) (l.map .bool)
  | [] => .nil
  | b :: l => .cons (.bl b) (dpAll_bls l)
theorem plain_bls : ∀ l : List Bool, PyData.plainAll (l.map .bool) = true
  | [] => by simp [PyData.plainAll]
  | b :: l => by simp [PyData.plainAll, PyData.plain, plain_bls l]
theorem depth_bls : ∀ l : List Bool, PyData.depthAll (l.map .bool) ≤ 1
  | [] => by simp [PyData.depthAll]
  | b :: l => by
    have := depth_bls l
    simp only [List.map_cons, PyData.depthAll, PyData.depth]
    omega
theorem mCnt (K : PySem.W.Frag) (hu : X.A.units + 64 < cLine) (hK : X.K = K := by rfl) : MtR X "list.count" (rCnt K) := by
  subst hK
  intro pins s σ H x xs v us Q I rx rxs h
  obtain ⟨a, bs, b, rfl, rfl, hs, q⟩ := h
  cases rx
  cases rxs with
  | cons ry rt =>
    cases rt
    cases (show _ = Value.bool b from ry)
    obtain ⟨its, rv, pl, hz⟩ := I.list hs
    obtain ⟨as, h4⟩ := Dp.readsAll I _ _ its (dpAll_bls bs) rv
    have hd := depth_bls bs
    refine PySem.SeqAt.count_list_data pl.isList (xs := bs.map .bool) (d := .bool b) (by simpa using h4) (Reads.bool b) (plain_bls bs) (by simp [PyData.plain]) (by omega) ?_
    have e : ((bs.map PyData.bool).countP fun y => PyData.eqv y (.bool b)) = bs.countP fun y => y == b := by
      rw [List.countP_map]
      rfl
    rw [e]
    exact ⟨.int _, H, I.tok _, ⟨_, rfl⟩, q⟩
end
end Ed

/-! Chains and free things: what tied hands back. -/
namespace Ed
open PySem L2 Deal
theorem hi_inj {o u : Option Nat} (h : hi o = hi u) : o = u := by
  match o, u with
  | none, none => rfl
  | some a, some b =>
    have h : (a : Int) = (b : Int) := h
    rw [Int.ofNat.inj h]
  | none, some b =>
    have h : (-1 : Int) = (b : Int) := h
    omega
  | some a, none =>
    have h : (a : Int) = (-1 : Int) := h
    omega
/-- the sides with x's part turned -/
def tnl (n : Nat) (s : S) (x : Nat) : List Int := (List.range n).map fun i => if decide (s.heads i = s.heads x) = true then 1 - si (s.sides i) else si (s.sides i)
theorem tnl_len {n : Nat} {s : S} {x : Nat} : (tnl n s x).length = n := by simp [tnl]
theorem tnl_get {n : Nat} {s : S} {x i : Nat} (h : i < n) : (tnl n s x).getD i 0 = if decide (s.heads i = s.heads x) = true then 1 - si (s.sides i) else si (s.sides i) := by
  unfold tnl
  rw [List.getD_eq_getElem?_getD, List.getElem?_map, List.getElem?_range h]
  rfl
section
variable {n : Nat} {rs : List (List Nat)} {s : S} {dep : Nat → Nat} {x y : Nat}
theorem tnl_even (G : Good n rs) (F : Fin n rs s dep) (hb : s.bar = none) : isEven n rs (tnl n s x) = true := by
  rw [even_iff G]
  refine ⟨tnl_len, ?_, fun k a b ha => ?_⟩
  · rw [List.all_eq_true]
    intro z hz
    unfold tnl at hz
    rw [List.mem_map] at hz
    obtain ⟨i, hi, rfl⟩ := hz
    have := si_some (F.sd i (List.mem_range.mp hi))
    rw [is01_iff]
    split <;> omega
  · obtain ⟨l1, l2, _⟩ := G.adj_lt ha
    have hne := F.even hb k a b ha
    have hh := F.adj k a b ha
    have h1 := si_some (F.sd a l1)
    have h2 := si_some (F.sd b l2)
    have h3 : si (s.sides a) ≠ si (s.sides b) := fun z => hne (si_inj z)
    rw [tnl_get l1, tnl_get l2, hh]
    split <;> omega
theorem free_ok (G : Good n rs) (F : Fin n rs s dep) (hb : s.bar = none) (hx : x < n) (hy : y < n) (hh : s.heads x ≠ s.heads y) :
    (s.sides x = s.sides y → isFree n rs x y (dl n s) (tnl n s x) = true) ∧ (s.sides x ≠ s.sides y → isFree n rs x y (tnl n s x) (dl n s) = true) := by
  have e1 := dl_even G F hb
  have e2 := tnl_even (x := x) G F hb
  have h1 := si_some (F.sd x hx)
  have h2 := si_some (F.sd y hy)
  have g1 : (tnl n s x).getD x 0 = 1 - si (s.sides x) := by rw [tnl_get hx, if_pos (decide_eq_true rfl)]
  have g2 : (tnl n s x).getD y 0 = si (s.sides y) := by rw [tnl_get hy, if_neg (by simpa using fun z => hh (Eq.symm z))]
  constructor
  · intro e
    unfold isFree
    rw [if_pos ⟨e1, e2⟩, dl_get hx, dl_get hy, g1, g2, e, decide_eq_true rfl, decide_eq_false (by omega)]
    rfl
  · intro e
    have : si (s.sides x) ≠ si (s.sides y) := fun z => e (si_inj z)
    unfold isFree
    rw [if_pos ⟨e2, e1⟩, dl_get hx, dl_get hy, g1, g2, decide_eq_true (by omega), decide_eq_false this]
    rfl
theorem getD_head {l : List Nat} {x : Nat} (h : l.head? = some x) : l.getD 0 0 = x := by
  cases l with
  | nil => cases h
  | cons z l => simpa using h
theorem getD_lastN {l : List Nat} {x : Nat} (h : l.getLast? = some x) : l.getD (l.length - 1) 0 = x := by
  rw [List.getLast?_eq_getElem?] at h
  rw [List.getD_eq_getElem?_getD, h]
  rfl
theorem ch_lt (G : Good n rs) {ts ps : List Nat} (h : Ch (Adj rs) ts ps) (hh : ts.head? = some x) (hx : x < n) : ∀ i, i < ts.length → ts.getD i 0 < n := by
  intro i hi
  have hl := h.len
  cases i with
  | zero => rw [getD_head hh]; exact hx
  | succ i => exact (G.adj_lt (Ch.nth h i (by omega))).2.1
theorem way_ok (G : Good n rs) {ts ps : List Nat} (h : Ch (Adj rs) ts ps) (hh : ts.head? = some x) (hl : ts.getLast? = some y) (hx : x < n) : isWay n rs x y (iN ts) (iN ps) = true := by
  have ne : ts ≠ [] := fun e => by rw [e] at hh; cases hh
  unfold isWay
  rw [if_neg]
  · exact chain_ok G h (ch_lt G h hh hx)
  · rw [iN_len, iN_get, iN_get, getD_head hh, getD_lastN hl]
    rintro (e | e | e)
    · refine ne (List.length_eq_zero_iff.mp ?_)
      rw [← iN_len, e]
      rfl
    · exact e rfl
    · exact e rfl
theorem way_more {x y : Int} {ts ps : List Int} (h : ps.length + 1 = ts.length) : isWay n rs x y (ts ++ [0]) ps = false := by
  unfold isWay
  split
  · rfl
  · unfold isChain
    rw [if_pos (.inr (by rw [List.length_append]; simp; omega))]
theorem free_more {d e : List Int} (h : d.length = n) : isFree n rs x y (d ++ [0]) e = false := by
  unfold isFree
  rw [even_more h, if_neg (fun z => nomatch z.1)]
/-- along a chain the sides are known -/
theorem even_way (G : Good n rs) {d : List Int} (he : isEven n rs d = true) {ts ps : List Nat} (h : Ch (Adj rs) ts ps) (hh : ts.head? = some x) (hl : ts.getLast? = some y) (hx : x < n) (hy : y < n) : decide (d.getD x 0 = d.getD y 0) = decide (ps.length % 2 = 0) := by
  obtain ⟨e1, e2, e3⟩ := (even_iff G).mp he
  have key : ∀ k a b, Adj rs k a b → (some (decide (d.getD a 0 = 1)) : Option Bool) = flip (some (decide (d.getD b 0 = 1))) := fun k a b ha => by
    obtain ⟨l1, l2, _⟩ := G.adj_lt ha
    have g1 := is01_iff.mp (all_getD e2 (show a < d.length by omega))
    have g2 := is01_iff.mp (all_getD e2 (show b < d.length by omega))
    have := e3 k a b ha
    rcases g1 with g1 | g1
    · rcases g2 with g2 | g2
      · exact absurd (g1.trans g2.symm) this
      · rw [g1, g2]; rfl
    · rcases g2 with g2 | g2
      · rw [g1, g2]; rfl
      · exact absurd (g1.trans g2.symm) this
  have p := ch_par (d := fun a => some (decide (d.getD a 0 = 1))) key h hh hl
  have g1 := is01_iff.mp (all_getD e2 (show x < d.length by omega))
  have g2 := is01_iff.mp (all_getD e2 (show y < d.length by omega))
  unfold nflip at p
  by_cases hp : ps.length % 2 = 0
  · rw [if_pos hp] at p
    rw [decide_eq_true hp, decide_eq_true_eq]
    rcases g1 with g1 | g1 <;> rcases g2 with g2 | g2
    · exact g1.trans g2.symm
    · rw [g1, g2] at p; cases p
    · rw [g1, g2] at p; cases p
    · exact g1.trans g2.symm
  · rw [if_neg hp] at p
    rw [decide_eq_false hp, decide_eq_false_iff_not]
    rcases g1 with g1 | g1 <;> rcases g2 with g2 | g2
    · rw [g1, g2] at p; cases p
    · rw [g1, g2]; decide
    · rw [g1, g2]; decide
    · rw [g1, g2] at p; cases p
end
/-! ### all even dealings of few things -/
def evs (n : Nat) (rs : List (List Nat)) : List Nat := (List.range (2 ^ n)).filter fun m => isEven n rs (digs n m)
theorem evs_nil {n : Nat} {rs : List (List Nat)} (G : Good n rs) : evs n rs = [] ↔ (walk n rs).bar ≠ none := by
  have h := any_even G
  unfold evs
  rw [List.filter_eq_nil_iff]
  constructor
  · intro hn hb
    rw [decide_eq_true hb, List.any_eq_true] at h
    obtain ⟨m, h1, h2⟩ := h
    exact hn m h1 h2
  · intro hb m hm he
    rw [decide_eq_false hb, List.any_eq_false] at h
    exact h m hm he
theorem evs_of {n : Nat} {rs : List (List Nat)} {d : List Int} (G : Good n rs) (h : isEven n rs d = true) : ∃ m, m ∈ evs n rs ∧ digs n m = d := by
  obtain ⟨e1, e2, _⟩ := (even_iff G).mp h
  obtain ⟨m, h1, h2⟩ := digs_all e2
  rw [e1] at h1 h2
  refine ⟨m, ?_, h2⟩
  unfold evs
  rw [List.mem_filter]
  exact ⟨List.mem_range.mpr h1, by rw [h2]; exact h⟩
theorem bool_two : ∀ {l : List Bool}, l.Nodup → (l.length = 2 ↔ true ∈ l ∧ false ∈ l)
  | [], _ => by simp
  | [a], _ => by cases a <;> simp
  | [a, b], h => by cases a <;> cases b <;> simp_all
  | a :: b :: c :: l, h => by
    exfalso
    simp only [List.nodup_cons, List.mem_cons, not_or] at h
    cases a <;> cases b <;> cases c <;> simp_all
theorem gm_list {bs : List Bool} {b : Bool} : b ∈ gm (fun i => bs.getD i false) bs.length ↔ b ∈ bs := by
  rw [gm_mem]
  constructor
  · rintro ⟨j, hj, e⟩
    rw [List.getD_eq_getElem?_getD, List.getElem?_eq_getElem hj] at e
    have e : bs[j] = b := e
    rw [← e]
    exact List.getElem_mem hj
  · intro h
    obtain ⟨j, hj, e⟩ := List.getElem_of_mem h
    refine ⟨j, hj, ?_⟩
    rw [List.getD_eq_getElem?_getD, List.getElem?_eq_getElem hj]
    exact e
/-- just where two ways of the two things are found they are free -/
theorem free_two {n : Nat} {rs : List (List Nat)} (G : Good n rs) {x y : Nat} (hx : x < n) (hy : y < n) {bs : List Bool} (e : bs = (evs n rs).map fun m => decide ((digs n m).getD x 0 = (digs n m).getD y 0)) :
    decide (((gm (fun i => bs.getD i false) bs.length).length : Int) = 2) = decide ((walk n rs).bar = none ∧ (walk n rs).heads x ≠ (walk n rs).heads y) := by
  obtain ⟨dep, F⟩ := walk_fin G
  have h2 := bool_two (gm_nodup (fun i => bs.getD i false) bs.length)
  rw [gm_list, gm_list] at h2
  have h3 : (((gm (fun i => bs.getD i false) bs.length).length : Int) = 2) ↔ true ∈ bs ∧ false ∈ bs := by
    rw [← h2]
    omega
  rw [Bool.eq_iff_iff, decide_eq_true_eq, decide_eq_true_eq, h3, e]
  constructor
  · rintro ⟨h4, h5⟩
    rw [List.mem_map] at h4 h5
    obtain ⟨m1, a1, b1⟩ := h4
    obtain ⟨m2, a2, b2⟩ := h5
    have hb : (walk n rs).bar = none := by
      cases hq : (walk n rs).bar with
      | none => rfl
      | some b =>
        have := (evs_nil G).mpr (by rw [hq]; exact fun z => nomatch z)
        rw [this] at a1
        cases a1
    refine ⟨hb, fun hh => ?_⟩
    obtain ⟨c, ch, cl⟩ := F.chain G hx hy hh
    have c' : Ch (Adj rs) _ _ := Ch.mono (fun _ _ _ r => r.1) c
    unfold evs at a1 a2
    rw [List.mem_filter] at a1 a2
    have w1 := even_way G a1.2 c' ch cl hx hy
    have w2 := even_way G a2.2 c' ch cl hx hy
    rw [b1] at w1
    rw [b2, ← w1] at w2
    cases w2
  · rintro ⟨hb, hh⟩
    have e1 := dl_even G F hb
    have e2 := tnl_even (x := x) G F hb
    obtain ⟨m1, a1, b1⟩ := evs_of G e1
    obtain ⟨m2, a2, b2⟩ := evs_of G e2
    have i1 := si_some (F.sd x hx)
    have i2 := si_some (F.sd y hy)
    have g1 : (tnl n (walk n rs) x).getD x 0 = 1 - si ((walk n rs).sides x) := by rw [tnl_get hx, if_pos (decide_eq_true rfl)]
    have g2 : (tnl n (walk n rs) x).getD y 0 = si ((walk n rs).sides y) := by rw [tnl_get hy, if_neg (by simpa using fun z => hh (Eq.symm z))]
    rw [List.mem_map, List.mem_map]
    by_cases hs : si ((walk n rs).sides x) = si ((walk n rs).sides y)
    · exact ⟨⟨m1, a1, by rw [b1, dl_get hx, dl_get hy]; exact decide_eq_true hs⟩, ⟨m2, a2, by rw [b2, g1, g2]; exact decide_eq_false (by omega)⟩⟩
    · exact ⟨⟨m2, a2, by rw [b2, g1, g2]; exact decide_eq_true (by omega)⟩, ⟨m1, a1, by rw [b1, dl_get hx, dl_get hy]; exact decide_eq_false hs⟩⟩
/-! ### what tied hands back -/
inductive Told (CR CC CF : Addr) (H0 H : Hp) (n : Nat) (rs : List (List Nat)) (x y : Nat) (e : Addr) : Prop where
  | ring {dx l m : Addr} {ts ps : List Int} (hb : (walk n rs).bar ≠ none) (he : H e = some (.ins CR dx (f2 "things" "places" l m))) (hl : H l = some (.lst (ts.map V.int))) (hm : H m = some (.lst (ps.map V.int))) (ne : H0 e = none) (nl : H0 l = none) (nm : H0 m = none) (lm : l ≠ m)
      (ok : isRing n rs ts ps = true) (ev : ts.length % 2 = 0) (lt : ts.length ≤ 5001) (lp : ps.length ≤ 5001)
  | chain {dx l m : Addr} {ts ps : List Int} (hb : (walk n rs).bar = none) (hh : (walk n rs).heads x = (walk n rs).heads y) (he : H e = some (.ins CC dx (f2 "things" "places" l m))) (hl : H l = some (.lst (ts.map V.int))) (hm : H m = some (.lst (ps.map V.int))) (ne : H0 e = none) (nl : H0 l = none) (nm : H0 m = none) (lm : l ≠ m)
      (ok : isWay n rs x y ts ps = true) (ev : ps.length + 1 = ts.length) (lt : ts.length ≤ 5001) (lp : ps.length ≤ 5001)
  | free {dx l m : Addr} {ts ps : List Int} (hb : (walk n rs).bar = none) (hh : (walk n rs).heads x ≠ (walk n rs).heads y) (he : H e = some (.ins CF dx (f2 "same" "unlike" l m))) (hl : H l = some (.lst (ts.map V.int))) (hm : H m = some (.lst (ps.map V.int))) (ne : H0 e = none) (nl : H0 l = none) (nm : H0 m = none) (lm : l ≠ m)
      (ok : isFree n rs x y ts ps = true) (lt : ts.length = n) (lp : ps.length = n)
end Ed
namespace Ed
open PySem L2 Deal
section
variable {CR CC CF : Addr} {H0 H : Hp} {n : Nat} {rs : List (List Nat)} {x y : Nat} {e : Addr}
theorem Told.isRing (h : Told CR CC CF H0 H n rs x y e) (hb : ¬ (walk n rs).bar = none) : ∃ (dx l m : Addr) (ts ps : List Int), H e = some (.ins CR dx (f2 "things" "places" l m)) ∧ H l = some (.lst (ts.map V.int)) ∧ H m = some (.lst (ps.map V.int)) ∧ H0 e = none ∧ H0 l = none ∧ H0 m = none ∧ l ≠ m ∧ Deal.isRing n rs ts ps = true ∧ ts.length % 2 = 0 ∧ ts.length ≤ 5001 ∧ ps.length ≤ 5001 := by
  cases h with
  | ring hb he hl hm ne nl nm lm ok ev lt lp => exact ⟨_, _, _, _, _, he, hl, hm, ne, nl, nm, lm, ok, ev, lt, lp⟩
  | chain hb' => exact absurd hb' hb
  | free hb' => exact absurd hb' hb
theorem Told.isChain (h : Told CR CC CF H0 H n rs x y e) (hb : (walk n rs).bar = none) (hh : (walk n rs).heads x = (walk n rs).heads y) : ∃ (dx l m : Addr) (ts ps : List Int), H e = some (.ins CC dx (f2 "things" "places" l m)) ∧ H l = some (.lst (ts.map V.int)) ∧ H m = some (.lst (ps.map V.int)) ∧ H0 e = none ∧ H0 l = none ∧ H0 m = none ∧ l ≠ m ∧ isWay n rs x y ts ps = true ∧ ps.length + 1 = ts.length ∧ ts.length ≤ 5001 ∧ ps.length ≤ 5001 := by
  cases h with
  | ring hb' => exact absurd hb hb'
  | chain _ _ he hl hm ne nl nm lm ok ev lt lp => exact ⟨_, _, _, _, _, he, hl, hm, ne, nl, nm, lm, ok, ev, lt, lp⟩
  | free _ hh' => exact absurd hh hh'
theorem Told.isFree (h : Told CR CC CF H0 H n rs x y e) (hb : (walk n rs).bar = none) (hh : ¬ (walk n rs).heads x = (walk n rs).heads y) : ∃ (dx l m : Addr) (ts ps : List Int), H e = some (.ins CF dx (f2 "same" "unlike" l m)) ∧ H l = some (.lst (ts.map V.int)) ∧ H m = some (.lst (ps.map V.int)) ∧ H0 e = none ∧ H0 l = none ∧ H0 m = none ∧ l ≠ m ∧ Deal.isFree n rs x y ts ps = true ∧ ts.length = n ∧ ps.length = n := by
  cases h with
  | ring hb' => exact absurd hb hb'
  | chain _ hh' => exact absurd hh' hh
  | free _ _ he hl hm ne nl nm lm ok lt lp => exact ⟨_, _, _, _, _, he, hl, hm, ne, nl, nm, lm, ok, lt, lp⟩
end
end Ed

/-! Lists of dealings. -/
namespace Ed
open PySem L2 Deal
section
variable {σ : L2.St} {H : Hp} {te : TE} {Q : VK}
/-- an expression by what is known of its value -/
theorem cut_li (P : V → Hp → Prop) (h : ∀ R : VK, (∀ v H2, P v H2 → R v H2) → te σ H R) (k : ∀ v H2, P v H2 → Q v H2) : te σ H Q := h Q k
end
theorem mod_nat {n : Nat} (h : 0 < n) (z : Int) : ∃ x : Nat, x < n ∧ z % (n : Int) = (x : Int) := by
  have h1 := Int.emod_nonneg z (b := (n : Int)) (by omega)
  have h2 := Int.emod_lt_of_pos z (b := (n : Int)) (by omega)
  exact ⟨(z % (n : Int)).toNat, by omega, by omega⟩
theorem range_map {α β : Type} {φ : α → β} {z : α} : ∀ {l : List α}, (List.range l.length).map (fun j => φ (l.getD j z)) = l.map φ
  | [] => rfl
  | x :: l => by
    rw [List.length_cons, List.range_succ_eq_map, List.map_cons, List.map_cons, List.map_map, ← range_map (φ := φ) (z := z) (l := l)]
    rfl
def dRI (l : List (List Int)) : PyData := .list (l.map dI)
theorem lay_RI : ∀ l : List (List Int), PyData.canLayAll0 (l.map dI) = true
  | [] => by simp [PyData.canLayAll0]
  | r :: l => by
    have h : PyData.canLay0 (dI r) = true := by simp only [dI, PyData.canLay0]; exact lay_ints _
    simp [PyData.canLayAll0, h, lay_RI l]
theorem depth_RI : ∀ l : List (List Int), PyData.depthAll (l.map dI) ≤ 2
  | [] => by simp [PyData.depthAll]
  | r :: l => by
    have h1 := depth_RI l
    have h2 : PyData.depth (dI r) ≤ 2 := by
      have := depth_ints r
      simp only [dI, PyData.depth]
      omega
    simp only [List.map_cons, PyData.depthAll]
    omega
theorem shaped_RI (l : List (List Int)) : SeqAt.shaped (dRI l) = true := by
  have h1 := depth_RI l
  have h2 : PyData.depth (dRI l) ≤ 64 := by
    simp only [dRI, PyData.depth]
    omega
  show (PyData.canLay0 (dRI l) && decide (PyData.depth (dRI l) ≤ 64)) = true
  rw [Bool.and_eq_true]
  exact ⟨by simp only [dRI, PyData.canLay0]; exact lay_RI l, decide_eq_true h2⟩
theorem eqvAll_RI : ∀ l m : List (List Int), PyData.eqvAll (l.map dI) (m.map dI) = decide (l = m)
  | [], [] => by simp [PyData.eqvAll]
  | [], _ :: _ => by simp [PyData.eqvAll]
  | _ :: _, [] => by simp [PyData.eqvAll]
  | x :: l, y :: m => by
    rw [List.map_cons, List.map_cons, PyData.eqvAll, eqvAll_RI l m, eqv_ints, Bool.eq_iff_iff, Bool.and_eq_true, decide_eq_true_eq, decide_eq_true_eq, decide_eq_true_eq]
    constructor
    · rintro ⟨h1, h2⟩
      rw [h1, h2]
    · intro h
      injection h with h1 h2
      exact ⟨h1, h2⟩
theorem eqv_RI (l m : List (List Int)) : PyData.eqv (dRI l) (dRI m) = decide (l = m) := by
  unfold dRI
  rw [PyData.eqv]
  exact eqvAll_RI l m
/-- references to lists of numbers -/
inductive ListsV (K : PySem.W.Frag) (H : Hp) : List V → List (List Int) → Prop where
  | nil : ListsV K H [] []
  | cons {p : Addr} {r : List Int} {xs : List V} {rs : List (List Int)} (h : SqL K H p (r.map V.int)) (t : ListsV K H xs rs) : ListsV K H (.ref p :: xs) (r :: rs)
section
variable {K : PySem.W.Frag} {H H' : Hp} {Q : VK} {a b : Addr}
theorem ListsV.dp : ∀ {xs : List V} {rs : List (List Int)}, ListsV K H xs rs → DpAll K H xs (rs.map dI)
  | _, _, .nil => .nil
  | _, _, .cons h t => .cons (dp_ints h) (ListsV.dp t)
theorem ListsV.same (s : Same H H') : ∀ {xs : List V} {rs : List (List Int)}, ListsV K H xs rs → ListsV K H' xs rs
  | _, _, .nil => .nil
  | _, _, .cons h t => .cons (s.seq h) (ListsV.same s t)
theorem ListsV.len : ∀ {xs : List V} {rs : List (List Int)}, ListsV K H xs rs → xs.length = rs.length
  | _, _, .nil => rfl
  | _, _, .cons _ t => by rw [List.length_cons, List.length_cons, ListsV.len t]
theorem ListsV.get : ∀ {xs : List V} {rs : List (List Int)}, ListsV K H xs rs → ∀ k, k < rs.length → ∃ p, xs[k]? = some (.ref p) ∧ SqL K H p ((rs.getD k []).map V.int)
  | _, _, .nil, k, hk => absurd hk (by simp)
  | _, _, .cons (p := p) h t, 0, _ => ⟨p, rfl, h⟩
  | _, _, .cons h t, k + 1, hk => by
    obtain ⟨p, e, hp⟩ := ListsV.get t k (by simpa using hk)
    exact ⟨p, by simpa using e, by simpa using hp⟩
theorem ListsV.of : ∀ {xs : List V} {rs : List (List Int)}, xs.length = rs.length → (∀ k, k < rs.length → ∃ p, xs[k]? = some (.ref p) ∧ SqL K H p ((rs.getD k []).map V.int)) → ListsV K H xs rs
  | [], [], _, _ => .nil
  | [], _ :: _, h, _ => by simp at h
  | _ :: _, [], h, _ => by simp at h
  | x :: xs, r :: rs, h, hk => by
    obtain ⟨p, e, hp⟩ := hk 0 (by simp)
    have e : x = .ref p := by simpa using e
    subst e
    refine .cons (by simpa using hp) (ListsV.of (by simpa using h) fun k hlt => ?_)
    obtain ⟨q, e2, hq⟩ := hk (k + 1) (by simp; omega)
    exact ⟨q, by simpa using e2, by simpa using hq⟩
theorem go_eqRI {xs ys : List V} {l m : List (List Int)} (h : SqL K H a xs) (hl : ListsV K H xs l) (h' : SqL K H b ys) (hm : ListsV K H ys m) (k : Q (.bl (decide (l = m))) H) : rEqD K (.ref a) (.ref b) H Q :=
  go_eqD (.lst h hl.dp) (.lst h' hm.dp) (shaped_RI l) (shaped_RI m) (by show Q (.bl (PyData.eqv (dRI l) (dRI m))) H; rw [eqv_RI]; exact k)
end
end Ed

/-! Statements as a whole; a list unpacked; slices of lists of numbers. -/
namespace Ed
open PySem L2 Deal
section
variable {X : Cx} {K : PySem.W.Frag} {σ : L2.St} {H : Hp} {t : TS} {D : Ends} {R : L2.St → Hp → Prop} {a : Addr}
/-- a statement by what stands after it -/
theorem cut_s (P : L2.St → Hp → Prop) (h : ∀ N : L2.St → Hp → Prop, (∀ σ' H', P σ' H' → N σ' H') → t { D with nx := N } σ H) (k : ∀ σ' H', P σ' H' → D.nx σ' H') : t D σ H := h D.nx k
theorem gUnp (K : PySem.W.Frag) {pos : Pos} {es : List Expr} {k : Nat} {t : TGs} {n : Nat} (hc : X.calm = true) (h : PGs X es t) (hn : (assignEach es X.env).length = n := by rfl) (hst : (assignEach es X.env).findIdx? (·.1) = none := by rfl) (hK : X.K = K := by rfl) : PG X (.Tuple es k pos) (gUnl K n t) := by
  subst hK
  exact pg_unl hc h hn hst
theorem go_gunl {n : Nat} {tgs : TGs} {xs : List V} (h : SqL K H a xs) (hl : xs.length = n) (k : tgs xs σ H R) : gUnl K n tgs (.ref a) σ H R := ⟨a, xs, rfl, h, hl, k⟩
end
theorem cut_ints (us : List Int) (lo hi : Option Int) : ∃ ws : List Int, cutV (us.map V.int) lo hi = ws.map V.int ∧ ws.length ≤ us.length := by
  unfold cutV
  refine ⟨_, by rw [← List.map_drop, ← List.map_take], ?_⟩
  rw [List.length_take, List.length_drop]
  omega
end Ed
namespace Ed
open PySem L2 Deal
theorem tail_len (us : List Int) (w : Nat) : (cutV (us.map V.int) (some ((w : Int) + 1)) none).length + min w us.length ≤ us.length := by
  rw [show ((w : Int) + 1) = ((w + 1 : Nat) : Int) by omega, cut_from, List.length_drop, List.length_map]
  omega
theorem cut_one (us : List Int) (w : Nat) : ∃ ws : List Int, cutV (us.map V.int) (some (w : Int)) (some ((w : Int) + 1)) = ws.map V.int ∧ ws.length ≤ 1 := by
  rw [show ((w : Int) + 1) = ((w + 1 : Nat) : Int) by omega]
  unfold cutV
  rw [HT.sIx_nat, HT.sIx_nat]
  refine ⟨_, by rw [← List.map_drop, ← List.map_take], ?_⟩
  rw [List.length_take]
  omega
end Ed
namespace Ed
theorem all_rep {n : Nat} : (List.replicate n true).all id = true := by simp
end Ed

/-! Numbers of dealings. -/
namespace Ed
open PySem L2 Deal
def hds (n : Nat) (s : S) : List Nat := (List.range n).filter fun x => decide (s.heads x = some x)
def cntN (n : Nat) (s : S) : Nat := if s.bar = none then 2 ^ (hds n s).length else 0
/-- the place of x's head -/
def hix (n : Nat) (s : S) (x : Nat) : Nat := (hds n s).idxOf ((s.heads x).getD 0)
def dln (n : Nat) (s : S) (k : Nat) : List Int := (List.range n).map fun i => if k / 2 ^ hix n s i % 2 = 1 then 1 - si (s.sides i) else si (s.sides i)
def valB : List Int → Int
  | [] => 0
  | b :: l => b + 2 * valB l
def nof (n : Nat) (s : S) (d : List Int) : Int := valB ((hds n s).map fun h => d.getD h 0)
theorem hds_len {n : Nat} {s : S} : (hds n s).length ≤ n := by
  unfold hds
  have := List.length_filter_le (fun x => decide (s.heads x = some x)) (List.range n)
  rw [List.length_range] at this
  exact this
theorem hds_nodup {n : Nat} {s : S} : (hds n s).Nodup := List.nodup_range.filter _
theorem hds_mem {n : Nat} {s : S} {x : Nat} : x ∈ hds n s ↔ x < n ∧ s.heads x = some x := by
  unfold hds
  rw [List.mem_filter, List.mem_range, decide_eq_true_eq]
theorem dln_len {n : Nat} {s : S} {k : Nat} : (dln n s k).length = n := by simp [dln]
theorem dln_get {n : Nat} {s : S} {k i : Nat} (h : i < n) : (dln n s k).getD i 0 = if k / 2 ^ hix n s i % 2 = 1 then 1 - si (s.sides i) else si (s.sides i) := by
  unfold dln
  rw [List.getD_eq_getElem?_getD, List.getElem?_map, List.getElem?_range h]
  rfl
/-! ### bits -/
theorem val_sum : ∀ (l : List Int), ((List.range l.length).map fun j => l.getD j 0 * 2 ^ j).sum = valB l
  | [] => rfl
  | b :: l => by
    rw [List.length_cons, List.range_succ_eq_map, List.map_cons, List.map_map, List.sum_cons]
    have ih := val_sum l
    have e : ((List.range l.length).map ((fun j => (b :: l).getD j 0 * 2 ^ j) ∘ Nat.succ)).sum = 2 * ((List.range l.length).map fun j => l.getD j 0 * 2 ^ j).sum := by
      generalize List.range l.length = r
      induction r with
      | nil => rfl
      | cons x r ihr =>
        rw [List.map_cons, List.map_cons, List.sum_cons, List.sum_cons, ihr]
        show l.getD x 0 * 2 ^ (x + 1) + _ = 2 * (l.getD x 0 * 2 ^ x + _)
        rw [Int.pow_succ, Int.mul_add]
        congr 1
        rw [← Int.mul_assoc, Int.mul_comm]
    rw [e, ih]
    show b * 2 ^ 0 + 2 * valB l = b + 2 * valB l
    rw [Int.pow_zero, Int.mul_one]
theorem val_digs : ∀ (m k : Nat), k < 2 ^ m → valB (digs m k) = (k : Int)
  | 0, k, h => by
    have e : k = 0 := by
      rw [Nat.pow_zero] at h
      omega
    subst e
    rfl
  | m + 1, k, h => by
    have e : k = k % 2 + 2 * (k / 2) := by omega
    have h2 : k / 2 < 2 ^ m := by
      rw [Nat.pow_succ] at h
      omega
    have ih := val_digs m (k / 2) h2
    rw [e, digs_cons (by omega)]
    show ((k % 2 : Nat) : Int) + 2 * valB (digs m (k / 2)) = _
    rw [ih]
    omega
theorem digs_val : ∀ {l : List Int}, l.all is01 = true → 0 ≤ valB l ∧ valB l < 2 ^ l.length ∧ digs l.length (valB l).toNat = l
  | [], _ => ⟨by decide, by decide, rfl⟩
  | b :: l, h => by
    rw [List.all_cons, Bool.and_eq_true] at h
    obtain ⟨h1, h2, h3⟩ := digs_val h.2
    have hb := is01_iff.mp h.1
    have e : valB (b :: l) = b + 2 * valB l := rfl
    have p : (2 : Int) ^ (l.length + 1) = 2 ^ l.length * 2 := Int.pow_succ _ _
    refine ⟨by omega, by rw [List.length_cons, p]; omega, ?_⟩
    have e2 : (valB (b :: l)).toNat = b.toNat + 2 * (valB l).toNat := by omega
    rw [e2, List.length_cons, digs_cons (by omega), h3]
    congr 1
    omega
theorem bit_digs {m k j : Nat} (h : j < m) : (digs m k).getD j 0 = 1 ↔ k / 2 ^ j % 2 = 1 := by
  rw [digs_get h]
  omega
section
variable {n : Nat} {rs : List (List Nat)} {s : S} {dep : Nat → Nat}
theorem hd_in (F : Fin n rs s dep) {x : Nat} (hx : x < n) : ∃ g, s.heads x = some g ∧ g < n ∧ g ∈ hds n s ∧ s.sides g = some false ∧ hix n s x < (hds n s).length ∧ (hds n s).getD (hix n s x) 0 = g := by
  obtain ⟨g, g1, g2, g3, g4⟩ := F.hd x hx
  have hm : g ∈ hds n s := hds_mem.mpr ⟨g1, g3⟩
  have e : hix n s x = (hds n s).idxOf g := by unfold hix; rw [g2]; rfl
  have hl := List.idxOf_lt_length_of_mem hm
  refine ⟨g, g2, g1, hm, g4, by rw [e]; exact hl, ?_⟩
  rw [e, List.getD_eq_getElem?_getD, List.getElem?_eq_getElem hl]
  simp
theorem hix_at (F : Fin n rs s dep) {j : Nat} (hj : j < (hds n s).length) : hix n s ((hds n s).getD j 0) = j ∧ (hds n s).getD j 0 < n ∧ s.sides ((hds n s).getD j 0) = some false := by
  have e : (hds n s).getD j 0 = (hds n s)[j] := by rw [List.getD_eq_getElem?_getD, List.getElem?_eq_getElem hj]; rfl
  have hm : (hds n s)[j] ∈ hds n s := List.getElem_mem hj
  obtain ⟨h1, h2⟩ := hds_mem.mp hm
  obtain ⟨g, g1, g2, g3, g4, g5, g6⟩ := hd_in F h1
  have eg : g = (hds n s)[j] := by
    rw [h2] at g1
    exact (Option.some.inj g1).symm
  rw [e]
  refine ⟨?_, h1, by rw [← eg]; exact g4⟩
  rw [eg, List.getD_eq_getElem?_getD, List.getElem?_eq_getElem g5] at g6
  exact (List.getElem_inj hds_nodup).mp g6
theorem dln_01 (F : Fin n rs s dep) (k : Nat) : (dln n s k).all is01 = true := by
  rw [List.all_eq_true]
  intro z hz
  unfold dln at hz
  rw [List.mem_map] at hz
  obtain ⟨i, hi, rfl⟩ := hz
  have := si_some (F.sd i (List.mem_range.mp hi))
  rw [is01_iff]
  split <;> omega
theorem dln_even (G : Good n rs) (F : Fin n rs s dep) (hb : s.bar = none) (k : Nat) : isEven n rs (dln n s k) = true := by
  rw [even_iff G]
  refine ⟨dln_len, dln_01 F k, fun q a b ha => ?_⟩
  obtain ⟨l1, l2, _⟩ := G.adj_lt ha
  have hne := F.even hb q a b ha
  have hh : hix n s a = hix n s b := by
    unfold hix
    rw [F.adj q a b ha]
  have h1 := si_some (F.sd a l1)
  have h2 := si_some (F.sd b l2)
  have h3 : si (s.sides a) ≠ si (s.sides b) := fun z => hne (si_inj z)
  rw [dln_get l1, dln_get l2, hh]
  split <;> omega
theorem heads_bits (F : Fin n rs s dep) (k : Nat) : ((hds n s).map fun h => (dln n s k).getD h 0) = digs (hds n s).length k := by
  apply List.ext_getElem?
  intro j
  by_cases hj : j < (hds n s).length
  · obtain ⟨a1, a2, a3⟩ := hix_at F hj
    have e : (hds n s).getD j 0 = (hds n s)[j] := by rw [List.getD_eq_getElem?_getD, List.getElem?_eq_getElem hj]; rfl
    unfold digs
    rw [List.getElem?_map, List.getElem?_eq_getElem hj, List.getElem?_map, List.getElem?_range hj]
    show some ((dln n s k).getD (hds n s)[j] 0) = some _
    rw [← e, dln_get a2, a1, a3]
    congr 1
    have : si (some false) = 0 := rfl
    rw [this]
    show (if k / 2 ^ j % 2 = 1 then 1 - 0 else 0) = ((k / 2 ^ j % 2 : Nat) : Int)
    split <;> omega
  · rw [List.getElem?_eq_none (by rw [List.length_map]; omega), List.getElem?_eq_none (by rw [digs_len]; omega)]
theorem nof_dln (F : Fin n rs s dep) {k : Nat} (hk : k < 2 ^ (hds n s).length) : nof n s (dln n s k) = (k : Int) := by
  unfold nof
  rw [heads_bits F, val_digs _ _ hk]
theorem bits_01 (G : Good n rs) {d : List Int} (he : isEven n rs d = true) : ((hds n s).map fun h => d.getD h 0).all is01 = true := by
  obtain ⟨e1, e2, _⟩ := (even_iff G).mp he
  rw [List.all_eq_true]
  intro z hz
  rw [List.mem_map] at hz
  obtain ⟨h, hh, rfl⟩ := hz
  exact all_getD e2 (by rw [e1]; exact (hds_mem.mp hh).1)
theorem nof_lt (G : Good n rs) {d : List Int} (he : isEven n rs d = true) : 0 ≤ nof n s d ∧ nof n s d < 2 ^ (hds n s).length := by
  obtain ⟨h1, h2, _⟩ := digs_val (bits_01 (s := s) G he)
  rw [List.length_map] at h2
  exact ⟨h1, h2⟩
theorem dln_nof (G : Good n rs) (F : Fin n rs s dep) (hb : s.bar = none) {d : List Int} (he : isEven n rs d = true) : dln n s (nof n s d).toNat = d := by
  obtain ⟨e1, e2, e3⟩ := (even_iff G).mp he
  obtain ⟨h1, h2, h3⟩ := digs_val (bits_01 (s := s) G he)
  rw [List.length_map] at h3
  have hd := dl_even G F hb
  apply List.ext_getElem?
  intro i
  by_cases hi : i < n
  · have hid : i < d.length := by omega
    have hil : i < (dln n s (nof n s d).toNat).length := by rw [dln_len]; exact hi
    have q1 : (dln n s (nof n s d).toNat)[i]? = some ((dln n s (nof n s d).toNat).getD i 0) := by rw [List.getD_eq_getElem?_getD, List.getElem?_eq_getElem hil]; rfl
    have q2 : d[i]? = some (d.getD i 0) := by rw [List.getD_eq_getElem?_getD, List.getElem?_eq_getElem hid]; rfl
    rw [q1, q2, dln_get hi]
    congr 1
    obtain ⟨g, g1, g2, g3, g4, g5, g6⟩ := hd_in F hi
    have hb2 : (nof n s d).toNat / 2 ^ hix n s i % 2 = 1 ↔ d.getD g 0 = 1 := by
      rw [← bit_digs g5]
      unfold nof
      rw [h3, List.getD_eq_getElem?_getD, List.getElem?_map, List.getElem?_eq_getElem g5]
      have : (hds n s)[hix n s i] = g := by
        rw [← g6, List.getD_eq_getElem?_getD, List.getElem?_eq_getElem g5]
        rfl
      show d.getD (hds n s)[hix n s i] 0 = 1 ↔ _
      rw [this]
    obtain ⟨c, ch, cl⟩ := F.chain G hi g2 (by rw [g1]; exact (hds_mem.mp g3).2.symm)
    have c' : Ch (Adj rs) _ _ := Ch.mono (fun _ _ _ r => r.1) c
    have w1 := even_way G he c' ch cl hi g2
    have w2 := even_way G hd c' ch cl hi g2
    rw [dl_get hi, dl_get g2, g4] at w2
    rw [← w2] at w1
    have s0 : si (some false) = 0 := rfl
    rw [s0] at w1
    have d1 := is01_iff.mp (all_getD e2 hid)
    have d2 := is01_iff.mp (all_getD e2 (show g < d.length by omega))
    have d3 := si_some (F.sd i hi)
    have w3 : d.getD i 0 = d.getD g 0 ↔ si (s.sides i) = 0 := by
      rw [Bool.eq_iff_iff, decide_eq_true_eq, decide_eq_true_eq] at w1
      exact w1
    by_cases hz : d.getD g 0 = 1
    · rw [if_pos (hb2.mpr hz)]
      omega
    · rw [if_neg (fun z => hz (hb2.mp z))]
      omega
  · rw [List.getElem?_eq_none (by rw [dln_len]; omega), List.getElem?_eq_none (by omega)]
end
theorem xor_bit {a : Int} (ha : a = 0 ∨ a = 1) {b : Nat} (hb : b < 2) : Builtin.bitXor a (b : Int) = if b = 1 then 1 - a else a := by
  have h : b = 0 ∨ b = 1 := by omega
  rcases ha with rfl | rfl <;> rcases h with rfl | rfl <;> decide
end Ed
namespace Ed
open PySem L2 Deal
section
variable {σ : L2.St} {H : Hp} {Q : VK} {td ty tv : TE} {D : Ends} {a : Addr} {v : V} {kvs : List (Key × V)}
theorem go_dnew (k : ∀ p H', H p = none → Same H H' → H' p = some (.dK []) → Q (.ref p) H') : tDNewK σ H Q := fun p hp => k p _ hp (same_new hp) upd_same
def dgK (y : V) (Q : VK) (x : V) (H : Hp) : Prop := ∃ a v, x = .ref a ∧ DGet H a y (some v) ∧ Q v H
theorem go_dget (k : td σ H fun x H1 => ty σ H1 fun y H2 => dgK y Q x H2) : tDGet td ty σ H Q := k
theorem go_dgK {z : Int} (e : H a = some (.dK kvs)) (hv : valV kvs (.inl z) = some v) (k : Q v H) : dgK (.int z) Q (.ref a) H := ⟨a, v, rfl, by rw [← hv]; exact DGet.k (k := .inl z) e, k⟩
def dpK (v y : V) (D : Ends) (σ : L2.St) (x : V) (H : Hp) : Prop := ∃ a H4, x = .ref a ∧ DPut H a y v H4 ∧ D.nx σ H4
theorem go_dput (k : tv σ H fun v H1 => td σ H1 fun x H2 => ty σ H2 fun y H3 => dpK v y D σ x H3) : sDPut td ty tv D σ H := k
theorem go_dpK {z : Int} (e : H a = some (.dK kvs)) (hl : kvs.length < sizeLine) (k : D.nx σ (upd H a (.dK (putK kvs (.inl z) v)))) : dpK v (.int z) D σ (.ref a) H := ⟨a, _, rfl, DPut.k (k := .inl z) e hl, k⟩
end
theorem pow_nat {k : Nat} : ((2 ^ k : Nat) : Int) = (2 : Int) ^ k := by rw [Int.natCast_pow]; rfl
theorem hds_inj {n : Nat} {s : S} {i j : Nat} (hi : i < (hds n s).length) (hj : j < (hds n s).length) (e : (hds n s).getD i 0 = (hds n s).getD j 0) : i = j := by
  rw [List.getD_eq_getElem?_getD, List.getD_eq_getElem?_getD, List.getElem?_eq_getElem hi, List.getElem?_eq_getElem hj] at e
  exact (List.getElem_inj hds_nodup).mp e
theorem sum_nof {n : Nat} {s : S} {d : List Int} : ((List.range (hds n s).length).map fun j => d.getD ((hds n s).getD j 0) 0 * 2 ^ j).sum = nof n s d := by
  unfold nof
  rw [← val_sum, List.length_map]
  congr 1
  apply List.map_congr_left
  intro j hj
  have hj := List.mem_range.mp hj
  have e : (List.map (fun h => d.getD h 0) (hds n s)).getD j 0 = d.getD ((hds n s).getD j 0) 0 := by
    simp only [List.getD_eq_getElem?_getD, List.getElem?_map, List.getElem?_eq_getElem hj]
    rfl
  show d.getD ((hds n s).getD j 0) 0 * 2 ^ j = _ * 2 ^ j
  rw [e]
section
variable {K : PySem.W.Frag} {H : Hp} {Q : VK} {a : Addr}
theorem go_sumI {ns : List Int} (h : SqL K H a (ns.map V.int)) (k : Q (.int ns.sum) H) : rSum K [.ref a] H Q := ⟨a, ns, rfl, h, k⟩
end
end Ed

/-! Marks of parts; a part exchanged; numbers and dealings of few things. -/
namespace Ed
open PySem L2 Deal
structure MI (n : Nat) (s : S) (ms : List Int) (D : Nat → Nat → Prop) : Prop where
  len : ms.length = n
  up : ∀ x y, x < n → y < n → ms.getD x 0 = ms.getD y 0 → s.heads x = s.heads y
  dn : ∀ x y, D x y → x < n ∧ y < n ∧ ms.getD x 0 = ms.getD y 0
theorem getD_mapI {f : Int → Int} {l : List Int} {i : Nat} (h : i < l.length) : (l.map f).getD i 0 = f (l.getD i 0) := by
  rw [List.getD_eq_getElem?_getD, List.getElem?_map, List.getElem?_eq_getElem h, List.getD_eq_getElem?_getD, List.getElem?_eq_getElem h]
  rfl
def mgm (ms : List Int) (a b : Nat) : List Int := ms.map fun m => if m = ms.getD b 0 then ms.getD a 0 else m
theorem mgm_same {ms : List Int} {a b : Nat} (h : ms.getD a 0 = ms.getD b 0) : mgm ms a b = ms := by
  unfold mgm
  rw [h]
  have e : (fun m : Int => if m = ms.getD b 0 then ms.getD b 0 else m) = fun m => m := by
    funext m
    split
    · rename_i e
      exact e.symm
    · rfl
  rw [e, List.map_id']
theorem MI.merge {n : Nat} {s : S} {ms : List Int} {D D' : Nat → Nat → Prop} (h : MI n s ms D) {a b : Nat} (ha : a < n) (hb : b < n) (hh : s.heads a = s.heads b) (hD : ∀ x y, D' x y → D x y ∨ (x = a ∧ y = b)) : MI n s (mgm ms a b) D' := by
  have hl := h.len
  have at_ : ∀ x, x < n → (mgm ms a b).getD x 0 = if ms.getD x 0 = ms.getD b 0 then ms.getD a 0 else ms.getD x 0 := fun x hx => by
    unfold mgm
    rw [getD_mapI (by omega)]
  refine ⟨by unfold mgm; rw [List.length_map]; exact hl, fun x y hx hy e => ?_, fun x y d => ?_⟩
  · rw [at_ x hx, at_ y hy] at e
    by_cases cx : ms.getD x 0 = ms.getD b 0
    · rw [if_pos cx] at e
      have h1 := h.up x b hx hb cx
      by_cases cy : ms.getD y 0 = ms.getD b 0
      · exact h1.trans (h.up y b hy hb cy).symm
      · rw [if_neg cy] at e
        exact (h1.trans hh.symm).trans (h.up a y ha hy e)
    · rw [if_neg cx] at e
      by_cases cy : ms.getD y 0 = ms.getD b 0
      · rw [if_pos cy] at e
        exact (h.up x a hx ha e).trans (hh.trans (h.up y b hy hb cy).symm)
      · rw [if_neg cy] at e
        exact h.up x y hx hy e
  · rcases hD x y d with d | ⟨rfl, rfl⟩
    · obtain ⟨h1, h2, h3⟩ := h.dn x y d
      refine ⟨h1, h2, ?_⟩
      rw [at_ x h1, at_ y h2, h3]
    · refine ⟨ha, hb, ?_⟩
      rw [at_ x ha, at_ y hb, if_pos rfl]
      split <;> rfl
/-- the pairs of the rows below i, and the first j of row i -/
def PD (n : Nat) (rs : List (List Nat)) (i j : Nat) (x y : Nat) : Prop :=
  (∃ k l, k < i ∧ l < n / 2 ∧ x = (rs.getD k []).getD (2 * l) 0 ∧ y = (rs.getD k []).getD (2 * l + 1) 0) ∨ ∃ l, l < j ∧ x = (rs.getD i []).getD (2 * l) 0 ∧ y = (rs.getD i []).getD (2 * l + 1) 0
theorem PD.succ {n : Nat} {rs : List (List Nat)} {i j x y : Nat} (h : PD n rs i (j + 1) x y) : PD n rs i j x y ∨ (x = (rs.getD i []).getD (2 * j) 0 ∧ y = (rs.getD i []).getD (2 * j + 1) 0) := by
  rcases h with h | ⟨l, hl, e1, e2⟩
  · exact .inl (.inl h)
  · by_cases e : l = j
    · subst e
      exact .inr ⟨e1, e2⟩
    · exact .inl (.inr ⟨l, by omega, e1, e2⟩)
theorem PD.next {n : Nat} {rs : List (List Nat)} {i x y : Nat} (h : PD n rs (i + 1) 0 x y) : PD n rs i (n / 2) x y := by
  rcases h with ⟨k, l, hk, hl, e1, e2⟩ | ⟨l, hl, _⟩
  · by_cases e : k = i
    · subst e
      exact .inr ⟨l, hl, e1, e2⟩
    · exact .inl ⟨k, l, by omega, hl, e1, e2⟩
  · exact absurd hl (by omega)
theorem MI.mono {n : Nat} {s : S} {ms : List Int} {D D' : Nat → Nat → Prop} (h : MI n s ms D) (hD : ∀ x y, D' x y → D x y) : MI n s ms D' := ⟨h.len, h.up, fun x y d => h.dn x y (hD x y d)⟩
theorem ch_const {R : Nat → Nat → Nat → Prop} {f : Nat → Int} (hR : ∀ k x y, R k x y → f x = f y) : ∀ {ps ts : List Nat} {x y : Nat}, Ch R ts ps → ts.head? = some x → ts.getLast? = some y → f x = f y
  | [], ts, x, y, h, hx, hy => by
    obtain ⟨z, rfl⟩ := ch_nil.mp h
    have e1 : z = x := by simpa using hx
    have e2 : z = y := by simpa using hy
    subst e1 e2
    rfl
  | k :: ps, [], x, y, h, hx, hy => absurd h ch_no
  | k :: ps, z :: ts, x, y, h, hx, hy => by
    have e1 : z = x := by simpa using hx
    subst e1
    obtain ⟨u, e, r, h3⟩ := ch_cons.mp h
    have hy2 : ts.getLast? = some y := by
      cases ts with
      | nil => simp at e
      | cons a ts => simpa [List.getLast?_cons_cons] using hy
    rw [hR _ _ _ r, ch_const hR h3 e hy2]
/-- what the marks are -/
structure Mks (n : Nat) (s : S) (ms : List Int) : Prop where
  len : ms.length = n
  iff : ∀ x y, x < n → y < n → (ms.getD x 0 = ms.getD y 0 ↔ s.heads x = s.heads y)
theorem MI.done {n : Nat} {rs : List (List Nat)} {s : S} {dep : Nat → Nat} {ms : List Int} (G : Good n rs) (F : Fin n rs s dep) (h : MI n s ms (PD n rs rs.length 0)) : Mks n s ms := by
  refine ⟨h.len, fun x y hx hy => ⟨h.up x y hx hy, fun e => ?_⟩⟩
  obtain ⟨c, ch, cl⟩ := F.chain G hx hy e
  refine ch_const (f := fun x => ms.getD x 0) (fun k a b r => ?_) c ch cl
  obtain ⟨hk, j, hj, hp⟩ := r.1
  have hl := G.len (Good.at_mem hk)
  rw [hl] at hj
  rcases hp with ⟨e1, e2⟩ | ⟨e1, e2⟩
  · exact (h.dn a b (.inl ⟨k, j, hk, hj, e1.symm, e2.symm⟩)).2.2
  · exact (h.dn b a (.inl ⟨k, j, hk, hj, e1.symm, e2.symm⟩)).2.2.symm
theorem MI.start {n : Nat} {rs : List (List Nat)} {s : S} (G : Good n rs) : MI n s (iN (rs.getD 0 [])) (PD n rs 0 0) := by
  have h0 : 0 < rs.length := List.length_pos_iff.mpr G.ne
  have hm := Good.at_mem h0
  have hl := G.len hm
  refine ⟨by rw [iN_len]; exact hl, fun x y hx hy e => ?_, fun x y d => ?_⟩
  · rw [iN_get, iN_get] at e
    have : x = y := G.inj hm hx hy (by omega)
    rw [this]
  · rcases d with ⟨k, l, hk, _⟩ | ⟨l, hl, _⟩
    · exact absurd hk (by omega)
    · exact absurd hl (by omega)
/-- as many marks as heads -/
theorem Mks.count {n : Nat} {rs : List (List Nat)} {s : S} {dep : Nat → Nat} {ms : List Int} (F : Fin n rs s dep) (M : Mks n s ms) : (gm (fun i => ms.getD i 0) ms.length).length = (hds n s).length := by
  have e : (gm (fun i => ms.getD i 0) n).Perm ((hds n s).map fun h => ms.getD h 0) := by
    refine (List.perm_ext_iff_of_nodup (gm_nodup _ _) ?_).mpr fun k => ?_
    · show List.Pairwise _ _
      rw [List.pairwise_map]
      have nd : List.Pairwise (· ≠ ·) (hds n s) := hds_nodup
      refine List.Pairwise.imp_of_mem (fun {a b} ha hb hne z => hne ?_) nd
      obtain ⟨a1, a2⟩ := hds_mem.mp ha
      obtain ⟨b1, b2⟩ := hds_mem.mp hb
      have := (M.iff a b a1 b1).mp z
      rw [a2, b2] at this
      exact Option.some.inj this
    · rw [gm_mem, List.mem_map]
      constructor
      · rintro ⟨j, hj, e⟩
        obtain ⟨g, g1, g2, g3, _⟩ := hd_in F hj
        refine ⟨g, g3, ?_⟩
        rw [← e]
        refine (M.iff g j g2 hj).mpr ?_
        rw [g1]
        exact (hds_mem.mp g3).2
      · rintro ⟨g, hg, e⟩
        exact ⟨g, (hds_mem.mp hg).1, e⟩
  rw [M.len, e.length_eq, List.length_map]
/-! ### a part exchanged -/
def flp (n : Nat) (ms d : List Int) (p : Int) : List Int := (List.range n).map fun i => if decide (ms.getD i 0 = p) = true then 1 - d.getD i 0 else d.getD i 0
theorem flp_len {n : Nat} {ms d : List Int} {p : Int} : (flp n ms d p).length = n := by simp [flp]
theorem flp_get {n : Nat} {ms d : List Int} {p : Int} {i : Nat} (h : i < n) : (flp n ms d p).getD i 0 = if decide (ms.getD i 0 = p) = true then 1 - d.getD i 0 else d.getD i 0 := by
  unfold flp
  rw [List.getD_eq_getElem?_getD, List.getElem?_map, List.getElem?_range h]
  rfl
theorem flp_even {n : Nat} {rs : List (List Nat)} {s : S} {dep : Nat → Nat} {ms d : List Int} (G : Good n rs) (F : Fin n rs s dep) (M : Mks n s ms) (he : isEven n rs d = true) (p : Int) : isEven n rs (flp n ms d p) = true := by
  obtain ⟨e1, e2, e3⟩ := (even_iff G).mp he
  have h01 : ∀ i, i < n → d.getD i 0 = 0 ∨ d.getD i 0 = 1 := fun i hi => is01_iff.mp (all_getD e2 (by omega))
  rw [even_iff G]
  refine ⟨flp_len, ?_, fun k a b ha => ?_⟩
  · rw [List.all_eq_true]
    intro z hz
    unfold flp at hz
    rw [List.mem_map] at hz
    obtain ⟨i, hi, rfl⟩ := hz
    have := h01 i (List.mem_range.mp hi)
    rw [is01_iff]
    split <;> omega
  · obtain ⟨l1, l2, _⟩ := G.adj_lt ha
    have hne := e3 k a b ha
    have hm : ms.getD a 0 = ms.getD b 0 := (M.iff a b l1 l2).mpr (F.adj k a b ha)
    have h1 := h01 a l1
    have h2 := h01 b l2
    rw [flp_get l1, flp_get l2, hm]
    split <;> omega
theorem flp_ne {n : Nat} {rs : List (List Nat)} {ms d : List Int} (G : Good n rs) (he : isEven n rs d = true) {j : Nat} (hj : j < n) : flp n ms d (ms.getD j 0) ≠ d := fun e => by
  have h := flp_get (ms := ms) (d := d) (p := ms.getD j 0) hj
  rw [e, if_pos (decide_eq_true rfl)] at h
  omega
theorem nof_inj {n : Nat} {rs : List (List Nat)} {s : S} {dep : Nat → Nat} (G : Good n rs) (F : Fin n rs s dep) (hb : s.bar = none) {d e : List Int} (hd : isEven n rs d = true) (he : isEven n rs e = true) (h : nof n s d = nof n s e) : d = e := by
  rw [← dln_nof G F hb hd, ← dln_nof G F hb he, h]
/-! ### few things: all dealings by number -/
theorem digs_inj {n a b : Nat} (ha : a < 2 ^ n) (hb : b < 2 ^ n) (h : digs n a = digs n b) : a = b := by
  have h1 := val_digs n a ha
  have h2 := val_digs n b hb
  rw [h] at h1
  omega
theorem evs_mem {n : Nat} {rs : List (List Nat)} {m : Nat} : m ∈ evs n rs ↔ m < 2 ^ n ∧ isEven n rs (digs n m) = true := by
  unfold evs
  rw [List.mem_filter, List.mem_range]
theorem nums_perm {n : Nat} {rs : List (List Nat)} {dep : Nat → Nat} (G : Good n rs) (F : Fin n rs (walk n rs) dep) : ((evs n rs).map fun m => (nof n (walk n rs) (digs n m)).toNat).Perm (List.range (cntN n (walk n rs))) := by
  by_cases hb : (walk n rs).bar = none
  · have hc : cntN n (walk n rs) = 2 ^ (hds n (walk n rs)).length := by unfold cntN; rw [if_pos hb]
    refine (List.perm_ext_iff_of_nodup ?_ List.nodup_range).mpr fun k => ?_
    · show List.Pairwise _ _
      rw [List.pairwise_map]
      have nd : List.Pairwise (· ≠ ·) (evs n rs) := List.nodup_range.filter _
      refine List.Pairwise.imp_of_mem (fun {a b} ha hb2 hne z => hne ?_) nd
      obtain ⟨a1, a2⟩ := evs_mem.mp ha
      obtain ⟨b1, b2⟩ := evs_mem.mp hb2
      have p1 := nof_lt (s := walk n rs) G a2
      have p2 := nof_lt (s := walk n rs) G b2
      exact digs_inj a1 b1 (nof_inj G F hb a2 b2 (by omega))
    · rw [List.mem_map, List.mem_range, hc]
      constructor
      · rintro ⟨m, hm, rfl⟩
        have := nof_lt (s := walk n rs) G (evs_mem.mp hm).2
        have e : ((2 ^ (hds n (walk n rs)).length : Nat) : Int) = (2 : Int) ^ (hds n (walk n rs)).length := pow_nat
        omega
      · intro hk
        obtain ⟨m, hm, e⟩ := evs_of G (dln_even G F hb k)
        refine ⟨m, hm, ?_⟩
        rw [e, nof_dln F hk]
        omega
  · have hn := (evs_nil G).mpr hb
    have hc : cntN n (walk n rs) = 0 := by unfold cntN; rw [if_neg hb]
    rw [hn, hc]
    exact List.Perm.refl _
theorem evs_len {n : Nat} {rs : List (List Nat)} {dep : Nat → Nat} (G : Good n rs) (F : Fin n rs (walk n rs) dep) : (evs n rs).length = cntN n (walk n rs) := by
  have h := (nums_perm G F).length_eq
  rw [List.length_map, List.length_range] at h
  exact h
theorem nums_sorted {n : Nat} {rs : List (List Nat)} {dep : Nat → Nat} (G : Good n rs) (F : Fin n rs (walk n rs) dep) {l : List Int} (hp : l.Perm ((evs n rs).map fun m => nof n (walk n rs) (digs n m))) (hs : l.Pairwise (· ≤ ·)) : l = iN (List.range (evs n rs).length) := by
  refine sorted_one (hp.trans ?_) hs (range_sorted _)
  have e : ((evs n rs).map fun m => nof n (walk n rs) (digs n m)) = iN ((evs n rs).map fun m => (nof n (walk n rs) (digs n m)).toNat) := by
    unfold iN
    rw [List.map_map]
    apply List.map_congr_left
    intro m hm
    have := nof_lt (s := walk n rs) G (evs_mem.mp hm).2
    show _ = (((nof n (walk n rs) (digs n m)).toNat : Nat) : Int)
    omega
  rw [e, evs_len G F]
  exact List.Perm.map _ (nums_perm G F)
theorem deals_perm {n : Nat} {rs : List (List Nat)} {dep : Nat → Nat} (G : Good n rs) (F : Fin n rs (walk n rs) dep) : ((List.range (evs n rs).length).map fun k => dln n (walk n rs) k).Perm ((evs n rs).map fun m => digs n m) := by
  by_cases hb : (walk n rs).bar = none
  · rw [evs_len G F]
    refine (List.Perm.map _ (nums_perm G F)).symm.trans ?_
    rw [List.map_map]
    have e : ((evs n rs).map ((fun k => dln n (walk n rs) k) ∘ fun m => (nof n (walk n rs) (digs n m)).toNat)) = (evs n rs).map fun m => digs n m := by
      apply List.map_congr_left
      intro m hm
      exact dln_nof G F hb (evs_mem.mp hm).2
    rw [e]
  · rw [(evs_nil G).mpr hb]
    exact List.Perm.refl _
def leL (a b : List Int) : Bool := decide (a ≤ b)
theorem sort_same {l m : List (List Int)} (h : l.Perm m) : l.mergeSort leL = m.mergeSort leL := by
  have tr : ∀ a b c : List Int, leL a b = true → leL b c = true → leL a c = true := fun a b c h1 h2 => decide_eq_true (List.le_trans (of_decide_eq_true h1) (of_decide_eq_true h2))
  have tot : ∀ a b : List Int, (leL a b || leL b a) = true := fun a b => by
    rw [Bool.or_eq_true]
    rcases List.le_total a b with h | h
    · exact .inl (decide_eq_true h)
    · exact .inr (decide_eq_true h)
  refine List.Perm.eq_of_pairwise (le := fun a b => leL a b = true) (fun a b _ _ h1 h2 => List.le_antisymm (of_decide_eq_true h1) (of_decide_eq_true h2)) (List.pairwise_mergeSort tr tot l) (List.pairwise_mergeSort tr tot m) ?_
  exact (List.mergeSort_perm l leL).trans (h.trans (List.mergeSort_perm m leL).symm)
end Ed

/-! Raising and catching; what is a number; lists of lists sorted. -/
namespace Ed
open PySem L2 Deal
/-! ### isinstance of the caught error, its class told by the reading -/
def rIsE2 (K : PySem.W.Frag) (cls : Value) (d : Option Addr) (a : Addr) : List V → Hp → VK → Prop := fun xs H Q => ∃ (D : Addr) (c : V) (cv : Value) (b : Bool), cls = .ref D ∧ d = none ∧ ExcC K D ∧ xs = [.ref a, c] ∧ (∀ u, RelV c u → u = cv) ∧ PySem.W.kitOne K (.ref D) cv = some b ∧ Q (.bl b) H
theorem callIsE2 {X : Cx} {a : Addr} {cls : Value} {d : Option Addr} {oe : Obj} {pn : List (Addr × Obj)} (K : PySem.W.Frag) (hz : Zc cls d oe) (hf : ∃ vs, oe.data = .fields vs) (hK : X.K = K := by rfl) : CallR (X.suite a ((a, oe) :: pn)) (.builtin "isinstance") (rIsE2 K cls d a) := by
  subst hK
  intro pins s σ H xs us Q I r h
  obtain ⟨D, c, cv, b, rfl, rfl, C, rest⟩ := h
  exact call_isE C hz hf pins s σ H xs us Q I r ⟨c, cv, b, rest⟩
/-- a local that holds a def, which may raise -/
def tCallLS (i : Nat) (f : Addr) (sp : Sp) (E : L2.St → XK) (t : TA) : TE := fun σ H Q => σ[i]? = some (some (.ref f)) ∧ t σ H fun vs H1 => sp vs H1 Q (E σ)
section
variable {X : Cx} {CX : CXT} {k i : Nat} {f : Addr} {fd : FuncData} {ps : List Str} {sp : Sp} {E : L2.St → XK} {x : Str} {p pos : Pos} {e : Expr} {es : List Expr} {t : TA}
theorem pe_callLS (F : FnOk X.prog X.w X.K X.mg X.base CX k f fd ps sp) (hr : Room k X.A) (hN : X.N[i]? = some x) (hv : Vis X.env.scope x) (hk : PySem.W.keepIn X.K (.ref f) = true) (hb : Binds X.K fd ps []) (hx : ∀ σ, PassesAt CX X σ (E σ)) (ha : PA X (e :: es) t)
    (hdb : (x == ("__debug__" : Str)) = false := by decide) (hcd : (x == ("__classdict__" : Str)) = false := by decide)
    (he : starEach (e :: es) X.env = (false, eval e X.env) :: starEach es X.env := by rfl) (hpl : (backTo pos (starEach es X.env)).any (·.1) = false := by rfl) : PE X (.Call (.Name x p) (e :: es) [] pos) (tCallLS i f sp E t) := by
  refine ⟨fun pins s σ H Q I h => ?_⟩
  obtain ⟨hs, ht⟩ := h
  refine wpAny_Call_Name_kw (thn ((pe_var (pos := p) hN hv hdb hcd).run pins s σ H (fun v H1 => v = .ref f ∧ H1 = H) I ⟨.ref f, hs, rfl, rfl⟩) fun u s1 ⟨v, H1, I1, r1, q1⟩ => ?_)
  obtain ⟨rfl, rfl⟩ := q1
  cases r1
  refine PySem.W.callWith_K (h₀ := X.base) I.ok.mod.kin hk (thn (ha.run pos pins s1 σ _ _ I1 ht) fun us s2 ⟨vs, H2, I2, r, q⟩ => ⟨I2.kIn, ?_⟩) he hpl
  exact run_fnS F hr hb (hx σ) I2 r q
end
section
variable {K : PySem.W.Frag} {σ : L2.St} {H : Hp} {Q : VK} {i : Nat} {f a : Addr} {sp : Sp} {E : L2.St → XK} {t : TA} {cls c : Value} {d : Option Addr} {ts : Addr → Value → Option Addr → TS} {Wo : WX} {D : Ends}
theorem go_callS (k : t σ H fun vs H1 => sp vs H1 Q (E σ)) : tCallS sp E t σ H Q := k
theorem go_callLS (h : σ[i]? = some (some (.ref f))) (k : t σ H fun vs H1 => sp vs H1 Q (E σ)) : tCallLS i f sp E t σ H Q := ⟨h, k⟩
theorem go_isE2 {C B : Addr} {b : Bool} (hC : ExcC K C) (hb : PySem.W.kitOne K (.ref C) (.ref B) = some b) (k : Q (.bl b) H) : rIsE2 K (.ref C) none a [.ref a, .ref B] H Q := ⟨C, .ref B, .ref B, b, rfl, rfl, hC, rfl, fun _ r => r, hb, k⟩
theorem go_isE2T {C : Addr} {B : String} {b : Bool} (hC : ExcC K C) (hb : PySem.W.kitOne K (.ref C) (.type B) = some b) (k : Q (.bl b) H) : rIsE2 K (.ref C) none a [.ref a, .ty B] H Q := ⟨C, .ty B, .type B, b, rfl, rfl, hC, rfl, fun _ r => r, hb, k⟩
theorem go_was (he : PySem.W.exmOne K cls c = some true) (k : ∀ a, H a = none → ts a cls d { nx := fun σ' H' => D.nx (σ'.set i none) H', rt := D.rt, bk := fun σ' H' => D.bk (σ'.set i none) H', ct := fun σ' H' => D.ct (σ'.set i none) H' } (σ.set i (some (.ref a))) H) : wAs K c i ts Wo D cls d σ H :=
  ⟨true, he, fun _ a ha => k a ha, fun z => nomatch z⟩
end
/-! ### truths compared -/
theorem lay_bls : ∀ l : List Bool, PyData.canLayAll0 (l.map .bool) = true
  | [] => by simp [PyData.canLayAll0]
  | x :: l => by simp [PyData.canLayAll0, PyData.canLay0, lay_bls l]
def dB (l : List Bool) : PyData := .list (l.map .bool)
theorem shaped_bls (l : List Bool) : SeqAt.shaped (dB l) = true := by
  have h1 := depth_bls l
  have h2 : PyData.depth (dB l) ≤ 64 := by
    simp only [dB, PyData.depth]
    omega
  show (PyData.canLay0 (dB l) && decide (PyData.depth (dB l) ≤ 64)) = true
  rw [Bool.and_eq_true]
  exact ⟨by simp only [dB, PyData.canLay0]; exact lay_bls l, decide_eq_true h2⟩
theorem eqvAll_bls : ∀ l m : List Bool, PyData.eqvAll (l.map .bool) (m.map .bool) = decide (l = m)
  | [], [] => by simp [PyData.eqvAll]
  | [], _ :: _ => by simp [PyData.eqvAll]
  | _ :: _, [] => by simp [PyData.eqvAll]
  | x :: l, y :: m => by
    rw [List.map_cons, List.map_cons, PyData.eqvAll, eqvAll_bls l m]
    simp only [PyData.eqv]
    rw [Bool.eq_iff_iff]
    simp
theorem eqv_bls (l m : List Bool) : PyData.eqv (dB l) (dB m) = decide (l = m) := by
  unfold dB
  rw [PyData.eqv]
  exact eqvAll_bls l m
section
variable {K : PySem.W.Frag} {H : Hp} {Q : VK} {a b : Addr} {l m : List Bool}
theorem dp_bls (h : SqL K H a (l.map V.bl)) : Dp K H (.ref a) (dB l) := .lst h (dpAll_bls l)
theorem go_eqB2 (h : SqL K H a (l.map V.bl)) (h' : SqL K H b (m.map V.bl)) (k : Q (.bl (decide (l = m))) H) : rEqD K (.ref a) (.ref b) H Q := go_eqD (dp_bls h) (dp_bls h') (shaped_bls l) (shaped_bls m) (by rw [eqv_bls]; exact k)
end
/-! ### what is a number -/
def IsN (K : PySem.W.Frag) (H : Hp) (v : V) (b : Bool) : Prop := ∃ (tv : Value) (b1 b2 : Bool), TyX K H v tv ∧ PySem.W.kitOne K tv (.type "int") = some b1 ∧ PySem.W.kitOne K tv (.type "bool") = some b2 ∧ b = (b1 && !b2)
section
variable {K : PySem.W.Frag} {H H' : Hp}
theorem isN_int (i : Int) : IsN K H (.int i) true := ⟨_, true, false, .base (.int i), kit_ty (by decide +kernel), kit_ty (by decide +kernel), rfl⟩
theorem isN_bl (b : Bool) : IsN K H (.bl b) false := ⟨_, true, true, .base (.bl b), kit_ty (by decide +kernel), kit_ty (by decide +kernel), rfl⟩
theorem isN_non : IsN K H .non false := ⟨_, false, false, .base .non, kit_ty (by decide +kernel), kit_ty (by decide +kernel), rfl⟩
theorem isN_str (z : Str) : IsN K H (.str z) false := ⟨_, false, false, .base (.str z), kit_ty (by decide +kernel), kit_ty (by decide +kernel), rfl⟩
theorem isN_lst {a : Addr} {xs : List V} (h : SqL K H a xs) : IsN K H (.ref a) false := ⟨_, false, false, sq_ty h, kit_ty (by decide +kernel), kit_ty (by decide +kernel), rfl⟩
theorem isN_tup {a : Addr} {xs : List V} (h : H a = some (.tup xs)) : IsN K H (.ref a) false := ⟨_, false, false, .base (.tup h), kit_ty (by decide +kernel), kit_ty (by decide +kernel), rfl⟩
theorem isN_dK {a : Addr} {xs : List (Key × V)} (h : H a = some (.dK xs)) : IsN K H (.ref a) false := ⟨_, false, false, .base (.dK h), kit_ty (by decide +kernel), kit_ty (by decide +kernel), rfl⟩
end
/-! ### sorted, of lists of numbers -/
def rSortedL (K : PySem.W.Frag) : List V → Hp → VK → Prop := fun vs H Q => ∃ (a : Addr) (xs : List V) (ls : List (List Int)), vs = [V.ref a] ∧ SqL K H a xs ∧ ListsV K H xs ls ∧
  ∀ (ys : List V) (p : Addr), ListsV K H ys (ls.mergeSort leL) → H p = none → Q (.ref p) (upd H p (.lst ys))
theorem each_of {X : Cx} {pins : List (Addr × Obj)} {σ : L2.St} {H : Hp} {s : Shared} (I : Inv X pins σ H s) : ∀ {xs : List V} {us : List Value} {ls : List (List Int)}, ListsV X.K H xs ls → Vals xs us →
    PySem.W.EachIs (fun (v : Value) (b : List Int) => ∃ p : Addr, v = .ref p ∧ SqL X.K H p (b.map V.int)) us ls ∧ PySem.W.EachIs (fun (v : Value) (b : List Int) => ∃ as, Reads s.heap v (dI b) as) us ls
  | _, _, _, .nil, r => by cases r; exact ⟨.nil, .nil⟩
  | _, _, _, .cons (p := p) (r := b) h t, r => by
    cases r with
    | cons r1 r2 =>
      cases (show _ = Value.ref p from r1)
      obtain ⟨h1, h2⟩ := each_of I t r2
      exact ⟨.cons ⟨p, rfl, h⟩ h1, .cons (Dp.reads I _ _ _ (dp_ints h) rfl) h2⟩
theorem lists_of {K : PySem.W.Frag} {H : Hp} : ∀ {us : List Value} {ls : List (List Int)}, PySem.W.EachIs (fun (v : Value) (b : List Int) => ∃ p : Addr, v = .ref p ∧ SqL K H p (b.map V.int)) us ls → ∃ ys : List V, Vals ys us ∧ ListsV K H ys ls
  | _, _, .nil => ⟨[], .nil, .nil⟩
  | _, _, .cons ⟨p, e, h⟩ t => by
    subst e
    obtain ⟨ys, h1, h2⟩ := lists_of t
    exact ⟨.ref p :: ys, .cons rfl h1, .cons h h2⟩
theorem dep_ints (b : List Int) : (dI b).depth ≤ 2 := by
  have := depth_ints b
  simp only [dI, PyData.depth]
  omega
theorem cSortedL {X : Cx} (K : PySem.W.Frag) (hu : X.A.units + 64 < cLine) (hK : X.K = K := by rfl) : CallR X (.builtin "sorted") (rSortedL K) := by
  subst hK
  intro pins s σ H vs us Q I r h
  obtain ⟨a, xs, ls, rfl, hs, hls, q⟩ := h
  obtain ⟨its, rv, hl, hz⟩ := I.list hs
  rw [Vals.ref1 r]
  obtain ⟨e1, e2⟩ := each_of I hls rv
  have hz' : ls.length ≤ sizeLine := by rw [← hls.len]; exact hz
  refine PySem.W.sorted_data (enc := dI) hl.isList e1 e2 ?_ ?_ hz' (fun b _ => ?_) fun out hlen ho => ?_
  · exact PySem.W.AllAlike.of fun b b' => by
      unfold dI
      rw [PySem.W.alike]
      exact PySem.W.alike_ints b b'
  · exact PySem.W.Sortable.others fun b => ⟨(fun z => by cases z), (fun xs z => by cases z)⟩
  · have := dep_ints b
    omega
  · obtain ⟨ys, h1, h2⟩ := lists_of ho
    obtain ⟨ep, he'⟩ := PyProof.Rows.sortedAll_at s.heap its out.toArray
    have e : PySem.W.dataLe false (fun b : List Int => dI b) = leL := by
      unfold dI
      rw [PySem.W.dataLe_rows (fun b : List Int => b)]
      rfl
    have e' : PySem.W.dataLe false dI = leL := e
    rw [e'] at h2
    have hy : ys.length ≤ sizeLine := by
      rw [h1.length, hlen]
      exact hz'
    exact ⟨.ref _, upd H (s.heap.objs.size + 1) (.lst ys), I.laid (t' := s.toks) (fun _ _ => PyProof.Rows.sortedAll_old) (Nat.le_succ _) ⟨hy, out, ep, h1, he'⟩, rfl, q _ _ h2 (I.hok.fresh (Nat.le_succ _))⟩
section
variable {K : PySem.W.Frag} {H : Hp} {Q : VK} {a : Addr}
theorem go_sortedL {xs : List V} {ls : List (List Int)} (h : SqL K H a xs) (hl : ListsV K H xs ls) (k : ∀ (ys : List V) p H', H p = none → Same H H' → H' p = some (.lst ys) → ListsV K H ys (ls.mergeSort leL) → Q (.ref p) H') : rSortedL K [.ref a] H Q :=
  ⟨a, xs, ls, rfl, h, hl, fun ys p h2 hp => k ys p _ hp (same_new hp) upd_same h2⟩
end
end Ed

/-! Lambdas as values: made, handed on, called by whoever holds them. -/
namespace Ed
open PySem PySem.Spec PyProof.Rows L2
open LamX (Tabs TabS TabB ExtN CodeO codeO_ne inv_table among_app)
open NdefX (NF NScope CellsAt startF envF ncx inv_startN codeO_at slotAt Caps cells_of upd_none)
/-- a lambda's words, the cells that it captured, its code object -/
structure LF where
  qual : Str
  params : Arguments
  body : Expr
  scope : Scope
  cl : List (Str × Addr)
  c : Addr
abbrev LF.nf (F : LF) : NF := ⟨"<lambda>", F.qual, F.params, [], F.scope, F.cl, F.c⟩
/-- the object at f is the lambda F -/
def LamO (f : Addr) (F : LF) : HO := .ext fun h => ∃ pm ctv : Value, h.get? f = some (PySem.W.kla_obj "<lambda>" F.qual F.params F.body F.scope F.cl pm F.c ctv)
theorem lamO_ne {f : Addr} {F : LF} (ps : Array Value) : LamO f F ≠ .tbl ps := fun z => by
  unfold LamO at z
  cases z
theorem lamO_at {P : Program} {w : World} {H : Hp} {h : Heap} {f : Addr} {F : LF} (hok : HOk P w H h) (e : H f = some (LamO f F)) : ∃ pm ctv : Value, h.get? f = some (PySem.W.kla_obj "<lambda>" F.qual F.params F.body F.scope F.cl pm F.c ctv) := by
  obtain ⟨z, _, _⟩ := hok f _ e
  exact z
section
variable {X : Cx} {pins : List (Addr × Obj)} {σ : L2.St} {H : Hp} {s : Shared}
theorem inv_lam {F : LF} {t' : Nat} {pm ctv : Value} (I : Inv X pins σ H s) :
    Inv X pins σ (upd H s.heap.objs.size (LamO s.heap.objs.size F)) { s with heap := s.heap.push (PySem.W.kla_obj "<lambda>" F.qual F.params F.body F.scope F.cl pm F.c ctv), toks := t' } := by
  refine I.laid (a := s.heap.objs.size) (fun b u e => Heap.get?_push_of_some _ e) (Nat.le_refl _) ?_
  have e : (s.heap.push (PySem.W.kla_obj "<lambda>" F.qual F.params F.body F.scope F.cl pm F.c ctv)).get? s.heap.objs.size = some (PySem.W.kla_obj "<lambda>" F.qual F.params F.body F.scope F.cl pm F.c ctv) := Heap.get?_push_size _ rfl
  exact ⟨⟨pm, ctv, e⟩, ⟨_, e⟩, fun h1 h2 ⟨p, t, z⟩ st => ⟨p, t, st _ z⟩⟩
theorem lam_make3 {T : List (Addr × Str)} {c P : Addr} {params : Arguments} {body : Expr} {scope : Scope} {pos : Pos} {E : Value → Shared → Prop} {Q : Value → Shared → Prop} (I : Inv X pins σ H s) (TB : TabB X.base X.mg c P) (hcode : X.env.code = .ref c)
    (hm : (P, X.env.qual ++ "<lambda>") ∈ T) (hu : ∀ p ∈ T, p.1 = P → p.2 = X.env.qual ++ "<lambda>") (hT : Tabs T H) (hdef : defaultsOf params X.env = ([], [])) (hfree : ∀ y ∈ scope.names, y.2 = .free → ∃ c, X.env.cells.lookup y.1 = some c)
    (h : ∀ (f c' : Addr) (H1 : Hp) (s' : Shared), Inv X pins σ H1 s' → ExtN H H1 → Tabs T H1 → H f = none → H1 f = some (LamO f ⟨X.env.qual ++ "<lambda>", params, body, scope, cloFrom X.env.cells scope.names [], c'⟩) → H1 c' = some (CodeO c' (X.env.qual ++ "<lambda>")) → Q (.ref f) s') :
    wpAny (model X.prog X.w) X.A (eval (.Lambda params body scope pos) X.env) Q E s := by
  obtain ⟨ps, hP, ht, ha⟩ := hT _ hm
  refine PySem.W.kla_eval hdef ?_
  have bP : s.heap.BuiltinsAt X.mg P := TB.bm.keeps I.bk
  have hP' : s.heap.get? P = some { cls := .none, data := .fields ps } := I.hok P _ hP
  cases hc : codeAmong pos ps.toList with
  | none =>
    refine PySem.W.kla_makeFunction (mg := X.mg) (c := c) (P := P) (ps := ps) (closure_ok hfree) I.ok.glob (I.mod.glob.keeps I.bk) hcode (TB.code.keeps I.bk) hP' ht hc TB.gP bP fun c' ctv h' tk hx hge hlt hrec htb => ?_
    obtain ⟨c2, oc, vs, t, e2, hoc, hd, hv⟩ := hrec
    cases e2
    have nC : H c' = none := I.hok.fresh hge
    have I1 := inv_table (t' := tk) (more := #[rawInt pos.line, rawInt pos.col, .ref c']) (h' := h') I hP (fun b o hb e => hx b o hb e) htb hge ⟨oc, vs, t, hoc, hd, hv⟩
    have hE : ExtN H (upd (upd H P (.tbl (ps ++ #[rawInt pos.line, rawInt pos.col, .ref c']))) c' (CodeO c' (X.env.qual ++ "<lambda>"))) := fun b o e n => by
      rw [upd_ne (ne_of_none e nC), upd_ne (fun z => n ps (Option.some.inj (e.symm.trans (by rw [z]; exact hP))))]
      exact e
    have eL : (ps ++ #[rawInt pos.line, rawInt pos.col, .ref c']).toList = ps.toList ++ [rawInt pos.line, rawInt pos.col, .ref c'] := by simp
    have T1 : Tabs T (upd (upd H P (.tbl (ps ++ #[rawInt pos.line, rawInt pos.col, .ref c']))) c' (CodeO c' (X.env.qual ++ "<lambda>"))) := fun p hp => by
      by_cases hb : p.1 = P
      · rw [hu p hp hb, hb]
        refine ⟨_, by rw [upd_ne (ne_of_none hP nC), upd_same], by rw [eL]; exact PySem.TriplesOk_snoc _ _ _ _ ht, fun p' cv hcv => ?_⟩
        rw [eL] at hcv
        rcases among_app _ ht hcv with z | z
        · obtain ⟨c0, e1, e2⟩ := ha p' cv z
          exact ⟨c0, e1, hE _ _ e2 codeO_ne⟩
        · exact ⟨c', z, upd_same⟩
      · obtain ⟨ps', a1, a2, a3⟩ := hT p hp
        refine ⟨ps', by rw [upd_ne (ne_of_none a1 nC), upd_ne hb]; exact a1, a2, fun p' cv hcv => ?_⟩
        obtain ⟨c0, e1, e2⟩ := a3 p' cv hcv
        exact ⟨c0, e1, hE _ _ e2 codeO_ne⟩
    have nF := I1.hok.fresh (Nat.le_refl _)
    have I2 := inv_lam (F := ⟨X.env.qual ++ "<lambda>", params, body, scope, cloFrom X.env.cells scope.names [], c'⟩) (t' := tk) (pm := (X.mg "__name__").getD .none) (ctv := ctv) I1
    refine h h'.objs.size c' _ _ I2 (fun b o e n => ?_) (T1.ext fun b o e => ?_) (I.hok.fresh (Nat.le_trans hge (Nat.le_of_lt hlt))) upd_same ?_
    · have e1 := hE b o e n
      exact (upd_ne (ne_of_none e1 nF)).trans e1
    · exact (upd_ne (ne_of_none e nF)).trans e
    · exact (upd_ne (Nat.ne_of_lt hlt)).trans upd_same
  | some cv =>
    obtain ⟨c', e, hco⟩ := ha pos cv hc
    subst e
    refine PySem.W.kla_makeFunctionHit (mg := X.mg) (c := c) (P := P) (ps := ps) (closure_ok hfree) I.ok.glob (I.mod.glob.keeps I.bk) hcode (TB.code.keeps I.bk) hP' ht hc bP fun ctv h' tk hx hsz => ?_
    have I1 : Inv X pins σ H { s with heap := h', toks := tk } := I.kept hx
    have nF : H h'.objs.size = none := I1.hok.fresh (Nat.le_refl _)
    have I2 := inv_lam (F := ⟨X.env.qual ++ "<lambda>", params, body, scope, cloFrom X.env.cells scope.names [], c'⟩) (t' := tk) (pm := (X.mg "__name__").getD .none) (ctv := ctv) I1
    refine h h'.objs.size c' _ _ I2 (fun b o e n => ?_) (hT.ext fun b o e => ?_) nF upd_same ?_
    · exact (upd_ne (ne_of_none e nF)).trans e
    · exact (upd_ne (ne_of_none e nF)).trans e
    · exact (upd_ne (ne_of_none hco nF)).trans hco
end
/-- the reading of «lambda ..: ..» -/
def tLamV (T : List (Addr × Str)) (mk : Addr → LF) : TE := fun σ H Q => Tabs T H ∧ ∀ (f c' : Addr) (H1 : Hp), ExtN H H1 → Tabs T H1 → H f = none → H1 f = some (LamO f (mk c')) → H1 c' = some (CodeO c' (mk c').qual) → Q (.ref f) H1
section
variable {X : Cx}
theorem pe_lam {T : List (Addr × Str)} {c P : Addr} {params : Arguments} {body : Expr} {scope : Scope} {pos : Pos} (TB : TabB X.base X.mg c P) (hcode : X.env.code = .ref c) (hm : (P, X.env.qual ++ "<lambda>") ∈ T) (hu : ∀ p ∈ T, p.1 = P → p.2 = X.env.qual ++ "<lambda>")
    (hfree : ∀ y ∈ scope.names, y.2 = .free → X.env.scope.names.lookup y.1 = some .cell ∨ X.env.scope.names.lookup y.1 = some .free) (hdef : defaultsOf params X.env = ([], []) := by rfl) :
    PE X (.Lambda params body scope pos) (tLamV T fun c' => ⟨X.env.qual ++ "<lambda>", params, body, scope, cloFrom X.env.cells scope.names [], c'⟩) := by
  refine ⟨fun pins s σ H Q I h => ?_⟩
  obtain ⟨hT, h⟩ := h
  refine lam_make3 I TB hcode hm hu hT hdef (fun y hy e => (hfree y hy e).elim (fun z => I.ok.has _ (.inl z)) fun z => I.ok.has _ (.inr z)) fun f c' H1 s' I1 eN T1 nf hf hc => ?_
  exact ⟨.ref f, H1, I1, rfl, h f c' H1 eN T1 nf hf hc⟩
end
/-! ### what may be called -/
structure Act (P : Program) (w : World) (K : PySem.W.Frag) (mg : Str → Option Value) (base : Heap) (k : Nat) (f : Addr) (g : Hp → Prop) (sp : Sp) : Prop where
  fn : ∀ (s : Shared) (H : Hp), K.In s.heap → HOk P w H s.heap → g H → PySem.W.FnAt f s.heap
  run : ∀ (A : Around) (outer : List Env) (s : Shared) (H : Hp) (us : List Value) (vs : List V) (Q : VK) (E : XK), Room k A → Env0 P w K mg base A outer s H → Vals vs us → sp vs H Q E → codeAny (model P w) A (.call (.ref f) ⟨us, []⟩) (CR (L2.CX P w) outer P w H s Q E) s
theorem Act.mono {P : Program} {w : World} {K : PySem.W.Frag} {mg : Str → Option Value} {base : Heap} {j k : Nat} {f : Addr} {g : Hp → Prop} {sp : Sp} (F : Act P w K mg base j f g sp) (h : j ≤ k) : Act P w K mg base k f g sp := ⟨F.fn, fun A outer s H us vs Q E hr => F.run A outer s H us vs Q E (hr.mono h)⟩
def tCallA (i : Nat) (f : Addr) (g : Hp → Prop) (sp : Sp) (E : L2.St → XK) (t : TA) : TE := fun σ H Q => σ[i]? = some (some (.ref f)) ∧ g H ∧ t σ H fun vs H1 => g H1 ∧ sp vs H1 Q (E σ)
section
variable {X : Cx} {k i : Nat} {f : Addr} {g : Hp → Prop} {sp : Sp} {E : L2.St → XK} {x : Str} {p pos : Pos} {e : Expr} {es : List Expr} {t : TA}
theorem run_act {pins : List (Addr × Obj)} {σ : L2.St} {H : Hp} {s : Shared} {Q : VK} {us : List Value} {vs : List V} (F : Act X.prog X.w X.K X.mg X.base k f g sp) (hr : Room k X.A) (hx : PassesAt (L2.CX X.prog X.w) X σ (E σ))
    (I : Inv X pins σ H s) (r : Vals vs us) (h : sp vs H Q (E σ)) : wpAny (model X.prog X.w) X.A (call (.ref f) us) (EP X pins σ Q) X.xe s := by
  refine wpAny_call (codeAny_mono (F.run X.A X.stack s H us vs Q (E σ) hr I.env0 r h) fun r s' hq => ?_)
  cases r with
  | error e => exact hx pins H s e s' I hq
  | ok fl =>
    cases fl with
    | ret u => exact I.after hq
    | next => exact False.elim hq
    | brk => exact False.elim hq
    | cont => exact False.elim hq
theorem pe_callA (F : Act X.prog X.w X.K X.mg X.base k f g sp) (hr : Room k X.A) (hN : X.N[i]? = some x) (hv : Vis X.env.scope x) (hx : ∀ σ, PassesAt (L2.CX X.prog X.w) X σ (E σ)) (ha : PA X (e :: es) t)
    (hdb : (x == ("__debug__" : Str)) = false := by decide) (hcd : (x == ("__classdict__" : Str)) = false := by decide)
    (he : starEach (e :: es) X.env = (false, eval e X.env) :: starEach es X.env := by rfl) (hpl : (backTo pos (starEach es X.env)).any (·.1) = false := by rfl) : PE X (.Call (.Name x p) (e :: es) [] pos) (Ed.tCallA i f g sp E t) := by
  refine ⟨fun pins s σ H Q I h => ?_⟩
  obtain ⟨hs, hg, ht⟩ := h
  refine wpAny_Call_Name_kw (thn ((pe_var (pos := p) hN hv hdb hcd).run pins s σ H (fun v H1 => v = .ref f ∧ H1 = H) I ⟨.ref f, hs, rfl, rfl⟩) fun u s1 ⟨v, H1, I1, r1, q1⟩ => ?_)
  obtain ⟨ev, eH⟩ := q1
  subst ev
  rw [eH] at I1
  obtain rfl : u = Value.ref f := r1
  refine PySem.W.callWith_F (first := []) (F.fn s1 H I1.kIn I1.hok hg) (thn (ha.run pos pins s1 σ H _ I1 ht) fun us s2 ⟨vs, H2, I2, r, h1, q⟩ => ⟨F.fn s2 H2 I2.kIn I2.hok h1, ?_⟩) he hpl
  show wpAny _ _ (call (.ref f) us) _ _ _
  exact run_act F hr (hx σ) I2 r q
theorem pe_callA0 (F : Act X.prog X.w X.K X.mg X.base k f g sp) (hr : Room k X.A) (hN : X.N[i]? = some x) (hv : Vis X.env.scope x) (hx : ∀ σ, PassesAt (L2.CX X.prog X.w) X σ (E σ))
    (hdb : (x == ("__debug__" : Str)) = false := by decide) (hcd : (x == ("__classdict__" : Str)) = false := by decide) : PE X (.Call (.Name x p) [] [] pos) (Ed.tCallA i f g sp E tNil) := by
  refine ⟨fun pins s σ H Q I h => ?_⟩
  obtain ⟨hs, hg, h1, q⟩ := h
  refine wpAny_Call_Name_kw (thn ((pe_var (pos := p) hN hv hdb hcd).run pins s σ H (fun v H1 => v = .ref f ∧ H1 = H) I ⟨.ref f, hs, rfl, rfl⟩) fun u s1 ⟨v, H1, I1, r1, q1⟩ => ?_)
  obtain ⟨ev, eH⟩ := q1
  subst ev
  rw [eH] at I1
  obtain rfl : u = Value.ref f := r1
  refine PySem.W.callWith_F0 (first := []) (F.fn s1 H I1.kIn I1.hok hg) ?_
  show wpAny _ _ (call (.ref f) []) _ _ _
  exact run_act F hr (hx σ) I1 .nil q
/-- nothing is let out -/
theorem passS {X : Cx} (σ : L2.St) : PassesAt (L2.CX X.prog X.w) X σ ((fun _ => E0) σ) := fun pins H s e s' I c => passL pins σ H s e s' I c
end
/-! ### a lambda may be called while its cells stand -/
structure CellsB (base : Heap) (cl : List (Str × Addr)) (fr : List Str) (ws : List (Option V)) : Prop where
  len : ws.length = fr.length
  all : ∀ y c, cl.lookup y = some c → ∃ v, base.IsCell c v
  inj : ∀ x y c, cl.lookup x = some c → cl.lookup y = some c → x = y
  has : ∀ (i : Nat) (y : Str), fr[i]? = some y → ∃ c, cl.lookup y = some c ∧ ∀ v, ws[i]? = some (some v) → ∃ u, L2.RelV v u ∧ base.IsCell c (some u)
theorem CellsB.at {base : Heap} {cl : List (Str × Addr)} {fr : List Str} {ws : List (Option V)} {s : Shared} {H : Hp} (C : CellsB base cl fr ws) (bs : ∀ b o, base.get? b = some o → s.heap.get? b = some o ∧ H b = none) : CellsAt cl fr ws s.heap H := by
  have k : ∀ c v, base.IsCell c v → H c = none ∧ s.heap.IsCell c v := fun c v ⟨o, ho, hd⟩ => ⟨(bs c o ho).2, o, (bs c o ho).1, hd⟩
  refine ⟨C.len, fun y c e => ?_, C.inj, fun i y e => ?_⟩
  · obtain ⟨v, hv⟩ := C.all y c e
    exact ⟨(k c v hv).1, v, (k c v hv).2⟩
  · obtain ⟨c, hc, hv⟩ := C.has i y e
    refine ⟨c, hc, fun v ev => ?_⟩
    obtain ⟨u, r, z⟩ := hv v ev
    exact ⟨u, r, (k c _ z).2⟩
section
variable {P : Program} {w : World} {K : PySem.W.Frag} {mg : Str → Option Value} {base : Heap} {N ps fr : List Str} {F : LF} {f : Addr} {k : Nat} {ws : List (Option V)} {t : XK → TE}
theorem act_lam (S : NScope N ps fr F.scope) (hb : ∀ (pm ctv : Value) (us : List Value), us.length = ps.length → bindArgs (PySem.W.kla_fn "<lambda>" F.qual F.params F.body F.scope F.cl pm (.ref F.c) ctv) ⟨us, []⟩ = pure (ps.zip us)) (C : CellsB base F.cl fr ws)
    (hbody : ∀ (A : Around) (outer : List Env) (s : Shared) (H : Hp) (E : XK), Room k (A.deeper (envF F.nf f s.heap.objs.size)) → PE (ncx (L2.CX P w) P w K mg base N F.nf f A outer s H E) F.body (t E)) :
    Act P w K mg base (k + 1) f (fun H => H f = some (LamO f F)) (fun vs H Q E => vs.length = ps.length ∧ H f = some (LamO f F) ∧ H F.c = some (CodeO F.c F.qual) ∧ t E (startF N vs ws) H Q) := by
  refine ⟨fun s H _ hok hg => ?_, fun A outer s H us vs Q E hr e0 r ⟨hl, hf, hc, ht⟩ => ?_⟩
  · obtain ⟨pm, ctv, ho⟩ := lamO_at hok hg
    exact ⟨_, _, _, _, ho⟩
  · have lim : s.heap.NoLimit := e0.mod.nolimit.keeps fun b o e => (e0.bs b o e).1
    obtain ⟨pm, ctv, ho⟩ := lamO_at e0.hok hf
    refine PySem.W.kla_callFunE hr.depth ho rfl S.co S.gen rfl (codeO_at e0.hok hc) ?_
    rw [hb pm ctv us (by rw [← r.length]; exact hl)]
    refine wpAny_pure (wpAny_newFunctionEnv S.nocell (fun ⟨n, _⟩ hy => S.par n (List.of_mem_zip hy).1) (fun h₁ hns hsb => ⟨lim.fresh _ hsb, ?_⟩) S.kind)
    show codeAny _ _ (.expr F.body (envF F.nf f s.heap.objs.size)) _ _
    have kp : ∀ b o, s.heap.get? b = some o → h₁.get? b = some o := fun b o e => hsb.extBut b o (Nat.ne_of_lt (Heap.lt_size e)) (Heap.get?_push_of_some _ e)
    have I : Inv (ncx (L2.CX P w) P w K mg base N F.nf f A outer s H E) [] (startF N vs ws) H { s with heap := h₁, toks := s.toks + (ps.zip us).length } := inv_startN S hr.hd e0 hl r (C.at e0.bs) hns kp
    refine PySem.W.kla_codeExpr (wpAny_mono ((hbody A outer s H E (hr.deeper _)).run [] _ _ H Q I ht) (fun v s' hq => ?_) fun e s' hq => hq)
    obtain ⟨w', H', J', rv, q⟩ := hq
    exact ⟨w', H', J'.os, J'.bare, J'.base, J'.hok, rv, q⟩
theorem act_lamH {H1 : Hp} (_ : H1 f = some (LamO f F)) (S : NScope N ps fr F.scope) (hb : ∀ (pm ctv : Value) (us : List Value), us.length = ps.length → bindArgs (PySem.W.kla_fn "<lambda>" F.qual F.params F.body F.scope F.cl pm (.ref F.c) ctv) ⟨us, []⟩ = pure (ps.zip us)) (C : CellsB base F.cl fr ws)
    (hbody : ∀ (A : Around) (outer : List Env) (s : Shared) (H : Hp) (E : XK), Room k (A.deeper (envF F.nf f s.heap.objs.size)) → PE (ncx (L2.CX P w) P w K mg base N F.nf f A outer s H E) F.body (t E)) :
    Act P w K mg base (k + 1) f (fun H => H f = some (LamO f F)) (fun vs H Q E => vs.length = ps.length ∧ H f = some (LamO f F) ∧ H F.c = some (CodeO F.c F.qual) ∧ t E (startF N vs ws) H Q) := act_lam S hb C hbody
end
/-! ### a def called with lambdas in its arguments: its base holds their cells -/
def tCallC (X : Cx) (sp : Heap → Sp) (E : XK) (t : TA) : TE := fun σ H Q => t σ H fun vs H1 => ∀ base' : Heap, (∀ (cl : List (Str × Addr)) (fr : List Str) (js : List Nat), (X.Ok → Caps X cl fr js) → CellsB base' cl fr (js.map (slotAt σ))) → (∀ b o, X.base.get? b = some o → base'.get? b = some o) → sp base' vs H1 Q E
/-- all that H does not track, but the frames -/
def hidF (h : Heap) (H : Hp) (fs : List Addr) : Heap := hidT h fun b => if b ∈ fs then some (.own 0) else H b
theorem hidF_get {h : Heap} {H : Hp} {fs : List Addr} {b : Addr} {o : Obj} (e : h.get? b = some o) (n : H b = none) (hb : b ∉ fs) : (hidF h H fs).get? b = some o := hidT_get e ((if_neg hb).trans n)
theorem of_hidF {h : Heap} {H : Hp} {fs : List Addr} {b : Addr} {o : Obj} (e : (hidF h H fs).get? b = some o) : h.get? b = some o ∧ H b = none ∧ b ∉ fs := by
  obtain ⟨h1, h2⟩ := of_hidT e
  by_cases hb : b ∈ fs
  · have z : some (HO.own 0) = none := (if_pos hb).symm.trans h2
    cases z
  · exact ⟨h1, (if_neg hb).symm.trans h2, hb⟩
section
variable {X : Cx} {CX : CXT} {k : Nat} {g : Addr} {gd : FuncData} {ps : List Str} {sp : Heap → Sp} {E : XK} {x : Str} {p pos : Pos} {e : Expr} {es : List Expr} {t : TA}
theorem cell_nofr (hfn : ∀ y, X.fn y = true) {pins : List (Addr × Obj)} {σ : L2.St} {H : Hp} {s : Shared} (I : Inv X pins σ H s) {y : Str} {c : Addr} (e : X.env.cells.lookup y = some c) : c ∉ frs X.stack := fun hm => by
  rcases List.mem_cons.mp (I.stkSub c hm) with z | z
  · exact I.cne y c e z
  · have h1 := I.ok.cab y c (hfn y) e
    obtain ⟨_, o, ho, _⟩ := I.ok.funs.mem z
    exact absurd (Nat.lt_of_lt_of_le (Heap.lt_size ho) h1) (Nat.lt_irrefl _)
theorem env_hid (hfn : ∀ y, X.fn y = true) {pins : List (Addr × Obj)} {σ : L2.St} {H : Hp} {s : Shared} (I : Inv X pins σ H s) :
    Env0 X.prog X.w X.K X.mg (hidF s.heap H (frs X.stack)) X.A X.stack s H ∧ (∀ b o, X.base.get? b = some o → (hidF s.heap H (frs X.stack)).get? b = some o) ∧
    ∀ (cl : List (Str × Addr)) (fr : List Str) (js : List Nat), (X.Ok → Caps X cl fr js) → CellsB (hidF s.heap H (frs X.stack)) cl fr (js.map (slotAt σ)) := by
  have kb : ∀ b o, X.base.get? b = some o → (hidF s.heap H (frs X.stack)).get? b = some o := fun b o e => by
    obtain ⟨h1, h2⟩ := I.bs b o e
    refine hidF_get h1 h2 fun hm => ?_
    have z := (I.stack.mem hm).1
    rw [e] at z
    cases z
  have m := I.mod
  refine ⟨⟨I.ok.frames, ⟨m.kin.keeps kb, m.glob.keeps kb, ?_, m.nolimit.keeps kb⟩, fun b o e => ⟨(of_hidF e).1, (of_hidF e).2.1⟩, Nat.le_of_eq (hidT_size _ _), ?_, I.stkFree, I.hok, I.bare⟩, kb, fun cl fr js cp => ?_⟩
  · obtain ⟨mb, h1, h2⟩ := m.blt
    exact ⟨mb, h1.keeps kb, h2⟩
  · refine funFrames_none I.stack fun L hL => ?_
    cases q : (hidF s.heap H (frs X.stack)).get? L with
    | none => rfl
    | some o => exact absurd hL (of_hidF q).2.2
  · have c := cp I.ok
    have C := cells_of I c
    have k : ∀ y a v, cl.lookup y = some a → s.heap.IsCell a v → (hidF s.heap H (frs X.stack)).IsCell a v := fun y a v e ⟨o, ho, hd⟩ => ⟨o, hidF_get ho (C.all y a e).1 (cell_nofr hfn I (c.sub y a e)), hd⟩
    refine ⟨C.len, fun y a e => ?_, C.inj, fun i y e => ?_⟩
    · obtain ⟨_, v, hv⟩ := C.all y a e
      exact ⟨v, k y a v e hv⟩
    · obtain ⟨a, ha, hv⟩ := C.has i y e
      refine ⟨a, ha, fun v ev => ?_⟩
      obtain ⟨u, r, z⟩ := hv v ev
      exact ⟨u, r, k y a _ ha z⟩
theorem pe_callC (G : ∀ base : Heap, FnOk X.prog X.w X.K X.mg base CX k g gd ps (sp base)) (hr : Room k X.A) (hfn : ∀ y, X.fn y = true) (hg : Gl X x) (hm : X.mg x = some (.ref g)) (hk : PySem.W.keepIn X.K (.ref g) = true) (hb : Binds X.K gd ps []) (hx : Passes CX X E)
    (ha : PA X (e :: es) t) (hdb : (x == ("__debug__" : Str)) = false := by decide) (he : starEach (e :: es) X.env = (false, eval e X.env) :: starEach es X.env := by rfl) (hpl : (backTo pos (starEach es X.env)).any (·.1) = false := by rfl) :
    PE X (.Call (.Name x p) (e :: es) [] pos) (tCallC X sp E t) := by
  refine ⟨fun pins s σ H Q I h => ?_⟩
  refine wpAny_Call_Name_kw (ld_glob I hg hm ?_ hdb)
  refine PySem.W.callWith_K (h₀ := X.base) I.ok.mod.kin hk (thn (ha.run pos pins s σ H _ I h) fun us s1 ⟨vs, H1, I1, r, q⟩ => ⟨I1.kIn, ?_⟩) he hpl
  obtain ⟨e0, kb, cb⟩ := env_hid hfn I1
  have q := q _ cb kb
  have hl : us.length = ps.length := by rw [← r.length]; exact (G _).len _ _ _ _ q
  have b := hb s1 us I1.kIn (by rw [List.append_nil]; exact hl)
  rw [List.append_nil] at b
  refine wpAny_call (codeAny_mono ((G _).run X.A X.stack s1 H1 ⟨us, []⟩ us vs Q E hr e0 b r q) fun r s' hq => ?_)
  cases r with
  | error e => exact hx pins σ H1 s1 e s' I1 hq
  | ok fl =>
    cases fl with
    | ret u => exact I1.after hq
    | next => exact False.elim hq
    | brk => exact False.elim hq
    | cont => exact False.elim hq
end
/-! ### a def whose code object is known -/
theorem okC {P : Program} {w : World} {K : PySem.W.Frag} {mg : Str → Option Value} {base : Heap} {x qual : Str} {st : Stmt} {f c : Addr} {fd : FuncData} {N ps : List Str} {k : Nat} {sp : Sp} (F : Fun K x qual st f fd) (S : FnScope N ps (defScope st)) (hc : fd.code = .ref c) (len : ∀ vs H Q E, sp vs H Q E → vs.length = ps.length)
    (hbody : ∀ (A : Around) (outer : List Env) (s : Shared) (H : Hp) (vs : List V) (Q : VK) (E : XK), Room k (A.deeper (envOfC qual (defScope st) s.heap.objs.size f (.ref c))) → sp vs H Q E →
      ∃ t, PSs (cxOf CX0 P w K mg base N qual (defScope st) f (.ref c) A outer s H E).nox (defBody st) t ∧ t { nx := fun _ H' => Q .non H', rt := Q } (L2.start N vs) H) : FnOk P w K mg base CX0 (k + 1) f fd ps sp := by
  obtain ⟨oc, od, kV, doc, pm, an, cdv, ct, osl, rfl, lk, hcd⟩ := F.ex
  have e : cdv = .ref c := hc
  subst e
  refine fn_of lk hcd S len fun A outer s H vs Q E hr hsp => ?_
  obtain ⟨t, h, q⟩ := hbody A outer s H vs Q E hr hsp
  exact ⟨t, h.nox, q⟩
def lamQ (q : Str) : Str := (q ++ ".<locals>.") ++ "<lambda>"
/-! ### tables hidden -/
def noT (H : Hp) : Hp := fun b => match H b with | some (.tbl _) => none | o => o
theorem noT_same (H : Hp) : Same (noT H) H := fun b o e => by
  unfold noT at e
  split at e
  · cases e
  · exact e
theorem noT_at {H : Hp} {b : Addr} {o : HO} (e : H b = some o) (n : ∀ ps, o ≠ .tbl ps) : noT H b = some o := by
  unfold noT
  rw [e]
  cases o with
  | tbl ps => exact absurd rfl (n ps)
  | _ => rfl
theorem ext_noT {H H1 : Hp} (e : ExtN H H1) : Same (noT H) H1 := fun b o q => by
  unfold noT at q
  split at q
  · cases q
  · rename_i o' hn
    exact e b o q fun ps z => hn ps (by rw [q, z])
theorem ext_on {H0 H H1 : Hp} (s : Same (noT H0) H) (e : ExtN H H1) : Same (noT H0) H1 := fun b o q => by
  refine e b o (s b o q) fun ps z => ?_
  unfold noT at q
  split at q
  · cases q
  · rename_i o' hn
    exact hn ps (by rw [q, z])
theorem noT_seq {K : PySem.W.Frag} {H : Hp} {a : Addr} {xs : List V} (h : SqL K H a xs) : SqL K (noT H) a xs := by
  rcases h with (h | ⟨o, h⟩) | h
  · exact .inl (.inl (noT_at h (by intro ps z; cases z)))
  · exact .inl (.inr ⟨o, noT_at h (by intro ps z; cases z)⟩)
  · exact .inr h
theorem noT_rows {K : PySem.W.Frag} {H : Hp} {a : Addr} {rs : List (List Nat)} (h : RowsAt K H a rs) : RowsAt K (noT H) a rs := by
  obtain ⟨xs, h1, h2, h3⟩ := h
  refine ⟨xs, noT_seq h1, h2, fun k hk => ?_⟩
  obtain ⟨p, e, h⟩ := h3 k hk
  exact ⟨p, e, noT_seq h⟩
section
variable {σ : L2.St} {H : Hp} {Q : VK} {T : List (Addr × Str)} {mk : Addr → LF} {i : Nat} {f : Addr} {g : Hp → Prop} {sp : Sp} {E : L2.St → XK} {t : TA}
theorem go_lam (hT : Tabs T H) (k : ∀ (f c' : Addr) (H1 : Hp), ExtN H H1 → Tabs T H1 → H f = none → H1 f = some (LamO f (mk c')) → H1 c' = some (CodeO c' (mk c').qual) → Q (.ref f) H1) : tLamV T mk σ H Q := ⟨hT, k⟩
theorem go_callA (hs : σ[i]? = some (some (.ref f))) (hg : g H) (k : t σ H fun vs H1 => g H1 ∧ sp vs H1 Q (E σ)) : Ed.tCallA i f g sp E t σ H Q := ⟨hs, hg, k⟩
theorem go_callC {X : Cx} {sp : Heap → Sp} {E : XK} (k : t σ H fun vs H1 => ∀ base' : Heap, (∀ (cl : List (Str × Addr)) (fr : List Str) (js : List Nat), (X.Ok → Caps X cl fr js) → CellsB base' cl fr (js.map (slotAt σ))) → (∀ b o, X.base.get? b = some o → base'.get? b = some o) → sp base' vs H1 Q E) : tCallC X sp E t σ H Q := k
end
end Ed

/-! One row, told once or more often; more steps. -/
namespace Ed
open PySem L2 Deal
section
variable {n : Nat} {r : List Nat} {rs : List (List Nat)} {s : S} {dep : Nat → Nat}
theorem row_k (hr : ∀ q ∈ rs, q = r) {k : Nat} (hk : k < rs.length) : rs.getD k [] = r := hr _ (Good.at_mem hk)
theorem row_in (G : Good n rs) (hr : ∀ q ∈ rs, q = r) : r ∈ rs := by
  have h0 : 0 < rs.length := List.length_pos_iff.mpr G.ne
  have := Good.at_mem h0
  rw [row_k hr h0] at this
  exact this
theorem ix_of (G : Good n rs) (hm : r ∈ rs) {i : Nat} (hi : i < n) : r.idxOf (r.getD i 0) = i := by
  have h := ix_at G hm hi
  unfold ixO at h
  rw [Int.toNat_natCast] at h
  exact h
theorem ix_lt (G : Good n rs) (hm : r ∈ rs) {x : Nat} (hx : x < n) : r.idxOf x < n ∧ r.getD (r.idxOf x) 0 = x := by
  have hmem : x ∈ r := (G.perm r hm).mem_iff.mpr (List.mem_range.mpr hx)
  have hl := List.idxOf_lt_length_of_mem hmem
  have hn := G.len hm
  refine ⟨by omega, ?_⟩
  rw [List.getD_eq_getElem?_getD, List.getElem?_eq_getElem hl]
  simp
theorem one_adj (G : Good n rs) (hr : ∀ q ∈ rs, q = r) {k x y : Nat} (h : Adj rs k x y) : r.idxOf x / 2 = r.idxOf y / 2 ∧ r.idxOf x % 2 ≠ r.idxOf y % 2 := by
  obtain ⟨hk, hp⟩ := h
  rw [row_k hr hk] at hp
  have hm := row_in G hr
  have hl := G.len hm
  obtain ⟨j, hj, (⟨e1, e2⟩ | ⟨e1, e2⟩)⟩ := hp
  · have h1 := ix_of G hm (i := 2 * j) (by omega)
    have h2 := ix_of G hm (i := 2 * j + 1) (by omega)
    rw [e1] at h1
    rw [e2] at h2
    omega
  · have h1 := ix_of G hm (i := 2 * j) (by omega)
    have h2 := ix_of G hm (i := 2 * j + 1) (by omega)
    rw [e1] at h1
    rw [e2] at h2
    omega
theorem adj_one (G : Good n rs) (hr : ∀ q ∈ rs, q = r) {j : Nat} (hj : 2 * j + 1 < n) : Adj rs 0 (r.getD (2 * j) 0) (r.getD (2 * j + 1) 0) := by
  have h0 : 0 < rs.length := List.length_pos_iff.mpr G.ne
  have hl := G.len (row_in G hr)
  refine ⟨h0, ?_⟩
  rw [row_k hr h0]
  exact ⟨j, by omega, .inl ⟨rfl, rfl⟩⟩
theorem one_heads (G : Good n rs) (hr : ∀ q ∈ rs, q = r) (F : Fin n rs s dep) {x y : Nat} (hx : x < n) (hy : y < n) : s.heads x = s.heads y ↔ r.idxOf x / 2 = r.idxOf y / 2 := by
  have hm := row_in G hr
  constructor
  · intro e
    obtain ⟨c, ch, cl⟩ := F.chain G hx hy e
    have h := ch_const (f := fun x => ((r.idxOf x / 2 : Nat) : Int)) (fun k a b q => by rw [(one_adj G hr q.1).1]) c ch cl
    exact Int.ofNat.inj h
  · intro e
    obtain ⟨x1, x2⟩ := ix_lt G hm hx
    obtain ⟨y1, y2⟩ := ix_lt G hm hy
    by_cases h : r.idxOf x = r.idxOf y
    · have : x = y := by rw [← x2, ← y2, h]
      rw [this]
    · by_cases hxy : r.idxOf x < r.idxOf y
      · have a := F.adj 0 _ _ (adj_one G hr (j := r.idxOf x / 2) (by omega))
        rw [show 2 * (r.idxOf x / 2) = r.idxOf x by omega, show r.idxOf x + 1 = r.idxOf y by omega, x2, y2] at a
        exact a
      · have a := F.adj 0 _ _ (adj_one G hr (j := r.idxOf y / 2) (by omega))
        rw [show 2 * (r.idxOf y / 2) = r.idxOf y by omega, show r.idxOf y + 1 = r.idxOf x by omega, x2, y2] at a
        exact a.symm
def pix (n : Nat) (r : List Nat) : List Int := (List.range n).map fun x => ((r.idxOf x / 2 : Nat) : Int)
theorem pix_get {x : Nat} (h : x < n) : (pix n r).getD x 0 = ((r.idxOf x / 2 : Nat) : Int) := by
  unfold pix
  rw [List.getD_eq_getElem?_getD, List.getElem?_map, List.getElem?_range h]
  rfl
theorem one_marks (G : Good n rs) (hr : ∀ q ∈ rs, q = r) (F : Fin n rs s dep) : Mks n s (pix n r) := by
  refine ⟨by simp [pix], fun x y hx hy => ?_⟩
  rw [pix_get hx, pix_get hy, one_heads G hr F hx hy]
  omega
theorem one_hds (G : Good n rs) (hr : ∀ q ∈ rs, q = r) (F : Fin n rs s dep) : (hds n s).length = (n + 1) / 2 := by
  have M := one_marks G hr F
  have hm := row_in G hr
  have h := M.count F
  rw [← h, M.len]
  have e : (gm (fun i => (pix n r).getD i 0) n).Perm (iN (List.range ((n + 1) / 2))) := by
    refine (List.perm_ext_iff_of_nodup (gm_nodup _ _) ?_).mpr fun k => ?_
    · show List.Pairwise _ _
      unfold iN
      rw [List.pairwise_map]
      exact List.Pairwise.imp (fun {a b} h z => h (Int.ofNat.inj z)) (show List.Pairwise (· ≠ ·) _ from List.nodup_range)
    · rw [gm_mem]
      unfold iN
      rw [List.mem_map]
      constructor
      · rintro ⟨j, hj, e⟩
        rw [pix_get hj] at e
        have := (ix_lt G hm hj).1
        exact ⟨r.idxOf j / 2, List.mem_range.mpr (by omega), e⟩
      · rintro ⟨j, hj, e⟩
        have hj := List.mem_range.mp hj
        have hlt := G.lt hm (i := 2 * j) (by omega)
        refine ⟨r.getD (2 * j) 0, hlt, ?_⟩
        rw [pix_get hlt, ix_of G hm (by omega), ← e]
        omega
  rw [e.length_eq, iN_len, List.length_range]
theorem one_bar (G : Good n rs) (hr : ∀ q ∈ rs, q = r) (F : Fin n rs s dep) : s.bar = none := by
  cases hb : s.bar with
  | none => rfl
  | some b =>
    exfalso
    refine (F.ring G hb).bars (d := fun x => some (decide (r.idxOf x % 2 = 0))) (fun x => by simp) fun k x y h => ?_
    have := (one_adj G hr h).2
    intro z
    have z := Option.some.inj z
    rw [Bool.eq_iff_iff, decide_eq_true_eq, decide_eq_true_eq] at z
    omega
theorem one_cnt (G : Good n rs) (hr : ∀ q ∈ rs, q = r) (F : Fin n rs s dep) : cntN n s = 2 ^ ((n + 1) / 2) := by
  unfold cntN
  rw [if_pos (one_bar G hr F), one_hds G hr F]
end
theorem good_one {n : Nat} {r : List Nat} {rs : List (List Nat)} (h : r.Perm (List.range n)) (hne : rs ≠ []) (hr : ∀ q ∈ rs, q = r) : Good n rs := ⟨hne, fun q hq => by rw [hr q hq]; exact h⟩
theorem cnt_lt {n : Nat} {s : S} {m : Nat} (h : m < cntN n s) : s.bar = none ∧ m < 2 ^ (hds n s).length := by
  unfold cntN at h
  by_cases hb : s.bar = none
  · rw [if_pos hb] at h
    exact ⟨hb, h⟩
  · rw [if_neg hb] at h
    exact absurd h (by omega)
/-! ### two things of a pair exchanged -/
def swp (d : List Int) (x y : Nat) : List Int := (d.set x (d.getD y 0)).set y (d.getD x 0)
theorem swp_len {d : List Int} {x y : Nat} : (swp d x y).length = d.length := by simp [swp]
theorem getD_set {d : List Int} {x i : Nat} {v : Int} (h : i < d.length) : (d.set x v).getD i 0 = if x = i then v else d.getD i 0 := by
  rw [List.getD_eq_getElem?_getD, List.getElem?_set, List.getD_eq_getElem?_getD]
  by_cases e : x = i
  · subst e
    rw [if_pos rfl, if_pos rfl, if_pos h]
    rfl
  · rw [if_neg e, if_neg e]
theorem swp_get {d : List Int} {x y i : Nat} (h : i < d.length) : (swp d x y).getD i 0 = if y = i then d.getD x 0 else if x = i then d.getD y 0 else d.getD i 0 := by
  unfold swp
  rw [getD_set (by rw [List.length_set]; exact h), getD_set h]
theorem list_ext_getD {d e : List Int} (hl : d.length = e.length) (h : ∀ i, i < d.length → d.getD i 0 = e.getD i 0) : d = e := by
  apply List.ext_getElem?
  intro i
  by_cases hi : i < d.length
  · have := h i hi
    rw [List.getD_eq_getElem?_getD, List.getD_eq_getElem?_getD, List.getElem?_eq_getElem hi, List.getElem?_eq_getElem (by omega : i < e.length)] at this
    rw [List.getElem?_eq_getElem hi, List.getElem?_eq_getElem (by omega : i < e.length)]
    exact congrArg some this
  · rw [List.getElem?_eq_none (by omega), List.getElem?_eq_none (by omega)]
theorem swp_swp {d : List Int} {x y : Nat} (hx : x < d.length) (hy : y < d.length) : swp (swp d x y) x y = d := by
  refine list_ext_getD (by rw [swp_len, swp_len]) fun i hi => ?_
  rw [swp_len, swp_len] at hi
  rw [swp_get (by rw [swp_len]; exact hi), swp_get hx, swp_get hy, swp_get hi]
  by_cases e1 : y = i
  · subst e1
    rw [if_pos rfl, if_pos rfl]
    split
    · rename_i e
      rw [e]
    · rfl
  · rw [if_neg e1, if_neg e1]
    by_cases e2 : x = i
    · subst e2
      rw [if_pos rfl, if_pos rfl]
    · rw [if_neg e2, if_neg e2]
theorem one_swap {n : Nat} {r : List Nat} {rs : List (List Nat)} (G : Good n rs) (hr : ∀ q ∈ rs, q = r) (h2 : 2 ≤ n) {d : List Int} (he : isEven n rs d = true) : isEven n rs (swp d (r.getD 0 0) (r.getD 1 0)) = true ∧ swp d (r.getD 0 0) (r.getD 1 0) ≠ d := by
  obtain ⟨e1, e2, e3⟩ := (even_iff G).mp he
  have hm := row_in G hr
  have hx := G.lt hm (i := 0) (by omega)
  have hy := G.lt hm (i := 1) (by omega)
  have ix0 := ix_of G hm (i := 0) (by omega)
  have ix1 := ix_of G hm (i := 1) (by omega)
  have ha := adj_one G hr (j := 0) (by omega)
  have hne := e3 _ _ _ ha
  have hne : d.getD (r.getD 0 0) 0 ≠ d.getD (r.getD 1 0) 0 := hne
  generalize hxx : r.getD 0 0 = x at *
  generalize hyy : r.getD 1 0 = y at *
  have nxy : x ≠ y := fun z => by rw [z, ix1] at ix0; omega
  have h01 : ∀ i, i < n → d.getD i 0 = 0 ∨ d.getD i 0 = 1 := fun i hi => is01_iff.mp (all_getD e2 (by omega))
  have hdx := h01 x hx
  have hdy := h01 y hy
  -- exchanged: the pair turned
  have tn : ∀ i, i < n → (swp d x y).getD i 0 = if r.idxOf i / 2 = 0 then 1 - d.getD i 0 else d.getD i 0 := fun i hi => by
    rw [swp_get (by omega)]
    obtain ⟨i1, i2⟩ := ix_lt G hm hi
    by_cases c1 : y = i
    · subst c1
      rw [if_pos rfl, if_pos (by omega)]
      omega
    · rw [if_neg c1]
      by_cases c2 : x = i
      · subst c2
        rw [if_pos rfl, if_pos (by omega)]
        omega
      · rw [if_neg c2, if_neg]
        intro z
        have : r.idxOf i = 0 ∨ r.idxOf i = 1 := by omega
        rcases this with z | z
        · rw [z, hxx] at i2
          exact c2 i2
        · rw [z, hyy] at i2
          exact c1 i2
  constructor
  · rw [even_iff G]
    refine ⟨by rw [swp_len]; exact e1, ?_, fun k a b hab => ?_⟩
    · rw [List.all_eq_true]
      intro z hz
      obtain ⟨i, hi, rfl⟩ := List.getElem_of_mem hz
      rw [swp_len] at hi
      have h := tn i (by omega)
      have := h01 i (by omega)
      rw [List.getD_eq_getElem?_getD, List.getElem?_eq_getElem (by rw [swp_len]; exact hi)] at h
      have h : (swp d x y)[i] = _ := h
      rw [h, is01_iff]
      split <;> omega
    · obtain ⟨l1, l2, _⟩ := G.adj_lt hab
      have h1 := (one_adj G hr hab).1
      have h2 := e3 k a b hab
      have h3 := h01 a l1
      have h4 := h01 b l2
      rw [tn a l1, tn b l2, h1]
      split <;> omega
  · intro z
    have h := tn x hx
    rw [z, if_pos (by omega)] at h
    omega
/-! ### answers bent -/
section
variable {n : Nat} {rs : List (List Nat)} {x y : Int} {ts ps : List Int}
theorem chain_len (h : ps.length + 1 ≠ ts.length) : isChain n rs ts ps = false := by
  unfold isChain
  rw [if_pos (.inr h)]
theorem chain_place {b : Int} (hp : ps ≠ []) (hb : ¬ (0 ≤ b ∧ b < (rs.length : Int))) : isChain n rs ts (ps.set 0 b) = false := by
  unfold isChain
  have h0 : 0 < ps.length := List.length_pos_iff.mpr hp
  by_cases h : ts = [] ∨ (ps.set 0 b).length + 1 ≠ ts.length
  · rw [if_pos h]
  · rw [if_neg h]
    by_cases h2 : ts.all (inR n) = true
    · rw [if_pos h2, List.all_eq_false]
      refine ⟨0, List.mem_range.mpr (by rw [List.length_set]; exact h0), ?_⟩
      have e : (ps.set 0 b).getD 0 0 = b := by rw [getD_set h0, if_pos rfl]
      rw [e]
      unfold isPair
      rw [if_neg hb]
      simp
    · rw [if_neg h2]
theorem way_of (h : isChain n rs ts ps = false) : isWay n rs x y ts ps = false := by
  unfold isWay
  split
  · rfl
  · exact h
theorem ring_of (h : isChain n rs ts ps = false) : isRing n rs ts ps = false := by
  unfold isRing
  split
  · rfl
  · exact h
theorem way_first {z : Int} (ht : ts ≠ []) (hz : z ≠ x) : isWay n rs x y (ts.set 0 z) ps = false := by
  unfold isWay
  have h0 : 0 < ts.length := List.length_pos_iff.mpr ht
  rw [if_pos (.inr (.inl (by rw [getD_set h0, if_pos rfl]; exact hz)))]
theorem even_len {d : List Int} (h : d.length ≠ n) : isEven n rs d = false := by
  unfold isEven
  rw [if_neg (fun z => h z.1)]
theorem even_bad {d : List Int} {z : Int} (hd : d ≠ []) (hz : is01 z = false) : isEven n rs (d.set 0 z) = false := by
  unfold isEven
  rw [if_neg]
  rintro ⟨_, h⟩
  have h0 : 0 < d.length := List.length_pos_iff.mpr hd
  have := all_getD h (i := 0) (by rw [List.length_set]; exact h0)
  rw [getD_set h0, if_pos rfl, hz] at this
  cases this
theorem free_fst {x y : Nat} {d e : List Int} (h : isEven n rs d = false) : isFree n rs x y d e = false := by
  unfold isFree
  rw [if_neg (fun z => by rw [h] at z; cases z.1)]
theorem free_snd {x y : Nat} {d e : List Int} (h : isEven n rs e = false) : isFree n rs x y d e = false := by
  unfold isFree
  rw [if_neg (fun z => by rw [h] at z; cases z.2)]
theorem way_two (h : isWay n rs x y ts ps = true) (hxy : x ≠ y) (hl : ps.length + 1 = ts.length) : ps ≠ [] := fun e => by
  subst e
  have hl : ts.length = 1 := hl.symm
  unfold isWay at h
  by_cases c : ts = [] ∨ ts.getD 0 0 ≠ x ∨ ts.getD (ts.length - 1) 0 ≠ y
  · rw [if_pos c] at h
    cases h
  · have h1 : ts.getD 0 0 = x := Decidable.byContradiction fun z => c (.inr (.inl z))
    have h2 : ts.getD (ts.length - 1) 0 = y := Decidable.byContradiction fun z => c (.inr (.inr z))
    rw [hl] at h2
    exact hxy (h1.symm.trans h2)
end
theorem lamO_lst {f : Addr} {F : LF} {xs : List V} : LamO f F ≠ .lst xs := fun z => by
  unfold LamO at z
  cases z
theorem codeO_lst {c : Addr} {q : Str} {xs : List V} : LamX.CodeO c q ≠ .lst xs := fun z => by
  unfold LamX.CodeO at z
  cases z
theorem But.full {x : Addr} {H H' : Hp} {o : HO} (b : But x H H') (h : H x = some o) (h' : H' x = some o) : Same H H' := fun c z e => by
  by_cases hc : c = x
  · subst hc
    rw [h] at e
    rw [h', e]
  · exact b c z e hc
/-! ### steps -/
section
variable {K : PySem.W.Frag} {H : Hp} {Q : VK} {a : Addr}
theorem go_rep {xs : List V} {k : Int} (h : H a = some (.lst xs)) (h1 : -(2 ^ 63) ≤ k) (h2 : k < 2 ^ 63) (hz : xs.length * k.toNat ≤ sizeLine) (k' : ∀ p H', H p = none → Same H H' → H' p = some (.lst (List.replicate k.toNat xs).flatten) → Q (.ref p) H') : rRep (.ref a) (.int k) H Q :=
  ⟨a, k, xs, rfl, rfl, h, h1, h2, hz, fun p hp => k' p _ hp (same_new hp) upd_same⟩
theorem go_popAt {xs : List V} {i : Int} {k : Nat} {y : V} (h : H a = some (.lst xs)) (hi : i = (k : Int)) (hk : k < xs.length) (hz : xs.length ≤ 100000) (hy : xs[k]? = some y) (q : Q y (upd H a (.lst (xs.eraseIdx k)))) : rPopAt (.ref a) [.int i] H Q := by
  refine ⟨a, xs, i, k, y, rfl, rfl, h, by omega, by omega, ?_, hy, q⟩
  rw [hi]
  unfold seqIndex?
  simp
  omega
theorem go_isB {b c : Bool} (k : Q (.bl (decide (b = c))) H) : rIsB (.bl b) (.bl c) H Q := ⟨b, c, rfl, rfl, k⟩
theorem go_notB {b c : Bool} (k : Q (.bl (!decide (b = c))) H) : rNotB (.bl b) (.bl c) H Q := ⟨b, c, rfl, rfl, k⟩
theorem go_abs {i : Int} (k : ∀ m : Nat, (m : Int) = (if i < 0 then -i else i) → Q (.int (m : Int)) H) : ∃ j, [V.int i] = [.int j] ∧ Q (.int (if j < 0 then -j else j)) H := by
  refine ⟨i, rfl, ?_⟩
  have e : (((if i < 0 then -i else i).toNat : Nat) : Int) = if i < 0 then -i else i := by
    split <;> omega
  have := k _ e
  rw [e] at this
  exact this
end
end Ed

/-! Displays by what they hold. -/
namespace Ed
open PySem L2 Deal
/-- what is told of a value, and stays told -/
structure SR where
  r : V → Hp → Prop
  st : ∀ v H H', Same H H' → r v H → r v H'
def Ev (σ : L2.St) (H0 : Hp) (te : TE) (R : SR) : Prop := ∀ H, Same H0 H → ∀ Q : VK, (∀ v H', Same H H' → R.r v H' → Q v H') → te σ H Q
def EvA (σ : L2.St) (H0 : Hp) (ts : TA) (R : SR) (n : Nat) : Prop := ∀ H, Same H0 H → ∀ Q : List V → Hp → Prop, (∀ vs H', Same H H' → vs.length = n → (∀ x ∈ vs, R.r x H') → Q vs H') → ts σ H Q
inductive AllR (H : Hp) : List SR → List V → Prop where
  | nil : AllR H [] []
  | cons {R : SR} {Rs : List SR} {v : V} {vs : List V} (h : R.r v H) (t : AllR H Rs vs) : AllR H (R :: Rs) (v :: vs)
theorem AllR.same {H H' : Hp} (s : Same H H') : ∀ {Rs : List SR} {vs : List V}, AllR H Rs vs → AllR H' Rs vs
  | _, _, .nil => .nil
  | _, _, .cons (R := R) h t => .cons (R.st _ _ _ s h) (AllR.same s t)
theorem AllR.len {H : Hp} : ∀ {Rs : List SR} {vs : List V}, AllR H Rs vs → vs.length = Rs.length
  | _, _, .nil => rfl
  | _, _, .cons _ t => by rw [List.length_cons, List.length_cons, AllR.len t]
def Evs (σ : L2.St) (H0 : Hp) (ts : TA) (Rs : List SR) : Prop := ∀ H, Same H0 H → ∀ Q : List V → Hp → Prop, (∀ vs H', Same H H' → AllR H' Rs vs → Q vs H') → ts σ H Q
/-- numbers written out -/
def EvI (σ : L2.St) (ts : TA) (d : List Int) : Prop := ∀ (H : Hp) (Q : List V → Hp → Prop), Q (d.map V.int) H → ts σ H Q
def isV (v : V) : SR := ⟨fun u _ => u = v, fun _ _ _ _ h => h⟩
def listA (R : SR) (n : Nat) : SR := ⟨fun v H => ∃ a xs, v = .ref a ∧ H a = some (.lst xs) ∧ xs.length = n ∧ ∀ x ∈ xs, R.r x H, fun _ _ _ s ⟨a, xs, e, h, l, k⟩ => ⟨a, xs, e, s _ _ h, l, fun x hx => R.st _ _ _ s (k x hx)⟩⟩
def listI (d : List Int) : SR := ⟨fun v H => ∃ a, v = .ref a ∧ H a = some (.lst (d.map V.int)), fun _ _ _ s ⟨a, e, h⟩ => ⟨a, e, s _ _ h⟩⟩
def tupR (Rs : List SR) : SR := ⟨fun v H => ∃ t xs, v = .ref t ∧ H t = some (.tup xs) ∧ AllR H Rs xs, fun _ _ _ s ⟨t, xs, e, h, k⟩ => ⟨t, xs, e, s _ _ h, k.same s⟩⟩
def lstR (Rs : List SR) : SR := ⟨fun v H => ∃ t xs, v = .ref t ∧ H t = some (.lst xs) ∧ AllR H Rs xs, fun _ _ _ s ⟨t, xs, e, h, k⟩ => ⟨t, xs, e, s _ _ h, k.same s⟩⟩
def rowsR (K : PySem.W.Frag) (rs : List (List Nat)) : SR := ⟨fun v H => ∃ a, v = .ref a ∧ RowsAt K H a rs, fun _ _ _ s ⟨a, e, h⟩ => ⟨a, e, h.same s⟩⟩
def obj2 (C : Addr) (n1 n2 : Str) (d e : List Int) : SR := ⟨fun v H => ∃ p dx l m, v = .ref p ∧ H p = some (.ins C dx (f2 n1 n2 l m)) ∧ H l = some (.lst (d.map V.int)) ∧ H m = some (.lst (e.map V.int)), fun _ _ _ s ⟨p, dx, l, m, e, h1, h2, h3⟩ => ⟨p, dx, l, m, e, s _ _ h1, s _ _ h2, s _ _ h3⟩⟩
def obj1 (C : Addr) (n1 : Str) (d : List Int) : SR := ⟨fun v H => ∃ p dx l, v = .ref p ∧ H p = some (.ins C dx (f1 n1 l)) ∧ H l = some (.lst (d.map V.int)), fun _ _ _ s ⟨p, dx, l, e, h1, h2⟩ => ⟨p, dx, l, e, s _ _ h1, s _ _ h2⟩⟩
section
variable {σ : L2.St} {H0 : Hp} {te ta tb : TE} {ts ts1 ts2 : TA} {R R' : SR} {Rs : List SR} {n m : Nat} {d e : List Int} {K : PySem.W.Frag}
theorem Ev.mono (h : Ev σ H0 te R) (k : ∀ v H, R.r v H → R'.r v H) : Ev σ H0 te R' := fun H s Q q => h H s Q fun v H' s' r => q v H' s' (k v H' r)
theorem ev_c (v : V) : Ev σ H0 (tC v) (isV v) := fun H s Q q => go_c (q v H (Same.refl _) rfl)
theorem ev_var {i : Nat} {v : V} (hs : σ[i]? = some (some v)) (h : R.r v H0) : Ev σ H0 (tVar i) R := fun H s Q q => go_var hs (q v H (Same.refl _) (R.st _ _ _ s h))
theorem evA_nil : EvA σ H0 tNil R 0 := fun H s Q q => go_nil (q [] H (Same.refl _) rfl (by simp))
theorem evA_cons (h : Ev σ H0 te R) (t : EvA σ H0 ts R n) : EvA σ H0 (tCons te ts) R (n + 1) := fun H s Q q =>
  go_cons (h H s _ fun v H1 s1 r => t H1 (s.trans s1) _ fun vs H2 s2 l k => q (v :: vs) H2 (s1.trans s2) (by rw [List.length_cons, l]) fun x hx => by
    rcases List.mem_cons.mp hx with rfl | hx
    · exact R.st _ _ _ s2 r
    · exact k x hx)
theorem ev_lstA (h : EvA σ H0 ts R n) (hn : n ≤ 1000) : Ev σ H0 (tLst ts) (listA R n) := fun H s Q q =>
  go_lst (h H s _ fun vs H1 s1 l k => go_lstK (small_le (by omega)) fun p H2 np s2 e2 => q _ H2 (s1.trans s2) ⟨p, vs, rfl, e2, l, fun x hx => R.st _ _ _ s2 (k x hx)⟩)
theorem ev_catA (h1 : Ev σ H0 ta (listA R n)) (h2 : Ev σ H0 tb (listA R m)) (hn : n + m ≤ 1000) : Ev σ H0 (tOp rCat ta tb) (listA R (n + m)) := fun H s Q q =>
  go_op (h1 H s _ fun v H1 s1 ⟨a, xs, ev, ha, la, ka⟩ => h2 H1 (s.trans s1) _ fun u H2 s2 ⟨b, ys, eu, hb, lb, kb⟩ => by
    subst ev eu
    refine go_cat (s2 _ _ ha) hb (small_le (by omega)) fun p H3 np s3 e3 => q _ H3 (s1.trans (s2.trans s3)) ⟨p, xs ++ ys, rfl, e3, by rw [List.length_append]; omega, fun x hx => ?_⟩
    rcases List.mem_append.mp hx with hx | hx
    · exact R.st _ _ _ (s2.trans s3) (ka x hx)
    · exact R.st _ _ _ s3 (kb x hx))
theorem evS_nil : Evs σ H0 tNil [] := fun H s Q q => go_nil (q [] H (Same.refl _) .nil)
theorem evS_cons (h : Ev σ H0 te R) (t : Evs σ H0 ts Rs) : Evs σ H0 (tCons te ts) (R :: Rs) := fun H s Q q =>
  go_cons (h H s _ fun v H1 s1 r => t H1 (s.trans s1) _ fun vs H2 s2 k => q (v :: vs) H2 (s1.trans s2) (.cons (R.st _ _ _ s2 r) k))
theorem ev_tup (h : Evs σ H0 ts Rs) (hn : Rs.length ≤ 1000 := by simp) : Ev σ H0 (tTup ts) (tupR Rs) := fun H s Q q =>
  go_tup (h H s _ fun vs H1 s1 k => go_tupK (small_le (by rw [k.len]; omega)) fun p H2 np s2 e2 => q _ H2 (s1.trans s2) ⟨p, vs, rfl, e2, k.same s2⟩)
theorem ev_lst (h : Evs σ H0 ts Rs) (hn : Rs.length ≤ 1000 := by simp) : Ev σ H0 (tLst ts) (lstR Rs) := fun H s Q q =>
  go_lst (h H s _ fun vs H1 s1 k => go_lstK (small_le (by rw [k.len]; omega)) fun p H2 np s2 e2 => q _ H2 (s1.trans s2) ⟨p, vs, rfl, e2, k.same s2⟩)
theorem evI_nil : EvI σ tNil [] := fun H Q q => go_nil q
theorem evI_cons {i : Int} (t : EvI σ ts d) : EvI σ (tCons (tC (.int i)) ts) (i :: d) := fun H Q q => go_cons (go_c (t H _ q))
theorem evI_neg {i : Int} (t : EvI σ ts d) : EvI σ (tCons (tUn (rU fun i => .int (-i)) (tC (.int i))) ts) (-i :: d) := fun H Q q => go_cons (go_un (go_c (go_U (t H _ q))))
theorem evI_pow {i j : Int} (h1 : 0 ≤ j) (h2 : j ≤ 1000) (h3 : i.natAbs < 2 ^ 64) (t : EvI σ ts d) : EvI σ (tCons (tOp (rI CPow fun i j => .int (i ^ j.toNat)) (tC (.int i)) (tC (.int j))) ts) (i ^ j.toNat :: d) := fun H Q q =>
  go_cons (go_op (go_c (go_c (go_I ⟨h1, by omega, h3⟩ (t H _ q)))))
theorem ev_ints (h : EvI σ ts d) (hn : d.length ≤ 1000 := by decide) : Ev σ H0 (tLst ts) (listI d) := fun H s Q q =>
  go_lst (h H _ (go_lstK (small_le (by rw [List.length_map]; omega)) fun p H2 np s2 e2 => q _ H2 s2 ⟨p, rfl, e2⟩))
/-- rows written out -/
def EvR (K : PySem.W.Frag) (σ : L2.St) (ts : TA) (rs : List (List Nat)) : Prop := ∀ (H : Hp) (Q : List V → Hp → Prop), (∀ vs H', Same H H' → RowsV K H' vs rs → Q vs H') → ts σ H Q
theorem evR_nil : EvR K σ tNil [] := fun H Q q => go_nil (q [] H (Same.refl _) .nil)
theorem evR_cons {r : List Nat} {rs : List (List Nat)} (h : EvI σ ts1 d) (e : d = iN r) (hn : r.length ≤ 1000) (t : EvR K σ ts rs) : EvR K σ (tCons (tLst ts1) ts) (r :: rs) := fun H Q q =>
  go_cons (go_lst (h H _ (go_lstK (small_le (by rw [List.length_map, e, iN_len]; omega)) fun p H1 np s1 e1 => t H1 _ fun vs H2 s2 k => q _ H2 (s1.trans s2) (.cons (by
    rw [nv_iv]
    rw [e] at e1
    exact sqL_of (s2 _ _ e1)) k))))
theorem ev_rows {rs : List (List Nat)} (h : EvR K σ ts rs) (hn : rs.length ≤ 1000) : Ev σ H0 (tLst ts) (rowsR K rs) := fun H s Q q =>
  go_lst (h H _ fun vs H1 s1 k => go_lstK (small_le (by rw [k.len]; omega)) fun p H2 np s2 e2 => q _ H2 (s1.trans s2) ⟨p, rfl, RowsV.at (sqL_of e2) (k.same s2)⟩)
/-! objects -/
def Init2 (K : PySem.W.Frag) (C : Addr) (n1 n2 : Str) (sp : Sp) : Prop := ∀ (x dx a b : Addr) (xs ys : List V) (H : Hp) (Q : VK) (E : XK), H x = some (.ins C dx []) → SqL K H a xs → SqL K H b ys →
  (∀ l m H', H l = none → H m = none → l ≠ m → But x H H' → H' x = some (.ins C dx (f2 n1 n2 l m)) → H' l = some (.lst xs) → H' m = some (.lst ys) → Q .non H') → sp [.ref x, .ref a, .ref b] H Q E
def Init1 (K : PySem.W.Frag) (C : Addr) (n1 : Str) (sp : Sp) : Prop := ∀ (x dx a : Addr) (xs : List V) (H : Hp) (Q : VK) (E : XK), H x = some (.ins C dx []) → SqL K H a xs →
  (∀ l H', H l = none → But x H H' → H' x = some (.ins C dx (f1 n1 l)) → H' l = some (.lst xs) → Q .non H') → sp [.ref x, .ref a] H Q E
theorem ev_obj2 {C : Addr} {n1 n2 : Str} {sp : Sp} {E : XK} (hi : Init2 K C n1 n2 sp) (h1 : EvI σ ts1 d) (h2 : EvI σ ts2 e) (l1 : d.length ≤ 1000 := by decide) (l2 : e.length ≤ 1000 := by decide) :
    Ev σ H0 (tMake C sp [] E (tCons (tLst ts1) (tCons (tLst ts2) tNil))) (obj2 C n1 n2 d e) := fun H s Q q =>
  go_make (go_cons (go_lst (h1 H _ (go_lstK (small_le (by rw [List.length_map]; omega)) fun p1 H1 np1 s1 e1 => go_cons (go_lst (h2 H1 _ (go_lstK (small_le (by rw [List.length_map]; omega)) fun p2 H2 np2 s2 e2 => go_nil (go_mkK fun x dx H3 nx ndx ne s3 e3 =>
    hi x dx p1 p2 _ _ H3 _ E e3 (sqL_of (s3 _ _ (s2 _ _ e1))) (sqL_of (s3 _ _ e2)) fun l m H4 nl nm lm bt ex el em => ⟨rfl, q _ H4 ((bt.same ((s1.trans s2).trans s3) ((s1.trans s2).free nx))) ⟨x, dx, l, m, rfl, ex, el, em⟩⟩))))))))
theorem ev_obj1 {C : Addr} {n1 : Str} {sp : Sp} {E : XK} (hi : Init1 K C n1 sp) (h1 : EvI σ ts1 d) (l1 : d.length ≤ 1000 := by decide) :
    Ev σ H0 (tMake C sp [] E (tCons (tLst ts1) tNil)) (obj1 C n1 d) := fun H s Q q =>
  go_make (go_cons (go_lst (h1 H _ (go_lstK (small_le (by rw [List.length_map]; omega)) fun p1 H1 np1 s1 e1 => go_nil (go_mkK fun x dx H3 nx ndx ne s3 e3 =>
    hi x dx p1 _ H3 _ E e3 (sqL_of (s3 _ _ e1)) fun l H4 nl bt ex el => ⟨rfl, q _ H4 ((bt.same (s1.trans s3) (s1.free nx))) ⟨x, dx, l, rfl, ex, el⟩⟩)))))
/-- an assignment of what is told -/
theorem Ev.go (h : Ev σ H0 te R) {H : Hp} {Q : VK} (s : Same H0 H) (q : ∀ v H', Same H H' → R.r v H' → Q v H') : te σ H Q := h H s Q q
end
/-! ### one of two rules -/
section
variable {X : Cx}
theorem pe_or2 {e : Expr} {t u : TE} (h1 : PE X e t) (h2 : PE X e u) : PE X e (fun σ H Q => t σ H Q ∨ u σ H Q) := ⟨fun pins s σ H Q I h => h.elim (fun q => h1.run pins s σ H Q I q) fun q => h2.run pins s σ H Q I q⟩
end
end Ed

/-! What is no rows, thing, number, dealing: by data. -/
namespace Ed
open PySem L2 Deal
inductive DV (K : PySem.W.Frag) (H : Hp) : V → PyData → Prop where
  | d {v : V} {d : PyData} (h : Dp K H v d) : DV K H v d
  | dict {a : Addr} (e : H a = some (.dK [])) : DV K H (.ref a) (.dict [])
section
variable {K : PySem.W.Frag} {H H' : Hp}
mutual
theorem dp_same (s : Same H H') : ∀ (d : PyData) (v : V), Dp K H v d → Dp K H' v d
  | .none, _, h => by cases h; exact .non
  | .bool _, _, h => by cases h; exact .bl _
  | .int _, _, h => by cases h; exact .int _
  | .str _, _, h => by cases h; exact .str _
  | .list ds, _, h => by
    cases h with
    | lst h t => exact .lst (s.seq h) (dpAll_same s ds _ t)
  | .tuple ds, _, h => by
    cases h with
    | tup h t => exact .tup (Same.seqT s h) (dpAll_same s ds _ t)
  | .dict _, _, h => by cases h
theorem dpAll_same (s : Same H H') : ∀ (ds : List PyData) (vs : List V), DpAll K H vs ds → DpAll K H' vs ds
  | [], _, h => by cases h; exact .nil
  | d :: ds, _, h => by
    cases h with
    | cons h t => exact .cons (dp_same s d _ h) (dpAll_same s ds _ t)
end
theorem DV.same (s : Same H H') {v : V} {d : PyData} (h : DV K H v d) : DV K H' v d := by
  cases h with
  | d h => exact .d (dp_same s _ _ h)
  | dict e => exact .dict (s _ _ e)
def tyD : PyData → String
  | .none => "NoneType"
  | .bool _ => "bool"
  | .int _ => "int"
  | .str _ => "str"
  | .list _ => "list"
  | .tuple _ => "tuple"
  | .dict _ => "dict"
def isL : PyData → Bool
  | .list _ => true
  | _ => false
def numD : PyData → Bool
  | .int _ => true
  | _ => false
theorem dv_ty {v : V} {d : PyData} (h : DV K H v d) : TyX K H v (.type (tyD d)) := by
  cases h with
  | dict e => exact .base (.dK e)
  | d h =>
    cases h with
    | non => exact .base .non
    | bl b => exact .base (.bl b)
    | int i => exact .base (.int i)
    | str x => exact .base (.str x)
    | lst h _ => exact sq_ty h
    | tup h _ =>
      rcases h with (h | ⟨o, h⟩) | ⟨o, its, n, h1, h2, _⟩
      · exact .base (.tup h)
      · exact .fTuple h
      · exact .kTuple h1 h2
theorem kit_list (d : PyData) : kitB (tyD d) "list" = some (isL d) := by
  cases d with
  | none => show kitB "NoneType" "list" = some false; decide +kernel
  | bool b => show kitB "bool" "list" = some false; decide +kernel
  | int i => show kitB "int" "list" = some false; decide +kernel
  | str z => show kitB "str" "list" = some false; decide +kernel
  | list l => show kitB "list" "list" = some true; decide +kernel
  | tuple l => show kitB "tuple" "list" = some false; decide +kernel
  | dict l => show kitB "dict" "list" = some false; decide +kernel
theorem kit_int (d : PyData) : ∃ b, kitB (tyD d) "int" = some b ∧ ∃ c, kitB (tyD d) "bool" = some c ∧ numD d = (b && !c) := by
  cases d with
  | none => exact ⟨false, by show kitB "NoneType" "int" = some false; decide +kernel, false, by show kitB "NoneType" "bool" = some false; decide +kernel, rfl⟩
  | bool b => exact ⟨true, by show kitB "bool" "int" = some true; decide +kernel, true, by show kitB "bool" "bool" = some true; decide +kernel, rfl⟩
  | int i => exact ⟨true, by show kitB "int" "int" = some true; decide +kernel, false, by show kitB "int" "bool" = some false; decide +kernel, rfl⟩
  | str z => exact ⟨false, by show kitB "str" "int" = some false; decide +kernel, false, by show kitB "str" "bool" = some false; decide +kernel, rfl⟩
  | list l => exact ⟨false, by show kitB "list" "int" = some false; decide +kernel, false, by show kitB "list" "bool" = some false; decide +kernel, rfl⟩
  | tuple l => exact ⟨false, by show kitB "tuple" "int" = some false; decide +kernel, false, by show kitB "tuple" "bool" = some false; decide +kernel, rfl⟩
  | dict l => exact ⟨false, by show kitB "dict" "int" = some false; decide +kernel, false, by show kitB "dict" "bool" = some false; decide +kernel, rfl⟩
theorem dv_num {v : V} {d : PyData} (h : DV K H v d) : IsN K H v (numD d) := by
  obtain ⟨b, h1, c, h2, e⟩ := kit_int d
  exact ⟨_, b, c, dv_ty h, kit_ty h1, kit_ty h2, e⟩
theorem dv_isL {v : V} {d : PyData} (h : DV K H v d) : PySem.W.kitOne K (.type (tyD d)) (.type "list") = some (isL d) := kit_ty (kit_list d)
theorem dpAll_get : ∀ {ds : List PyData} {vs : List V} {j : Nat} {d : PyData}, DpAll K H vs ds → ds[j]? = some d → ∃ v, vs[j]? = some v ∧ Dp K H v d
  | [], _, j, d, _, e => by simp at e
  | d0 :: ds, _, j, d, h, e => by
    cases h with
    | cons h t =>
      cases j with
      | zero =>
        have e : d0 = d := by simpa using e
        subst e
        exact ⟨_, rfl, h⟩
      | succ j =>
        have e : ds[j]? = some d := by simpa using e
        obtain ⟨v, e1, h1⟩ := dpAll_get t e
        exact ⟨v, by simpa using e1, h1⟩
theorem dpAll_len : ∀ {ds : List PyData} {vs : List V}, DpAll K H vs ds → vs.length = ds.length
  | [], _, h => by cases h; rfl
  | d :: ds, _, h => by
    cases h with
    | cons _ t => rw [List.length_cons, List.length_cons, dpAll_len t]
theorem dpAll_intsV : ∀ {ns : List Int} {vs : List V}, DpAll K H vs (ns.map .int) → vs = ns.map V.int
  | [], _, h => by cases h; rfl
  | n :: ns, _, h => by
    cases h with
    | cons h t =>
      cases h
      rw [dpAll_intsV t]
      rfl
theorem dp_dI {v : V} {ns : List Int} (h : Dp K H v (dI ns)) : ∃ p, v = .ref p ∧ SqL K H p (ns.map V.int) := by
  unfold dI at h
  cases h with
  | lst h t =>
    rw [dpAll_intsV t] at h
    exact ⟨_, rfl, h⟩
end
theorem eqv_nil (ds : List PyData) : PyData.eqv (.list ds) (.list []) = decide (ds = []) := by
  rw [PyData.eqv]
  cases ds with
  | nil => simp [PyData.eqvAll]
  | cons d ds => simp [PyData.eqvAll]
/-- a bad row: the first one, or behind rows of n things -/
inductive RowB (first : Bool) (n : Nat) : PyData → Prop where
  | notlist {d : PyData} (h : isL d = false) : RowB first n d
  | notnum {es : List PyData} (l : es.length ≤ 1000) (h : ∃ e ∈ es, numD e = false) : RowB first n (.list es)
  | len {ns : List Int} (l : ns.length ≤ 1000) (hf : first = false) (h : ns.length ≠ n) : RowB first n (dI ns)
  | perm {ns : List Int} (l : ns.length ≤ 1000) (h : ¬ ns.Perm (iN (List.range ns.length))) : RowB first n (dI ns)
inductive RB : PyData → Prop where
  | notlist {d : PyData} (h : isL d = false) : RB d
  | nil : RB (.list [])
  | row {ds : List PyData} {k n : Nat} {d : PyData} (sh : SeqAt.shaped (.list ds) = true) (l : ds.length ≤ 50) (hk : ds[k]? = some d) (hg : ∀ j, j < k → ∃ r : List Nat, ds[j]? = some (dI (iN r)) ∧ r.Perm (List.range n)) (ln : n ≤ 1000) (hb : RowB (decide (k = 0)) n d) : RB (.list ds)
/-- no perm: a number that is below 0, or too great, or told twice -/
theorem no_perm {ns : List Int} {z : Int} (h : z ∈ ns) (hz : z < 0 ∨ (ns.length : Int) ≤ z) : ¬ ns.Perm (iN (List.range ns.length)) := fun p => by
  have := p.mem_iff.mp h
  unfold iN at this
  rw [List.mem_map] at this
  obtain ⟨x, hx, e⟩ := this
  have := List.mem_range.mp hx
  omega
theorem no_permD {ns : List Int} (h : ¬ ns.Nodup) : ¬ ns.Perm (iN (List.range ns.length)) := fun p => h (by
  refine p.nodup_iff.mpr ?_
  unfold iN
  show List.Pairwise _ _
  rw [List.pairwise_map]
  exact List.Pairwise.imp (fun {a b} h z => h (Int.ofNat.inj z)) (show List.Pairwise (· ≠ ·) _ from List.nodup_range))
/-- no number below c, no number at all -/
inductive NumB (c : Nat) : PyData → Prop where
  | no {d : PyData} (h : numD d = false) : NumB c d
  | out {m : Int} (h : ¬ (0 ≤ m ∧ m < (c : Int))) : NumB c (.int m)
/-- no even dealing -/
inductive DealB (n : Nat) (rs : List (List Nat)) : PyData → Prop where
  | notlist {d : PyData} (h : isL d = false) : DealB n rs d
  | notnum {es : List PyData} (l : es.length ≤ 1000) (h : ∃ e ∈ es, numD e = false) : DealB n rs (.list es)
  | odd {d : List Int} (l : d.length ≤ 1000) (h : isEven n rs d = false) : DealB n rs (dI d)
end Ed

/-! A comprehension over range within an except suite; raising with no context. -/
namespace Ed
open PySem PySem.Spec PyProof.Rows L2 Deal
theorem takesN {X : Cx} : L2N.Takes X (fun _ _ _ _ => False) := fun _ _ x => by
  obtain ⟨_, _, _, _, _, _, _, _, _, _, _, _, _, _, _, _, z⟩ := x
  exact z.elim
section
variable {P : Program} {w : World} {K : PySem.W.Frag} {mg : Str → Option Value} {base : Heap}
theorem okN {x qual : Str} {st : Stmt} {f : Addr} {fd : FuncData} {N ps : List Str} {k : Nat} {sp : Sp} (F : Fun K x qual st f fd) (S : FnScope N ps (defScope st)) (len : ∀ vs H Q E, sp vs H Q E → vs.length = ps.length)
    (hbody : ∀ (cdv : Value) (A : Around) (outer : List Env) (s : Shared) (H : Hp) (vs : List V) (Q : VK) (E : XK), Room k (A.deeper (envOfC qual (defScope st) s.heap.objs.size f cdv)) → sp vs H Q E →
      ∃ t, PSs (cxOf (L2N.CX P w) P w K mg base N qual (defScope st) f cdv A outer s H E) (defBody st) t ∧ t { nx := fun _ H' => Q .non H', rt := Q } (start N vs) H) : FnOk P w K mg base (L2N.CX P w) (k + 1) f fd ps sp := by
  obtain ⟨oc, od, kV, doc, pm, an, cdv, ct, osl, rfl, lk, hcd⟩ := F.ex
  exact fn_of lk hcd S len fun A outer s H vs Q E hr hsp => hbody cdv A outer s H vs Q E hr hsp
end
theorem hotC {X : Cx} {a : Addr} {oe : Obj} {cls : Value} {d : Option Addr} {pn : List (Addr × Obj)} (hz : L2N.Zn cls d oe) (hf : ∃ vs, oe.data = .fields vs) : L2H.HotC (X.suite a ((a, oe) :: pn)) := by
  obtain ⟨vs, e⟩ := hf
  exact ⟨(a, oe), ⟨rfl, vs, e, hz.2.2 vs e⟩, List.mem_cons_self⟩
section
variable {X : Cx} {pins : List (Addr × Obj)} {σ : L2.St} {H : Hp} {s : Shared} {p : Addr × Obj}
/-- the block's context with the handled exception pinned -/
abbrev hb (X : Cx) (p : Addr × Obj) : Cx := { X with pn := [p] }
theorem toHb {σ' : L2.St} {H' : Hp} {s' : Shared} {scope : Scope} {ce : Env} {fp : List Addr} (hp : p ∈ X.pn) (I : Inv X pins σ H s) (f : ∀ b ∈ fp, FpOk X pins H b) (hl : ce.locals = s.heap.objs.size)
    (J : Inv (X.blk s H scope ce fp) [] σ' H' s') : Inv (hb (X.blk s H scope ce fp) p) [] σ' H' s' := by
  have P1 := I.pin p (List.mem_append_left _ hp)
  have nx : p.1 ∉ fp := fun z => (f _ z).2.2.2.2.2 p (List.mem_append_left _ hp) rfl
  have nf : p.1 ∉ frs X.stack := fun hm => (List.mem_cons.mp (I.stkSub p.1 hm)).elim P1.2.2.1 P1.2.2.2.1
  have ok := J.ok
  refine ⟨ok.toTry [p] _, J.os, J.bare, J.base, J.loc, J.cell, J.free, J.freeC, fun q hq => ?_, J.hok, J.len⟩
  obtain rfl : q = p := by simpa using hq
  exact ⟨J.base.keep _ _ P1.1 P1.2.1 nf nx, J.base.free _ _ P1.1 P1.2.1 nx, by rw [show (hb (X.blk s H scope ce fp) q).env.locals = ce.locals from rfl, hl]; exact Nat.ne_of_lt (Heap.lt_size P1.1), nf, P1.2.2.2.2⟩
theorem ofHb {Y : Cx} (hY : Y.pn = []) (J : Inv (hb Y p) [] σ H s) : Inv Y [] σ H s :=
  ⟨J.ok.ofTry (X := Y) (pn := [p]) (xe := Y.xe), J.os, J.bare, J.base, J.loc, J.cell, J.free, J.freeC, fun q hq => by rw [hY] at hq; exact absurd hq (by simp), J.hok, J.len⟩
theorem pe_lcH {elt tg iter : Expr} {scope : Scope} {own : List (Str × Nat)} {pos : Pos} {wi : TI} {g : TG} {te : TE} (hc : L2H.HotC X) (hN : X.N.Nodup) (hi : L2H.PIH X tg iter wi) (ok : BlkOk X.N X.env.scope scope own)
    (hg : ∀ (s : Shared) (H : Hp) (C : Addr) (cl : List (Str × Addr)) (fp : List Addr), PG (X.blk s H scope (compEnvC scope cl C X.env) fp) tg g)
    (he : ∀ (s : Shared) (H : Hp) (C : Addr) (cl : List (Str × Addr)) (fp : List Addr), PE (X.blk s H scope (compEnvC scope cl C X.env) fp) elt te) (hs : ∀ x, foldedSetIterable iter X.env x = pure x := by intro _; rfl) :
    PE X (.ListComp elt [⟨tg, iter, [], 0⟩] scope pos) (tLc wi g tYes te (own.map (·.2))) := by
  obtain ⟨p, hot, hp⟩ := hc
  refine ⟨fun pins s σ H Q I h => ?_⟩
  have hfree : ∀ y ∈ scope.names, y.2 = .free → ∃ c, X.env.cells.lookup y.1 = some c := fun y hy e => (ok.free y hy e).elim (fun k => I.ok.has _ (.inl k)) fun k => I.ok.has _ (.inr k)
  rw [eval_ListComp]
  refine wpAny_comprehension_free (use := none) rfl hs (closure_ok hfree) ok.kind (fun y hy e => by rw [ok.uniq y hy, e]) (thn (hi.run pins s σ H _ I h) fun xv s1 hx => thn hx fun itv s2 h2 => ?_)
  obtain ⟨it, fp, tn, J, H2, rfl, I2, T, st2, f2, q⟩ := h2
  refine wpAny_newObj_type (newEnv_comp ?_) (by show 0 ≤ sizeLine; decide)
  obtain ⟨W, ⟨m0, w0⟩, turn⟩ := q s2.heap.objs.size (I2.hok.fresh (Nat.le_refl _))
  have I3 : Inv X pins σ (upd H2 s2.heap.objs.size (.lst [])) { s2 with heap := s2.heap.push { cls := .type "list", data := .seq ([] : List Value).toArray } } :=
    I2.laid (t' := s2.toks) (fun b o e => Heap.get?_push_of_some _ e) (Nat.le_refl _) ⟨Nat.zero_le _, [], 0, .nil, Heap.get?_push_size _ rfl⟩
  have f3 : ∀ b ∈ fp, FpOk X pins (upd H2 s2.heap.objs.size (.lst [])) b ∧ b < (s2.heap.push { cls := .type "list", data := .seq ([] : List Value).toArray }).objs.size := fun b hb => by
    obtain ⟨o, e, _⟩ := T.obj _ _ st2 b hb
    have hlt := Heap.lt_size e
    refine ⟨⟨?_, (f2 b hb).2⟩, by rw [Heap.size_push]; exact Nat.lt_succ_of_lt hlt⟩
    rw [upd_ne (Nat.ne_of_lt hlt)]
    exact (f2 b hb).1
  have st3 : tn 0 (s2.heap.push { cls := .type "list", data := .seq ([] : List Value).toArray }) := T.keep _ _ _ st2 fun b _ o e => Heap.get?_push_of_some _ e
  generalize hD : s2.heap.objs.size = D at *
  generalize hs3 : ({ s2 with heap := s2.heap.push { cls := .type "list", data := .seq ([] : List Value).toArray } } : Shared) = s3 at *
  have eh : s2.heap.push { cls := .type "list", data := .seq ([] : List Value).toArray } = s3.heap := by rw [← hs3]
  rw [eh] at f3 st3
  generalize hH3 : upd H2 D (.lst []) = H3 at *
  have I4 := block_start I3 ok hN f3
  have pg := hg s3 H3 s3.heap.objs.size (cellsFrom (s3.heap.objs.size + 1) scope.names (cloFrom X.env.cells scope.names [])) fp
  have pe := he s3 H3 s3.heap.objs.size (cellsFrom (s3.heap.objs.size + 1) scope.names (cloFrom X.env.cells scope.names [])) fp
  have st4 : tn 0 (pushCells (s3.heap.push { cls := .type "dict", data := .dict #[] }) scope.names) := T.keep _ _ _ st3 fun b _ o e => pushCells_keeps _ _ _ _ (Heap.get?_push_of_some _ e)
  show codeAny _ _ (.compStart (.ListComp elt [⟨tg, iter, [], 0⟩] scope pos) 0 (.ref it) (.ref D) (compEnvC scope (cellsFrom (s3.heap.objs.size + 1) scope.names (cloFrom X.env.cells scope.names [])) s3.heap.objs.size X.env)) (compPost (model X.prog X.w) X.A X.xe none _ (.ref D) s3.heap.objs.size) { s3 with heap := pushCells (s3.heap.push { cls := .type "dict", data := .dict #[] }) scope.names }
  generalize hce : compEnvC scope (cellsFrom (s3.heap.objs.size + 1) scope.names (cloFrom X.env.cells scope.names [])) s3.heap.objs.size X.env = ce at I4 pg pe ⊢
  have cL : ce.locals = s3.heap.objs.size := by subst hce; rfl
  generalize hs4 : ({ s3 with heap := pushCells (s3.heap.push { cls := .type "dict", data := .dict #[] }) scope.names } : Shared) = s4 at I4 ⊢
  have st4 : tn 0 s4.heap := by rw [← hs4]; exact st4
  have fH : ∀ b ∈ fp, FpOk X pins H3 b := fun b hb => (f3 b hb).1
  have up : ∀ {σ' : L2.St} {H' : Hp} {s' : Shared}, Inv (X.blk s3 H3 scope ce fp) [] σ' H' s' → Inv (hb (X.blk s3 H3 scope ce fp) p) [] σ' H' s' := fun J => toHb hp I3 fH cL J
  have stat : ∀ {σ' : L2.St} {H' : Hp} {s' : Shared}, Inv (X.blk s3 H3 scope ce fp) [] σ' H' s' → (∀ b ∈ fp, H' b = none) → ∀ b ∈ fp, FpOk (X.blk s3 H3 scope ce fp) [] H' b := fun {σ' H' s'} I' hn b hb =>
    ⟨hn b hb, (I'.ok.exf b hb).1, I'.ok.exfs b hb, .inl hb, fun x c e => (I'.ok.exf b hb).2 x c e, fun q hq => absurd (show q ∈ ([] : List (Addr × Obj)) ++ [] from hq) (by simp)⟩
  have statH : ∀ {σ' : L2.St} {H' : Hp} {s' : Shared}, Inv (X.blk s3 H3 scope ce fp) [] σ' H' s' → (∀ b ∈ fp, H' b = none) → ∀ b ∈ fp, FpOk (hb (X.blk s3 H3 scope ce fp) p) [] H' b := fun {σ' H' s'} I' hn b hb => by
    obtain ⟨z1, z2, z3, z4, z5, _⟩ := stat I' hn b hb
    refine ⟨z1, z2, z3, z4, z5, fun q hq => ?_⟩
    obtain rfl : q = p := by simpa using hq
    exact (fH b hb).2.2.2.2.2 q (List.mem_append_left _ hp)
  have hc' : L2H.HotC (hb (X.blk s3 H3 scope ce fp) p) := ⟨p, hot, List.mem_singleton.mpr rfl⟩
  have loop : codeAny (model X.prog X.w) X.A (.compLoop (.ListComp elt [⟨tg, iter, [], 0⟩] scope pos) 0 (.ref it) (.ref D) ce) (compPost (model X.prog X.w) X.A X.xe none (EP X pins σ Q) (.ref D) s3.heap.objs.size) s4 := by
    refine compLoop_any (fun n s' => ∃ i H', Inv (X.blk s3 H3 scope ce fp) [] (wipe σ (own.map (·.2))) H' s' ∧ tn i s'.heap ∧ (∀ b ∈ fp, H' b = none) ∧ W i n H') ?_ m0 ⟨0, H3, I4, st4, fun b hb => (fH b hb).1, w0⟩
    rintro n s5 ⟨i, H5, I5, st5, n5, w5⟩
    rcases turn i n H5 w5 with ⟨stop, qq⟩ | ⟨go, Nx, hNx, step⟩
    · refine thnF (T.done (hb (X.blk s3 H3 scope ce fp) p) rfl rfl rfl hc' i [] s5 _ H5 (fun _ _ => False) (up I5) (statH I5 n5) st5 stop) fun r s6 ⟨hr, I6⟩ => ?_
      subst hr
      have I6 := ofHb (Y := X.blk s3 H3 scope ce fp) rfl I6
      have I7 : Inv X pins σ H5 s6 := I3.call' (ch := fp) I6.os I6.base I6.hok I6.bare fun b hb => ⟨(fH b hb).2.2.2.1, (fH b hb).2.1, (fH b hb).2.2.2.2.1, (fH b hb).2.2.2.2.2⟩
      have nC : H5 s3.heap.objs.size = none := by
        have z : H5 ce.locals = none := I6.free
        rw [cL] at z
        exact z
      obtain ⟨m, hn, _⟩ := I6.loc
      have hn : s6.heap.Ns ce.locals m := hn
      rw [cL] at hn
      obtain ⟨z0, z1, z2, z3, z4, z5⟩ := I3.fpOk (Nat.le_refl _) nC
      exact ⟨m, hn, fun h'' sb => ⟨.ref D, H5, I7.turned (t' := s6.toks) (fun b o hb e => (sb.2 b hb).trans e) z0 z1 z3 z4 z5, rfl, qq⟩⟩
    · refine thnF (T.item (hb (X.blk s3 H3 scope ce fp) p) rfl rfl rfl hc' i [] s5 _ H5 (fun _ _ => False) (up I5) (statH I5 n5) st5 go) fun r s6 ⟨u, hr, h6⟩ => ?_
      subst hr
      refine thnF h6 fun _ s7 ⟨x, H7, I7, r7, y7, st7, n7⟩ => ?_
      have I7 := ofHb (Y := X.blk s3 H3 scope ce fp) rfl I7
      have I7' := I7.pinned (stat I7 n7) (T.obj _ _ st7)
      refine thnF (pg.run _ s7 _ H7 x u _ I7' r7 (step x H7 y7)) fun _ s8 ⟨σ8, H8, I8, hw8, q8⟩ => ?_
      refine thnF ((pts_nil (X := X.blk s3 H3 scope ce fp)).run _ s8 σ8 H8 _ I8 q8) fun b s9 ⟨H9, I9, q9⟩ => ?_
      have fin : ∀ {s' : Shared} {H' : Hp}, Inv (X.blk s3 H3 scope ce fp) ([] ++ pinsAt fp s7.heap) σ8 H' s' → Nx H' → ∃ m, m < n ∧ ∃ i H', Inv (X.blk s3 H3 scope ce fp) [] (wipe σ (own.map (·.2))) H' s' ∧ tn i s'.heap ∧ (∀ b ∈ fp, H' b = none) ∧ W i m H' := fun {s' H'} I' nx => by
        obtain ⟨m', hm, w'⟩ := hNx H' nx
        have pin' : ∀ b ∈ fp, ∀ o, s7.heap.get? b = some o → s'.heap.get? b = some o ∧ H' b = none := fun b hb o e =>
          let z := I'.pin (b, o) (List.mem_append_right _ (List.mem_append_right _ (mem_pinsAt hb e)))
          ⟨z.1, z.2.1⟩
        refine ⟨m', hm, i + 1, H', (I'.unpinned (pins := [])).weak (by rw [← hw8, wipe_length]) (fun j v e => ?_), T.keep _ _ _ st7 fun b hb o e => (pin' b hb o e).1, fun b hb => ?_, w'⟩
        · rw [← hw8] at e
          exact (wipe_some e).1
        · obtain ⟨o, e, _⟩ := T.obj _ _ st7 b hb
          exact (pin' b hb o e).2
      cases b with
      | false =>
        simp only [Bool.false_eq_true, if_false] at q9 ⊢
        exact fin I9 q9
      | true =>
        simp only [if_true] at q9 ⊢
        refine thnF (pe.run _ s9 σ8 H9 _ I9 q9) fun z s10 ⟨yv, H10, I10, r10, acc, hD10, hz10, nx⟩ => ?_
        exact app_ok (X := X.blk s3 H3 scope ce fp) I10 hD10 hz10 r10 fun s11 I11 => fin I11 nx
  exact codeAny_compStart_list loop (T.self X.A 0 _ _ _ st4 loop)
end
end Ed

/-! Data written out. -/
namespace Ed
open PySem L2 Deal
def EvN (σ : L2.St) (te : TE) (i : Int) : Prop := ∀ (H : Hp) (Q : VK), Q (.int i) H → te σ H Q
def EvD (K : PySem.W.Frag) (σ : L2.St) (te : TE) (d : PyData) : Prop := ∀ (H : Hp) (Q : VK), (∀ v H', Same H H' → Dp K H' v d → Q v H') → te σ H Q
def EvDs (K : PySem.W.Frag) (σ : L2.St) (ts : TA) (ds : List PyData) : Prop := ∀ (H : Hp) (Q : List V → Hp → Prop), (∀ vs H', Same H H' → DpAll K H' vs ds → Q vs H') → ts σ H Q
section
variable {K : PySem.W.Frag} {σ : L2.St} {te ta tb : TE} {ts : TA} {d : PyData} {ds : List PyData} {i j : Int}
theorem evN_c : EvN σ (tC (.int i)) i := fun H Q q => go_c q
theorem evN_var {k : Nat} (h : σ[k]? = some (some (.int i))) : EvN σ (tVar k) i := fun H Q q => go_var h q
theorem evN_neg (h : EvN σ te i) : EvN σ (tUn (rU fun i => .int (-i)) te) (-i) := fun H Q q => go_un (h H _ (go_U q))
theorem evN_op {f : Int → Int → Int} (h1 : EvN σ ta i) (h2 : EvN σ tb j) : EvN σ (tOp (rI0 fun i j => .int (f i j)) ta tb) (f i j) := fun H Q q => go_op (h1 H _ (h2 H _ (go_I0 q)))
theorem evD_n (h : EvN σ te i) : EvD K σ te (.int i) := fun H Q q => h H Q (q _ H (Same.refl _) (.int i))
theorem evD_s {z : Str} : EvD K σ (tC (.str z)) (.str z) := fun H Q q => go_c (q _ H (Same.refl _) (.str z))
theorem evD_b {b : Bool} : EvD K σ (tC (.bl b)) (.bool b) := fun H Q q => go_c (q _ H (Same.refl _) (.bl b))
theorem evD_o : EvD K σ (tC .non) .none := fun H Q q => go_c (q _ H (Same.refl _) .non)
theorem evDs_nil : EvDs K σ tNil [] := fun H Q q => go_nil (q [] H (Same.refl _) .nil)
theorem evDs_cons (h : EvD K σ te d) (t : EvDs K σ ts ds) : EvDs K σ (tCons te ts) (d :: ds) := fun H Q q =>
  go_cons (h H _ fun v H1 s1 hd => t H1 _ fun vs H2 s2 hds => q _ H2 (s1.trans s2) (.cons (dp_same s2 _ _ hd) hds))
theorem evD_l (h : EvDs K σ ts ds) (hn : ds.length ≤ 1000 := by simp) : EvD K σ (tLst ts) (.list ds) := fun H Q q =>
  go_lst (h H _ fun vs H1 s1 hds => go_lstK (small_le (by rw [dpAll_len hds]; omega)) fun p H2 np s2 e2 => q _ H2 (s1.trans s2) (.lst (sqL_of e2) (dpAll_same s2 _ _ hds)))
theorem evD_t (h : EvDs K σ ts ds) (hn : ds.length ≤ 1000 := by simp) : EvD K σ (tTup ts) (.tuple ds) := fun H Q q =>
  go_tup (h H _ fun vs H1 s1 hds => go_tupK (small_le (by rw [dpAll_len hds]; omega)) fun p H2 np s2 e2 => q _ H2 (s1.trans s2) (.tup (sqT_of e2) (dpAll_same s2 _ _ hds)))
end
/-- data of a kind -/
def badR (K : PySem.W.Frag) (B : PyData → Prop) : SR := ⟨fun v H => ∃ d, DV K H v d ∧ B d, fun _ _ _ s ⟨d, h, b⟩ => ⟨d, h.same s, b⟩⟩
section
variable {K : PySem.W.Frag} {σ : L2.St} {H0 : Hp} {te : TE} {d : PyData} {B : PyData → Prop}
theorem ev_bad (h : EvD K σ te d) (b : B d) : Ev σ H0 te (badR K B) := fun H s Q q => h H Q fun v H' s' hd => q v H' s' ⟨d, .d hd, b⟩
theorem ev_badE (b : B (.dict [])) : Ev σ H0 tDNewK (badR K B) := fun H s Q q => go_dnew fun p H' np s' e' => q _ H' s' ⟨_, .dict e', b⟩
end
/-- a new list, all in it older -/
def listN (H0 : Hp) (R : SR) (n : Nat) : SR := ⟨fun v H => ∃ (a : Addr) (xs : List V) (Hm : Hp), v = .ref a ∧ H0 a = none ∧ Hm a = none ∧ Same H0 Hm ∧ Same Hm H ∧ H a = some (.lst xs) ∧ xs.length = n ∧ ∀ x ∈ xs, R.r x Hm, fun _ _ _ s ⟨a, xs, Hm, e, n0, nm, s0, sm, h, l, k⟩ => ⟨a, xs, Hm, e, n0, nm, s0, sm.trans s, s _ _ h, l, k⟩⟩
section
variable {σ : L2.St} {H0 Hb : Hp} {ta tb : TE} {ts : TA} {R : SR} {n m : Nat}
theorem ev_lstN (sb : Same Hb H0) (h : EvA σ H0 ts R n) (hn : n ≤ 1000) : Ev σ H0 (tLst ts) (listN Hb R n) := fun H s Q q =>
  go_lst (h H s _ fun vs H1 s1 l k => go_lstK (small_le (by omega)) fun p H2 np s2 e2 => q _ H2 (s1.trans s2) ⟨p, vs, H1, rfl, (sb.trans (s.trans s1)).free np, np, sb.trans (s.trans s1), s2, e2, l, k⟩)
theorem ev_catN (sb : Same Hb H0) (h1 : Ev σ H0 ta (listN Hb R n)) (h2 : Ev σ H0 tb (listA R m)) (hn : n + m ≤ 1000) : Ev σ H0 (tOp rCat ta tb) (listN Hb R (n + m)) := fun H s Q q =>
  go_op (h1 H s _ fun v H1 s1 ⟨a, xs, Hm, ev, n0, nm, s0, sm, ha, la, ka⟩ => h2 H1 (s.trans s1) _ fun u H2 s2 ⟨b, ys, eu, hb, lb, kb⟩ => by
    subst ev eu
    refine go_cat (s2 _ _ ha) hb (small_le (by omega)) fun p H3 np s3 e3 => q _ H3 (s1.trans (s2.trans s3)) ⟨p, xs ++ ys, H2, rfl, (s0.trans (sm.trans s2)).free np, np, s0.trans (sm.trans s2), s3, e3, by rw [List.length_append]; omega, fun x hx => ?_⟩
    rcases List.mem_append.mp hx with hx | hx
    · exact R.st _ _ _ (sm.trans s2) (ka x hx)
    · exact kb x hx)
end
theorem passS0 {X : Cx} (σ : L2.St) : PassesAt CX0 X σ ((fun _ => E0) σ) := fun _ _ _ _ _ _ c => c.elim
theorem rb0 {d : PyData} {ds : List PyData} (sh : SeqAt.shaped (.list (d :: ds)) = true) (l : (d :: ds).length ≤ 50) (h : RowB true 0 d) : RB (.list (d :: ds)) :=
  .row (k := 0) (n := 0) sh l rfl (fun j hj => absurd hj (by omega)) (by omega) h
theorem rb1 {n : Nat} {r0 : List Nat} {d : PyData} {ds : List PyData} (hp : r0.Perm (List.range n)) (ln : n ≤ 1000) (sh : SeqAt.shaped (.list (dI (iN r0) :: d :: ds)) = true) (l : (d :: ds).length ≤ 49) (h : RowB false n d) : RB (.list (dI (iN r0) :: d :: ds)) :=
  .row (k := 1) (n := n) sh (by rw [List.length_cons]; omega) rfl (fun j hj => by
    have : j = 0 := by omega
    subst this
    exact ⟨r0, rfl, hp⟩) ln h
end Ed

/-! A lambda handed to a def on the spot, within a comprehension too. -/
namespace Ed
open PySem PySem.Spec PyProof.Rows L2 Deal
open LamX (Tabs TabS TabB ExtN CodeO)
open NdefX (NF NScope CellsAt startF envF ncx slotAt Caps cells_of)
/-- no cell is a frame -/
def NoFr (X : Cx) : Prop := ∀ (pins : List (Addr × Obj)) (σ : L2.St) (H : Hp) (s : Shared), Inv X pins σ H s → ∀ y c, X.env.cells.lookup y = some c → c ∉ frs X.stack
theorem nofr_def {X : Cx} (hfn : ∀ y, X.fn y = true) : NoFr X := fun _ _ _ _ I _ _ e => cell_nofr hfn I e
section
variable {X : Cx} {pins : List (Addr × Obj)} {σ : L2.St} {H : Hp} {s : Shared}
theorem nofr_blk {scope : Scope} {fp : List Addr} (hnf : NoFr X) (I : Inv X pins σ H s) (hfree : ∀ y ∈ scope.names, y.2 = .free → ∃ c, X.env.cells.lookup y.1 = some c) :
    NoFr (X.blk s H scope (compEnvC scope (cellsFrom (s.heap.objs.size + 1) scope.names (cloFrom X.env.cells scope.names [])) s.heap.objs.size X.env) fp) := by
  intro _ _ _ _ _ y c e hm
  have e : (cellsFrom (s.heap.objs.size + 1) scope.names (cloFrom X.env.cells scope.names [])).lookup y = some c := e
  have hm : c ∈ frs X.stack := hm
  rw [← Heap.size_push s.heap { cls := .type "dict", data := .dict #[] }] at e
  rcases cells_mem (PySem.mem_of_lookup e) with z | ⟨_, z, _⟩
  · rcases cloFrom_mem z with z | ⟨z1, z2⟩
    · cases z
    · obtain ⟨c0, h0⟩ := hfree _ z1 rfl
      have h0 : X.env.cells.lookup y = some c0 := h0
      rw [h0] at z2
      have z2 : c = c0 := z2
      rw [← z2] at h0
      exact hnf _ _ _ _ I y c h0 hm
  · obtain ⟨_, o, ho, _⟩ := I.stack.mem hm
    have h1 := Heap.lt_size ho
    rw [Heap.size_push] at z
    exact absurd (Nat.lt_of_lt_of_le h1 (Nat.le_of_succ_le z)) (Nat.lt_irrefl _)
theorem pe_lcF {elt tg iter : Expr} {scope : Scope} {own : List (Str × Nat)} {pos : Pos} {wi : TI} {g : TG} {te : TE} (hnf : NoFr X) (hc : X.calm = true) (hN : X.N.Nodup) (hi : PI X tg iter wi) (ok : BlkOk X.N X.env.scope scope own)
    (hg : ∀ (s : Shared) (H : Hp) (C : Addr) (cl : List (Str × Addr)) (fp : List Addr), PG (X.blk s H scope (compEnvC scope cl C X.env) fp) tg g)
    (he : ∀ (s : Shared) (H : Hp) (C : Addr) (cl : List (Str × Addr)) (fp : List Addr), NoFr (X.blk s H scope (compEnvC scope cl C X.env) fp) → PE (X.blk s H scope (compEnvC scope cl C X.env) fp) elt te) (hs : ∀ x, foldedSetIterable iter X.env x = pure x := by intro _; rfl) :
    PE X (.ListComp elt [⟨tg, iter, [], 0⟩] scope pos) (tLc wi g tYes te (own.map (·.2))) := by
  refine ⟨fun pins s σ H Q I h => ?_⟩
  have hfree : ∀ y ∈ scope.names, y.2 = .free → ∃ c, X.env.cells.lookup y.1 = some c := fun y hy e => (ok.free y hy e).elim (fun k => I.ok.has _ (.inl k)) fun k => I.ok.has _ (.inr k)
  rw [eval_ListComp]
  refine wpAny_comprehension_free (use := none) rfl hs (closure_ok hfree) ok.kind (fun y hy e => by rw [ok.uniq y hy, e]) (thn (hi.run pins s σ H _ I h) fun xv s1 hx => thn hx fun itv s2 h2 => ?_)
  obtain ⟨it, fp, tn, J, H2, rfl, I2, T, st2, f2, q⟩ := h2
  refine wpAny_newObj_type (newEnv_comp ?_) (by show 0 ≤ sizeLine; decide)
  obtain ⟨W, ⟨m0, w0⟩, turn⟩ := q s2.heap.objs.size (I2.hok.fresh (Nat.le_refl _))
  have I3 : Inv X pins σ (upd H2 s2.heap.objs.size (.lst [])) { s2 with heap := s2.heap.push { cls := .type "list", data := .seq ([] : List Value).toArray } } :=
    I2.laid (t' := s2.toks) (fun b o e => Heap.get?_push_of_some _ e) (Nat.le_refl _) ⟨Nat.zero_le _, [], 0, .nil, Heap.get?_push_size _ rfl⟩
  have f3 : ∀ b ∈ fp, FpOk X pins (upd H2 s2.heap.objs.size (.lst [])) b ∧ b < (s2.heap.push { cls := .type "list", data := .seq ([] : List Value).toArray }).objs.size := fun b hb => by
    obtain ⟨o, e, _⟩ := T.obj _ _ st2 b hb
    have hlt := Heap.lt_size e
    refine ⟨⟨?_, (f2 b hb).2⟩, by rw [Heap.size_push]; exact Nat.lt_succ_of_lt hlt⟩
    rw [upd_ne (Nat.ne_of_lt hlt)]
    exact (f2 b hb).1
  have st3 : tn 0 (s2.heap.push { cls := .type "list", data := .seq ([] : List Value).toArray }) := T.keep _ _ _ st2 fun b _ o e => Heap.get?_push_of_some _ e
  generalize hD : s2.heap.objs.size = D at *
  generalize hs3 : ({ s2 with heap := s2.heap.push { cls := .type "list", data := .seq ([] : List Value).toArray } } : Shared) = s3 at *
  have eh : s2.heap.push { cls := .type "list", data := .seq ([] : List Value).toArray } = s3.heap := by rw [← hs3]
  rw [eh] at f3 st3
  generalize hH3 : upd H2 D (.lst []) = H3 at *
  have I4 := block_start I3 ok hN f3
  have pg := hg s3 H3 s3.heap.objs.size (cellsFrom (s3.heap.objs.size + 1) scope.names (cloFrom X.env.cells scope.names [])) fp
  have pe := he s3 H3 s3.heap.objs.size (cellsFrom (s3.heap.objs.size + 1) scope.names (cloFrom X.env.cells scope.names [])) fp (nofr_blk hnf I3 hfree)
  have st4 : tn 0 (pushCells (s3.heap.push { cls := .type "dict", data := .dict #[] }) scope.names) := T.keep _ _ _ st3 fun b _ o e => pushCells_keeps _ _ _ _ (Heap.get?_push_of_some _ e)
  show codeAny _ _ (.compStart (.ListComp elt [⟨tg, iter, [], 0⟩] scope pos) 0 (.ref it) (.ref D) (compEnvC scope (cellsFrom (s3.heap.objs.size + 1) scope.names (cloFrom X.env.cells scope.names [])) s3.heap.objs.size X.env)) (compPost (model X.prog X.w) X.A X.xe none _ (.ref D) s3.heap.objs.size) { s3 with heap := pushCells (s3.heap.push { cls := .type "dict", data := .dict #[] }) scope.names }
  generalize hce : compEnvC scope (cellsFrom (s3.heap.objs.size + 1) scope.names (cloFrom X.env.cells scope.names [])) s3.heap.objs.size X.env = ce at I4 pg pe ⊢
  have cL : ce.locals = s3.heap.objs.size := by subst hce; rfl
  generalize hs4 : ({ s3 with heap := pushCells (s3.heap.push { cls := .type "dict", data := .dict #[] }) scope.names } : Shared) = s4 at I4 ⊢
  have st4 : tn 0 s4.heap := by rw [← hs4]; exact st4
  have fH : ∀ b ∈ fp, FpOk X pins H3 b := fun b hb => (f3 b hb).1
  have stat : ∀ {σ' : L2.St} {H' : Hp} {s' : Shared}, Inv (X.blk s3 H3 scope ce fp) [] σ' H' s' → (∀ b ∈ fp, H' b = none) → ∀ b ∈ fp, FpOk (X.blk s3 H3 scope ce fp) [] H' b := fun {σ' H' s'} I' hn b hb =>
    ⟨hn b hb, (I'.ok.exf b hb).1, I'.ok.exfs b hb, .inl hb, fun x c e => (I'.ok.exf b hb).2 x c e, fun q hq => absurd (show q ∈ ([] : List (Addr × Obj)) ++ [] from hq) (by simp)⟩
  have loop : codeAny (model X.prog X.w) X.A (.compLoop (.ListComp elt [⟨tg, iter, [], 0⟩] scope pos) 0 (.ref it) (.ref D) ce) (compPost (model X.prog X.w) X.A X.xe none (EP X pins σ Q) (.ref D) s3.heap.objs.size) s4 := by
    refine compLoop_any (fun n s' => ∃ i H', Inv (X.blk s3 H3 scope ce fp) [] (wipe σ (own.map (·.2))) H' s' ∧ tn i s'.heap ∧ (∀ b ∈ fp, H' b = none) ∧ W i n H') ?_ m0 ⟨0, H3, I4, st4, fun b hb => (fH b hb).1, w0⟩
    rintro n s5 ⟨i, H5, I5, st5, n5, w5⟩
    rcases turn i n H5 w5 with ⟨stop, qq⟩ | ⟨go, Nx, hNx, step⟩
    · refine thnF (T.done (X.blk s3 H3 scope ce fp) rfl rfl rfl hc i [] s5 _ H5 (fun _ _ => False) I5 (stat I5 n5) st5 stop) fun r s6 ⟨hr, I6⟩ => ?_
      subst hr
      have I7 : Inv X pins σ H5 s6 := I3.call' (ch := fp) I6.os I6.base I6.hok I6.bare fun b hb => ⟨(fH b hb).2.2.2.1, (fH b hb).2.1, (fH b hb).2.2.2.2.1, (fH b hb).2.2.2.2.2⟩
      have nC : H5 s3.heap.objs.size = none := by
        have z : H5 ce.locals = none := I6.free
        rw [cL] at z
        exact z
      obtain ⟨m, hn, _⟩ := I6.loc
      have hn : s6.heap.Ns ce.locals m := hn
      rw [cL] at hn
      obtain ⟨z0, z1, z2, z3, z4, z5⟩ := I3.fpOk (Nat.le_refl _) nC
      exact ⟨m, hn, fun h'' sb => ⟨.ref D, H5, I7.turned (t' := s6.toks) (fun b o hb e => (sb.2 b hb).trans e) z0 z1 z3 z4 z5, rfl, qq⟩⟩
    · refine thnF (T.item (X.blk s3 H3 scope ce fp) rfl rfl rfl hc i [] s5 _ H5 (fun _ _ => False) I5 (stat I5 n5) st5 go) fun r s6 ⟨u, hr, h6⟩ => ?_
      subst hr
      refine thnF h6 fun _ s7 ⟨x, H7, I7, r7, y7, st7, n7⟩ => ?_
      have I7' := I7.pinned (stat I7 n7) (T.obj _ _ st7)
      refine thnF (pg.run _ s7 _ H7 x u _ I7' r7 (step x H7 y7)) fun _ s8 ⟨σ8, H8, I8, hw8, q8⟩ => ?_
      refine thnF ((pts_nil (X := X.blk s3 H3 scope ce fp)).run _ s8 σ8 H8 _ I8 q8) fun b s9 ⟨H9, I9, q9⟩ => ?_
      have fin : ∀ {s' : Shared} {H' : Hp}, Inv (X.blk s3 H3 scope ce fp) ([] ++ pinsAt fp s7.heap) σ8 H' s' → Nx H' → ∃ m, m < n ∧ ∃ i H', Inv (X.blk s3 H3 scope ce fp) [] (wipe σ (own.map (·.2))) H' s' ∧ tn i s'.heap ∧ (∀ b ∈ fp, H' b = none) ∧ W i m H' := fun {s' H'} I' nx => by
        obtain ⟨m', hm, w'⟩ := hNx H' nx
        have pin' : ∀ b ∈ fp, ∀ o, s7.heap.get? b = some o → s'.heap.get? b = some o ∧ H' b = none := fun b hb o e =>
          let z := I'.pin (b, o) (List.mem_append_right _ (List.mem_append_right _ (mem_pinsAt hb e)))
          ⟨z.1, z.2.1⟩
        refine ⟨m', hm, i + 1, H', (I'.unpinned (pins := [])).weak (by rw [← hw8, wipe_length]) (fun j v e => ?_), T.keep _ _ _ st7 fun b hb o e => (pin' b hb o e).1, fun b hb => ?_, w'⟩
        · rw [← hw8] at e
          exact (wipe_some e).1
        · obtain ⟨o, e, _⟩ := T.obj _ _ st7 b hb
          exact (pin' b hb o e).2
      cases b with
      | false =>
        simp only [Bool.false_eq_true, if_false] at q9 ⊢
        exact fin I9 q9
      | true =>
        simp only [if_true] at q9 ⊢
        refine thnF (pe.run _ s9 σ8 H9 _ I9 q9) fun z s10 ⟨yv, H10, I10, r10, acc, hD10, hz10, nx⟩ => ?_
        exact app_ok (X := X.blk s3 H3 scope ce fp) I10 hD10 hz10 r10 fun s11 I11 => fin I11 nx
  exact codeAny_compStart_list loop (T.self X.A 0 _ _ _ st4 loop)
/-- all that is not tracked, the cells too -/
theorem env_hidN (hnf : NoFr X) (I : Inv X pins σ H s) :
    Env0 X.prog X.w X.K X.mg (hidF s.heap H (frs X.stack)) X.A X.stack s H ∧ (∀ b o, X.base.get? b = some o → (hidF s.heap H (frs X.stack)).get? b = some o) ∧
    ∀ (cl : List (Str × Addr)) (fr : List Str) (js : List Nat), (X.Ok → Caps X cl fr js) → CellsB (hidF s.heap H (frs X.stack)) cl fr (js.map (slotAt σ)) := by
  have kb : ∀ b o, X.base.get? b = some o → (hidF s.heap H (frs X.stack)).get? b = some o := fun b o e => by
    obtain ⟨h1, h2⟩ := I.bs b o e
    refine hidF_get h1 h2 fun hm => ?_
    have z := (I.stack.mem hm).1
    rw [e] at z
    cases z
  have m := I.mod
  refine ⟨⟨I.ok.frames, ⟨m.kin.keeps kb, m.glob.keeps kb, ?_, m.nolimit.keeps kb⟩, fun b o e => ⟨(of_hidF e).1, (of_hidF e).2.1⟩, Nat.le_of_eq (hidT_size _ _), ?_, I.stkFree, I.hok, I.bare⟩, kb, fun cl fr js cp => ?_⟩
  · obtain ⟨mb, h1, h2⟩ := m.blt
    exact ⟨mb, h1.keeps kb, h2⟩
  · refine funFrames_none I.stack fun L hL => ?_
    cases q : (hidF s.heap H (frs X.stack)).get? L with
    | none => rfl
    | some o => exact absurd hL (of_hidF q).2.2
  · have c := cp I.ok
    have C := cells_of I c
    have k : ∀ y a v, cl.lookup y = some a → s.heap.IsCell a v → (hidF s.heap H (frs X.stack)).IsCell a v := fun y a v e ⟨o, ho, hd⟩ => ⟨o, hidF_get ho (C.all y a e).1 (hnf _ _ _ _ I y a (c.sub y a e)), hd⟩
    refine ⟨C.len, fun y a e => ?_, C.inj, fun i y e => ?_⟩
    · obtain ⟨_, v, hv⟩ := C.all y a e
      exact ⟨v, k y a v e hv⟩
    · obtain ⟨a, ha, hv⟩ := C.has i y e
      refine ⟨a, ha, fun v ev => ?_⟩
      obtain ⟨u, r, z⟩ := hv v ev
      exact ⟨u, r, k y a _ ha z⟩
end
/-- g(lambda .., ..): its cells stand in the callee's base -/
def tCL (base : Heap) (T : List (Addr × Str)) (mk : List (Str × Addr) → Addr → LF) (fr : List Str) (js : List Nat) (sp : Heap → Sp) (E : XK) (t : TA) : TE := fun σ H Q =>
  Tabs T H ∧ ∀ (f c' : Addr) (cl : List (Str × Addr)) (H1 : Hp), ExtN H H1 → Tabs T H1 → H f = none → H1 f = some (LamO f (mk cl c')) → H1 c' = some (CodeO c' (mk cl c').qual) →
    t σ H1 fun vs H2 => ∀ base' : Heap, CellsB base' cl fr (js.map (slotAt σ)) → (∀ b o, base.get? b = some o → base'.get? b = some o) → sp base' (.ref f :: vs) H2 Q E
section
variable {X : Cx} {CX : CXT} {k : Nat} {g : Addr} {gd : FuncData} {ps fr : List Str} {js : List Nat} {sp : Heap → Sp} {E : XK} {x : Str} {p pos lpos : Pos} {es : List Expr} {t : TA} {T : List (Addr × Str)} {c P : Addr} {params : Arguments} {body : Expr} {scope : Scope} {q : Str} {base : Heap}
theorem pe_callL (G : ∀ base : Heap, FnOk X.prog X.w X.K X.mg base CX k g gd ps (sp base)) (hnf : NoFr X) (hbs : X.base = base) (TB : TabB base X.mg c P) (hcode : X.env.code = .ref c) (hq : X.env.qual ++ "<lambda>" = q) (hm : (P, q) ∈ T) (hu : ∀ p ∈ T, p.1 = P → p.2 = q)
    (hfree : ∀ y ∈ scope.names, y.2 = .free → X.env.scope.names.lookup y.1 = some .cell ∨ X.env.scope.names.lookup y.1 = some .free) (hfr : ∀ y ∈ fr, (y, NameKind.free) ∈ scope.names) (hjs : js.map (fun j => X.N[j]?) = fr.map some)
    (hr : Room k X.A) (hg : Gl X x) (hgm : X.mg x = some (.ref g)) (hk : PySem.W.keepIn X.K (.ref g) = true) (hb : Binds X.K gd ps []) (hx : Passes CX X E) (ha : PA X es t) (hdef : defaultsOf params X.env = ([], []) := by rfl)
    (hdb : (x == ("__debug__" : Str)) = false := by decide) (he : starEach (.Lambda params body scope lpos :: es) X.env = (false, eval (.Lambda params body scope lpos) X.env) :: starEach es X.env := by rfl) (hpl : (backTo pos (starEach es X.env)).any (·.1) = false := by rfl) :
    PE X (.Call (.Name x p) (.Lambda params body scope lpos :: es) [] pos) (tCL base T (fun cl c' => ⟨q, params, body, scope, cl, c'⟩) fr js sp E t) := by
  subst hq hbs
  refine ⟨fun pins s σ H Q I h => ?_⟩
  obtain ⟨hT, h⟩ := h
  have pa := pa_cons (pe_lam (X := X) (params := params) (body := body) (scope := scope) (pos := lpos) TB hcode hm hu hfree hdef) ha
  refine wpAny_Call_Name_kw (ld_glob I hg hgm ?_ hdb)
  refine PySem.W.callWith_K (h₀ := X.base) I.ok.mod.kin hk (thn (pa.run pos pins s σ H (fun vs H2 => ∀ base' : Heap, CellsB base' (cloFrom X.env.cells scope.names []) fr (js.map (slotAt σ)) → (∀ b o, X.base.get? b = some o → base'.get? b = some o) → sp base' vs H2 Q E) I ⟨hT, fun f c' H1 a b d e z => h f c' _ H1 a b d e z⟩) fun us s1 ⟨vs, H1, I1, r, q⟩ => ⟨I1.kIn, ?_⟩) he hpl
  obtain ⟨e0, kb, cb⟩ := env_hidN hnf I1
  have q := q _ (cb _ fr js fun ok => Caps.made ok hfree hfr hjs) kb
  have hl : us.length = ps.length := by rw [← r.length]; exact (G _).len _ _ _ _ q
  have b := hb s1 us I1.kIn (by rw [List.append_nil]; exact hl)
  rw [List.append_nil] at b
  refine wpAny_call (codeAny_mono ((G _).run X.A X.stack s1 H1 ⟨us, []⟩ us vs Q E hr e0 b r q) fun r s' hq => ?_)
  cases r with
  | error e => exact hx pins σ H1 s1 e s' I1 hq
  | ok fl =>
    cases fl with
    | ret u => exact I1.after hq
    | next => exact False.elim hq
    | brk => exact False.elim hq
    | cont => exact False.elim hq
end
section
variable {σ : L2.St} {H : Hp} {Q : VK} {base : Heap} {T : List (Addr × Str)} {mk : List (Str × Addr) → Addr → LF} {fr : List Str} {js : List Nat} {sp : Heap → Sp} {E : XK} {t : TA}
theorem go_CL (hT : Tabs T H) (k : ∀ (f c' : Addr) (cl : List (Str × Addr)) (H1 : Hp), ExtN H H1 → Tabs T H1 → H f = none → H1 f = some (LamO f (mk cl c')) → H1 c' = some (CodeO c' (mk cl c').qual) →
    t σ H1 fun vs H2 => ∀ base' : Heap, CellsB base' cl fr (js.map (slotAt σ)) → (∀ b o, base.get? b = some o → base'.get? b = some o) → sp base' (.ref f :: vs) H2 Q E) : tCL base T mk fr js sp E t σ H Q := ⟨hT, k⟩
end
theorem go_nm {i : Nat} {v : V} {σ τ : L2.St} {H : Hp} {R : L2.St → Hp → Prop} (e : σ.set i (some v) = τ) (k : R τ H) : gName i v σ H R := by
  subst e
  exact go_name k
/-! ### a comprehension whose items make lambdas -/
theorem noT_trans {H H1 H2 : Hp} (s : Same (noT H) H1) (t : Same (noT H1) H2) : Same (noT H) H2 := fun b o e => by
  refine t b o (noT_at (s b o e) fun ps z => ?_)
  unfold noT at e
  split at e
  · cases e
  · rename_i o' hn
    exact hn ps (by rw [e, z])
theorem noT_none {H : Hp} {b : Addr} (e : H b = none) : noT H b = none := by
  unfold noT
  rw [e]
theorem tabs_lst {T : List (Addr × Str)} {H : Hp} {D : Addr} {xs ys : List V} (h : Tabs T H) (e : H D = some (.lst xs)) : Tabs T (upd H D (.lst ys)) := fun p hp => by
  obtain ⟨ps, a1, a2, a3⟩ := h p hp
  refine ⟨ps, ?_, a2, fun p' cv hcv => ?_⟩
  · rw [upd_ne (ne_of a1 e (by intro z; cases z))]
    exact a1
  · obtain ⟨c0, e1, e2⟩ := a3 p' cv hcv
    refine ⟨c0, e1, ?_⟩
    rw [upd_ne (ne_of e2 e codeO_lst)]
    exact e2
section
variable {σ : L2.St} {H : Hp} {Q : VK} {te : TE} {g : TG} {vs : List Nat} {J : It} {n : Nat} {G : Hp → Prop} {Y : Nat → Hp → V → Hp → Prop} {T : List (Addr × Str)}
theorem go_lcT (w : Walk J n G Y) (hn : n ≤ 100000) (f : Nat → V) (hT : Tabs T H) (hG : ∀ H', Same (noT H) H' → G H')
    (hs : ∀ i x H1 H' (R : VK), i < n → Same (noT H) H1 → Tabs T H1 → Y i H1 x H' → (∀ H4, Same (noT H1) H4 → Tabs T H4 → R (f i) H4) → g x (wipe σ vs) H' fun σ2 H2 => wipe σ2 vs = wipe σ vs ∧ te σ2 H2 R)
    (k : ∀ D H', H D = none → Same (noT H) H' → Tabs T H' → H' D = some (.lst ((List.range n).map f)) → Q (.ref D) H') : lcK g tYes te vs σ Q J H := by
  intro D nD
  refine lc_it w (fun i H' => Same (noT H) H' ∧ Tabs T H' ∧ H' D = some (.lst ((List.range i).map f))) ⟨same_mut (noT_same H) (noT_none nD), hT.ext (same_new nD), upd_same⟩ (fun i H' _ h => hG H' h.1) ?_ ?_
  · rintro i x H1 H' hi ⟨s, t, e⟩ y
    refine hs i x H1 H' (fun y H4 => ∃ acc, H4 D = some (.lst acc) ∧ acc.length < sizeLine ∧ (Same (noT H) (upd H4 D (.lst (acc ++ [y]))) ∧ Tabs T (upd H4 D (.lst (acc ++ [y]))) ∧ upd H4 D (.lst (acc ++ [y])) D = some (.lst ((List.range (i + 1)).map f)))) hi s t y fun H4 s4 t4 => ?_
    have e4 := s4 _ _ (noT_at e (by intro ps z; cases z))
    refine ⟨_, e4, small_lt (by simp; omega), same_mut (noT_trans s s4) (noT_none nD), tabs_lst t4 e4, ?_⟩
    rw [upd_same, List.range_succ, List.map_append]
    rfl
  · rintro H' ⟨s, t, e⟩
    exact k D H' nD s t e
end
end Ed

/-! A row and the same row turned: how many dealings. -/
namespace Ed
open PySem L2 Deal
theorem cnt_rev60 : ∀ n, n < 60 → cntN (n + 1) (walk (n + 1) [List.range (n + 1), (List.range (n + 1)).reverse]) = if (n + 1) % 2 = 0 then 2 ^ ((n + 1) / 2) else 2 := by decide +kernel
theorem cnt_rev {n : Nat} (h1 : 1 ≤ n) (h2 : n ≤ 60) : cntN n (walk n [List.range n, (List.range n).reverse]) = if n % 2 = 0 then 2 ^ (n / 2) else 2 := by
  have := cnt_rev60 (n - 1) (by omega)
  rw [show n - 1 + 1 = n by omega] at this
  exact this
theorem rw_rev {n : Nat} (h2 : n ≤ 1000) : Rw n [List.range n, (List.range n).reverse] := ⟨⟨by simp, fun r hr => by
  rcases List.mem_cons.mp hr with rfl | hr
  · exact List.Perm.refl _
  · obtain rfl : r = (List.range n).reverse := by simpa using hr
    exact List.reverse_perm _⟩, h2, by show 2 ≤ 50; decide⟩
theorem rw_rng {n : Nat} (h2 : n ≤ 1000) : Rw n [List.range n] := ⟨⟨by simp, fun r hr => by
  obtain rfl : r = List.range n := by simpa using hr
  exact List.Perm.refl _⟩, h2, by show 1 ≤ 50; decide⟩
theorem cnt_rng {n : Nat} (h2 : n ≤ 1000) : cntN n (walk n [List.range n]) = 2 ^ ((n + 1) / 2) := by
  obtain ⟨dep, F⟩ := walk_fin (rw_rng h2).G
  exact one_cnt (rw_rng h2).G (r := List.range n) (fun q hq => by simpa using hq) F
/-! ### data, the tables hidden -/
theorem noT_seqT {K : PySem.W.Frag} {H : Hp} {a : Addr} {xs : List V} (h : SqT K H a xs) : SqT K (noT H) a xs := by
  rcases h with (h | ⟨o, h⟩) | h
  · exact .inl (.inl (noT_at h (by intro ps z; cases z)))
  · exact .inl (.inr ⟨o, noT_at h (by intro ps z; cases z)⟩)
  · exact .inr h
mutual
theorem dp_noT {K : PySem.W.Frag} {H : Hp} : ∀ (d : PyData) (v : V), Dp K H v d → Dp K (noT H) v d
  | .none, _, h => by cases h; exact .non
  | .bool _, _, h => by cases h; exact .bl _
  | .int _, _, h => by cases h; exact .int _
  | .str _, _, h => by cases h; exact .str _
  | .list ds, _, h => by
    cases h with
    | lst h t => exact .lst (noT_seq h) (dpAll_noT ds _ t)
  | .tuple ds, _, h => by
    cases h with
    | tup h t => exact .tup (noT_seqT h) (dpAll_noT ds _ t)
  | .dict _, _, h => by cases h
theorem dpAll_noT {K : PySem.W.Frag} {H : Hp} : ∀ (ds : List PyData) (vs : List V), DpAll K H vs ds → DpAll K (noT H) vs ds
  | [], _, h => by cases h; exact .nil
  | d :: ds, _, h => by
    cases h with
    | cons h t => exact .cons (dp_noT d _ h) (dpAll_noT ds _ t)
end
theorem dv_noT {K : PySem.W.Frag} {H : Hp} {v : V} {d : PyData} (h : DV K H v d) : DV K (noT H) v d := by
  cases h with
  | d h => exact .d (dp_noT _ _ h)
  | dict e => exact .dict (noT_at e (by intro ps z; cases z))
def tupA (R : SR) (n : Nat) : SR := ⟨fun v H => ∃ a xs, v = .ref a ∧ H a = some (.tup xs) ∧ xs.length = n ∧ ∀ x ∈ xs, R.r x H, fun _ _ _ s ⟨a, xs, e, h, l, k⟩ => ⟨a, xs, e, s _ _ h, l, fun x hx => R.st _ _ _ s (k x hx)⟩⟩
theorem ev_tupA {σ : L2.St} {H0 : Hp} {ts : TA} {R : SR} {n : Nat} (h : EvA σ H0 ts R n) (hn : n ≤ 1000) : Ev σ H0 (tTup ts) (tupA R n) := fun H s Q q =>
  go_tup (h H s _ fun vs H1 s1 l k => go_tupK (small_le (by omega)) fun p H2 np s2 e2 => q _ H2 (s1.trans s2) ⟨p, vs, rfl, e2, l, fun x hx => R.st _ _ _ s2 (k x hx)⟩)
end Ed

/-! Lists within lists that stand apart: made anew, changed in place. -/
namespace Ed
open PySem L2 Deal
/-- whole numbers, lists of at most six thousand -/
inductive SDL : Nat → PyData → Prop where
  | int {k : Nat} (i : Int) : SDL k (.int i)
  | lst {k : Nat} {es : List PyData} (l : es.length ≤ 6000) (h : ∀ e ∈ es, SDL k e) : SDL (k + 1) (.list es)
theorem SDL.up : ∀ {k : Nat} {d : PyData}, SDL k d → SDL (k + 1) d
  | _, _, .int i => .int i
  | _, _, .lst l h => .lst l fun e he => SDL.up (h e he)
theorem lay_allT : ∀ {es : List PyData} {k : Nat}, (∀ e ∈ es, PyData.canLay0 e = true ∧ PyData.depth e ≤ k) → PyData.canLayAll0 es = true ∧ PyData.depthAll es ≤ k
  | [], k, _ => ⟨by simp [PyData.canLayAll0], by simp [PyData.depthAll]⟩
  | e :: es, k, h => by
    obtain ⟨h1, h2⟩ := h e List.mem_cons_self
    obtain ⟨h3, h4⟩ := lay_allT fun x hx => h x (List.mem_cons_of_mem _ hx)
    exact ⟨by simp [PyData.canLayAll0, h1, h3], by simp only [PyData.depthAll]; omega⟩
theorem SDL.lay : ∀ {k : Nat} {d : PyData}, SDL k d → PyData.canLay0 d = true ∧ PyData.depth d ≤ k
  | _, _, .int i => ⟨by simp [PyData.canLay0], by simp [PyData.depth]⟩
  | _, _, .lst _ h => by
    obtain ⟨h1, h2⟩ := lay_allT fun e he => SDL.lay (h e he)
    exact ⟨by simp only [PyData.canLay0]; exact h1, by simp only [PyData.depth]; omega⟩
theorem SDL.shaped {k : Nat} {d : PyData} (h : SDL k d) (hk : k ≤ 64) : SeqAt.shaped d = true := by
  unfold SeqAt.shaped
  rw [h.lay.1, Bool.true_and]
  exact decide_eq_true (by have := h.lay.2; omega)
theorem eqvAll_refl : ∀ {es : List PyData}, (∀ e ∈ es, PyData.eqv e e = true) → PyData.eqvAll es es = true
  | [], _ => by simp [PyData.eqvAll]
  | e :: es, h => by
    rw [PyData.eqvAll, h e List.mem_cons_self, eqvAll_refl fun x hx => h x (List.mem_cons_of_mem _ hx)]
    rfl
theorem SDL.refl : ∀ {k : Nat} {d : PyData}, SDL k d → PyData.eqv d d = true
  | _, _, .int i => by simp [PyData.eqv]
  | _, _, .lst _ h => by
    rw [PyData.eqv]
    exact eqvAll_refl fun e he => SDL.refl (h e he)
theorem sdl_ints {l : List Int} (h : l.length ≤ 6000) (k : Nat) : SDL (k + 1) (dI l) := .lst (by rw [List.length_map]; exact h) fun e he => by
  obtain ⟨i, _, rfl⟩ := List.mem_map.mp he
  exact .int i
theorem sdl_rows {rs : List (List Nat)} {n : Nat} (h : Rw n rs) (k : Nat) : SDL (k + 2) (dR rs) := .lst (by rw [List.length_map]; have := h.lr; omega) fun e he => by
  obtain ⟨r, hr, rfl⟩ := List.mem_map.mp he
  have := (h.G.perm r hr).length_eq
  rw [List.length_range] at this
  exact sdl_ints (by rw [iN_len]; have := h.ln; omega) k
/-! ### trees of lists -/
mutual
inductive TrD (H : Hp) : PyData → V → List Addr → Prop where
  | int (i : Int) : TrD H (.int i) (.int i) []
  | lst {ds : List PyData} {vs : List V} {a : Addr} {f : List Addr} (e : H a = some (.lst vs)) (t : TrL H ds vs f) : TrD H (.list ds) (.ref a) (a :: f)
inductive TrL (H : Hp) : List PyData → List V → List Addr → Prop where
  | nil : TrL H [] [] []
  | cons {d : PyData} {ds : List PyData} {v : V} {vs : List V} {f g fg : List Addr} (h : TrD H d v f) (t : TrL H ds vs g) (e : fg = f ++ g) : TrL H (d :: ds) (v :: vs) fg
end
/-- all that stood and is not among fp stands still -/
def Fr (fp : List Addr) (H H' : Hp) : Prop := ∀ b o, H b = some o → b ∉ fp → H' b = some o
section
variable {H H' : Hp} {K : PySem.W.Frag}
mutual
theorem trD_mono : ∀ (d : PyData) {v : V} {fp : List Addr}, (∀ b ∈ fp, ∀ o, H b = some o → H' b = some o) → TrD H d v fp → TrD H' d v fp
  | .int _, _, _, _, h => by cases h; exact .int _
  | .list ds, _, _, m, h => by
    cases h with
    | lst e t => exact .lst (m _ List.mem_cons_self _ e) (trL_mono ds (fun b hb => m b (List.mem_cons_of_mem _ hb)) t)
  | .none, _, _, _, h => by cases h
  | .bool _, _, _, _, h => by cases h
  | .str _, _, _, _, h => by cases h
  | .tuple _, _, _, _, h => by cases h
  | .dict _, _, _, _, h => by cases h
theorem trL_mono : ∀ (ds : List PyData) {vs : List V} {fp : List Addr}, (∀ b ∈ fp, ∀ o, H b = some o → H' b = some o) → TrL H ds vs fp → TrL H' ds vs fp
  | [], _, _, _, h => by cases h; exact .nil
  | d :: ds, _, _, m, h => by
    cases h with
    | cons h t e =>
      subst e
      exact .cons (trD_mono d (fun b hb => m b (List.mem_append_left _ hb)) h) (trL_mono ds (fun b hb => m b (List.mem_append_right _ hb)) t) rfl
end
mutual
theorem trD_some : ∀ (d : PyData) {v : V} {fp : List Addr}, TrD H d v fp → ∀ b ∈ fp, ∃ xs, H b = some (.lst xs)
  | .int _, _, _, h, b, hb => by cases h; simp at hb
  | .list ds, _, _, h, b, hb => by
    cases h with
    | lst e t =>
      rcases List.mem_cons.mp hb with rfl | hb
      · exact ⟨_, e⟩
      · exact trL_some ds t b hb
  | .none, _, _, h, _, _ => by cases h
  | .bool _, _, _, h, _, _ => by cases h
  | .str _, _, _, h, _, _ => by cases h
  | .tuple _, _, _, h, _, _ => by cases h
  | .dict _, _, _, h, _, _ => by cases h
theorem trL_some : ∀ (ds : List PyData) {vs : List V} {fp : List Addr}, TrL H ds vs fp → ∀ b ∈ fp, ∃ xs, H b = some (.lst xs)
  | [], _, _, h, b, hb => by cases h; simp at hb
  | d :: ds, _, _, h, b, hb => by
    cases h with
    | cons h t e =>
      subst e
      rcases List.mem_append.mp hb with hb | hb
      · exact trD_some d h b hb
      · exact trL_some ds t b hb
end
mutual
theorem trD_dp : ∀ (d : PyData) {v : V} {fp : List Addr}, TrD H d v fp → Dp K H v d
  | .int _, _, _, h => by cases h; exact .int _
  | .list ds, _, _, h => by
    cases h with
    | lst e t => exact .lst (sqL_of e) (trL_dp ds t)
  | .none, _, _, h => by cases h
  | .bool _, _, _, h => by cases h
  | .str _, _, _, h => by cases h
  | .tuple _, _, _, h => by cases h
  | .dict _, _, _, h => by cases h
theorem trL_dp : ∀ (ds : List PyData) {vs : List V} {fp : List Addr}, TrL H ds vs fp → DpAll K H vs ds
  | [], _, _, h => by cases h; exact .nil
  | d :: ds, _, _, h => by
    cases h with
    | cons h t e => exact .cons (trD_dp d h) (trL_dp ds t)
end
theorem trL_len : ∀ {ds : List PyData} {vs : List V} {fp : List Addr}, TrL H ds vs fp → vs.length = ds.length
  | [], _, _, h => by cases h; rfl
  | d :: ds, _, _, h => by
    cases h with
    | cons h t e => rw [List.length_cons, List.length_cons, trL_len t]
theorem trL_app {es : List PyData} {ws : List V} {g : List Addr} (h2 : TrL H es ws g) : ∀ {ds : List PyData} {vs : List V} {f : List Addr}, TrL H ds vs f → TrL H (ds ++ es) (vs ++ ws) (f ++ g)
  | [], _, _, h => by cases h; exact h2
  | d :: ds, _, _, h => by
    cases h with
    | cons h t e =>
      subst e
      exact .cons h (trL_app h2 t) (by rw [List.append_assoc])
theorem trL_split {es : List PyData} : ∀ {ds : List PyData} {vs : List V} {f : List Addr}, TrL H (ds ++ es) vs f → ∃ us ws g1 g2, vs = us ++ ws ∧ f = g1 ++ g2 ∧ TrL H ds us g1 ∧ TrL H es ws g2
  | [], _, _, h => ⟨[], _, [], _, rfl, rfl, .nil, h⟩
  | d :: ds, _, _, h => by
    cases h with
    | cons h t e =>
      subst e
      obtain ⟨us, ws, g1, g2, rfl, rfl, t1, t2⟩ := trL_split t
      exact ⟨_ :: us, ws, _ ++ g1, g2, rfl, by rw [List.append_assoc], .cons h t1 rfl, t2⟩
theorem trL_one {d : PyData} {v : V} {f : List Addr} (h : TrD H d v f) : TrL H [d] [v] f := .cons h .nil (by simp)
theorem trL_ints : ∀ (l : List Int), TrL H (l.map .int) (l.map V.int) []
  | [] => .nil
  | i :: l => .cons (.int i) (trL_ints l) rfl
theorem trD_ints {a : Addr} {l : List Int} (e : H a = some (.lst (l.map V.int))) : TrD H (dI l) (.ref a) [a] := .lst e (trL_ints l)
theorem Fr.refl {fp : List Addr} : Fr fp H H := fun _ _ e _ => e
theorem Same.fr {fp : List Addr} (s : Same H H') : Fr fp H H' := fun b o e _ => s b o e
theorem Fr.trans {fp : List Addr} {H1 : Hp} (s : Fr fp H H1) (t : Fr fp H1 H') : Fr fp H H' := fun b o e n => t b o (s b o e n) n
theorem Fr.mono {fp gp : List Addr} (s : Fr fp H H') (h : ∀ b ∈ fp, b ∈ gp) : Fr gp H H' := fun b o e n => s b o e fun z => n (h b z)
theorem fr_upd {fp : List Addr} {a : Addr} {o : HO} (h : a ∈ fp) : Fr fp H (upd H a o) := fun b u e n => by
  have hb : b ≠ a := fun z => n (by rw [z]; exact h)
  rw [upd_ne hb]
  exact e
/-- a heap without some places -/
def hL (fp : List Addr) (H : Hp) : Hp := fun b => if b ∈ fp then none else H b
theorem hL_at {fp : List Addr} {b : Addr} {o : HO} (e : H b = some o) (n : b ∉ fp) : hL fp H b = some o := by
  unfold hL
  rw [if_neg n]
  exact e
theorem of_hL {fp : List Addr} {b : Addr} {o : HO} (e : hL fp H b = some o) : H b = some o ∧ b ∉ fp := by
  unfold hL at e
  split at e
  · cases e
  · rename_i n
    exact ⟨e, n⟩
theorem hL_same {fp : List Addr} : Same (hL fp H) H := fun b o e => (of_hL e).1
/-- what was told ahead of new places -/
theorem same_hL {fp : List Addr} {H1 : Hp} (s : Same H H1) (n : ∀ b ∈ fp, H b = none) : Same H (hL fp H1) := fun b o e => hL_at (s b o e) fun z => by
  rw [n b z] at e
  cases e
theorem fr_hL {fp gp : List Addr} (s : Fr fp H H') (h : ∀ b ∈ gp, b ∈ fp) : Same (hL fp H) (hL gp H') := fun b o e => by
  obtain ⟨e1, n⟩ := of_hL e
  exact hL_at (s b o e1 n) fun z => n (h b z)
theorem Fr.same {fp : List Addr} {H1 : Hp} (t : Fr fp H1 H') (s : Same H H1) (n : ∀ b ∈ fp, H b = none) : Same H H' := fun b o e => t b o (s b o e) fun z => by
  rw [n b z] at e
  cases e
end
end Ed

namespace Ed
open PySem L2 Deal
/-! the text by places -/
def topS (i : Nat) : Stmt := PySem.Challenge.pw_evendeal_k08_handed_stays.main.body.getD i (.Pass ⟨0, 0, 0, 0⟩)
abbrev s_is_number : Stmt := topS 7
abbrev N_is_number : List Str := ["thing"]
theorem sc_is_number : FnScope N_is_number ["thing"] (defScope s_is_number) := ⟨rfl, rfl, rfl, by decide +kernel, rfl, by decide +kernel, by decide +kernel⟩
abbrev s_check_rows : Stmt := topS 8
abbrev N_check_rows : List Str := ["rows", "row", "thing"]
theorem sc_check_rows : FnScope N_check_rows ["rows"] (defScope s_check_rows) := ⟨rfl, rfl, rfl, by decide +kernel, rfl, by decide +kernel, by decide +kernel⟩
abbrev s_check_thing : Stmt := topS 9
abbrev N_check_thing : List Str := ["rows", "thing"]
theorem sc_check_thing : FnScope N_check_thing ["rows", "thing"] (defScope s_check_thing) := ⟨rfl, rfl, rfl, by decide +kernel, rfl, by decide +kernel, by decide +kernel⟩
abbrev s_ties_of : Stmt := topS 10
abbrev N_ties_of : List Str := ["rows", "found", "place", "row", "at", "thing"]
theorem sc_ties_of : FnScope N_ties_of ["rows"] (defScope s_ties_of) := ⟨rfl, rfl, rfl, by decide +kernel, rfl, by decide +kernel, by decide +kernel⟩
abbrev s_is_pair : Stmt := topS 11
abbrev N_is_pair : List Str := ["rows", "place", "one", "other", "first", "second"]
theorem sc_is_pair : FnScope N_is_pair ["rows", "place", "one", "other"] (defScope s_is_pair) := ⟨rfl, rfl, rfl, by decide +kernel, rfl, by decide +kernel, by decide +kernel⟩
abbrev s_is_chain : Stmt := topS 12
abbrev N_is_chain : List Str := ["rows", "things", "places", "at", "thing"]
theorem sc_is_chain : FnScope N_is_chain ["rows", "things", "places"] (defScope s_is_chain) := ⟨rfl, rfl, rfl, by decide +kernel, rfl, by decide +kernel, by decide +kernel⟩
abbrev s_is_even : Stmt := topS 13
abbrev N_is_even : List Str := ["rows", "sides", "row", "at", "side"]
theorem sc_is_even : FnScope N_is_even ["rows", "sides"] (defScope s_is_even) := ⟨rfl, rfl, rfl, by decide +kernel, rfl, by decide +kernel, by decide +kernel⟩
abbrev s_Dealt_init : Stmt := inClass (topS 16) 0
abbrev N_Dealt_init : List Str := ["self", "sides"]
theorem sc_Dealt_init : FnScope N_Dealt_init ["self", "sides"] (defScope s_Dealt_init) := ⟨rfl, rfl, rfl, by decide +kernel, rfl, by decide +kernel, by decide +kernel⟩
abbrev s_Dealt_shows : Stmt := inClass (topS 16) 1
abbrev N_Dealt_shows : List Str := ["self", "rows"]
theorem sc_Dealt_shows : FnScope N_Dealt_shows ["self", "rows"] (defScope s_Dealt_shows) := ⟨rfl, rfl, rfl, by decide +kernel, rfl, by decide +kernel, by decide +kernel⟩
abbrev s_Ring_init : Stmt := inClass (topS 17) 0
abbrev N_Ring_init : List Str := ["self", "things", "places"]
theorem sc_Ring_init : FnScope N_Ring_init ["self", "things", "places"] (defScope s_Ring_init) := ⟨rfl, rfl, rfl, by decide +kernel, rfl, by decide +kernel, by decide +kernel⟩
abbrev s_Ring_shows : Stmt := inClass (topS 17) 1
abbrev N_Ring_shows : List Str := ["self", "rows"]
theorem sc_Ring_shows : FnScope N_Ring_shows ["self", "rows"] (defScope s_Ring_shows) := ⟨rfl, rfl, rfl, by decide +kernel, rfl, by decide +kernel, by decide +kernel⟩
abbrev s_Chain_init : Stmt := inClass (topS 18) 0
abbrev N_Chain_init : List Str := ["self", "things", "places"]
theorem sc_Chain_init : FnScope N_Chain_init ["self", "things", "places"] (defScope s_Chain_init) := ⟨rfl, rfl, rfl, by decide +kernel, rfl, by decide +kernel, by decide +kernel⟩
abbrev s_Chain_shows : Stmt := inClass (topS 18) 1
abbrev N_Chain_shows : List Str := ["self", "rows", "one", "other"]
theorem sc_Chain_shows : FnScope N_Chain_shows ["self", "rows", "one", "other"] (defScope s_Chain_shows) := ⟨rfl, rfl, rfl, by decide +kernel, rfl, by decide +kernel, by decide +kernel⟩
abbrev s_Free_init : Stmt := inClass (topS 19) 0
abbrev N_Free_init : List Str := ["self", "same", "unlike"]
theorem sc_Free_init : FnScope N_Free_init ["self", "same", "unlike"] (defScope s_Free_init) := ⟨rfl, rfl, rfl, by decide +kernel, rfl, by decide +kernel, by decide +kernel⟩
abbrev s_Free_shows : Stmt := inClass (topS 19) 1
abbrev N_Free_shows : List Str := ["self", "rows", "one", "other"]
theorem sc_Free_shows : FnScope N_Free_shows ["self", "rows", "one", "other"] (defScope s_Free_shows) := ⟨rfl, rfl, rfl, by decide +kernel, rfl, by decide +kernel, by decide +kernel⟩
abbrev s_Walk_init : Stmt := inClass (topS 21) 0
abbrev N_Walk_init : List Str := ["self", "rows", "many", "thing"]
theorem sc_Walk_init : FnScope N_Walk_init ["self", "rows"] (defScope s_Walk_init) := ⟨rfl, rfl, rfl, by decide +kernel, rfl, by decide +kernel, by decide +kernel⟩
abbrev s_Walk_meet : Stmt := inClass (topS 21) 1
abbrev N_Walk_meet : List Str := ["self", "head", "waiting", "here", "other", "place"]
theorem sc_Walk_meet : FnScope N_Walk_meet ["self", "head"] (defScope s_Walk_meet) := ⟨rfl, rfl, rfl, by decide +kernel, rfl, by decide +kernel, by decide +kernel⟩
abbrev s_Walk_way_up : Stmt := inClass (topS 21) 2
abbrev N_Walk_way_up : List Str := ["self", "thing", "things", "places", "before", "place"]
theorem sc_Walk_way_up : FnScope N_Walk_way_up ["self", "thing"] (defScope s_Walk_way_up) := ⟨rfl, rfl, rfl, by decide +kernel, rfl, by decide +kernel, by decide +kernel⟩
abbrev s_Walk_chain : Stmt := inClass (topS 21) 3
abbrev N_Walk_chain : List Str := ["self", "one", "other", "things", "places", "more", "more_places"]
theorem sc_Walk_chain : FnScope N_Walk_chain ["self", "one", "other"] (defScope s_Walk_chain) := ⟨rfl, rfl, rfl, by decide +kernel, rfl, by decide +kernel, by decide +kernel⟩
abbrev s_Walk_ring : Stmt := inClass (topS 21) 4
abbrev N_Walk_ring : List Str := ["self", "here", "other", "place", "things", "places"]
theorem sc_Walk_ring : FnScope N_Walk_ring ["self"] (defScope s_Walk_ring) := ⟨rfl, rfl, rfl, by decide +kernel, rfl, by decide +kernel, by decide +kernel⟩
abbrev s_deal : Stmt := topS 22
abbrev N_deal : List Str := ["rows", "walk"]
theorem sc_deal : FnScope N_deal ["rows"] (defScope s_deal) := ⟨rfl, rfl, rfl, by decide +kernel, rfl, by decide +kernel, by decide +kernel⟩
abbrev s_tied : Stmt := topS 23
abbrev N_tied : List Str := ["rows", "one", "other", "walk", "things", "places", "turned", "side", "head"]
theorem sc_tied : FnScope N_tied ["rows", "one", "other"] (defScope s_tied) := ⟨rfl, rfl, rfl, by decide +kernel, rfl, by decide +kernel, by decide +kernel⟩
abbrev s_heads_of : Stmt := topS 25
abbrev N_heads_of : List Str := ["walk", "thing", "head"]
theorem sc_heads_of : FnScope N_heads_of ["walk"] (defScope s_heads_of) := ⟨rfl, rfl, rfl, by decide +kernel, rfl, by decide +kernel, by decide +kernel⟩
abbrev s_count_by : Stmt := topS 26
abbrev N_count_by : List Str := ["walk"]
theorem sc_count_by : FnScope N_count_by ["walk"] (defScope s_count_by) := ⟨rfl, rfl, rfl, by decide +kernel, rfl, by decide +kernel, by decide +kernel⟩
abbrev s_count : Stmt := topS 27
abbrev N_count : List Str := ["rows"]
theorem sc_count : FnScope N_count ["rows"] (defScope s_count) := ⟨rfl, rfl, rfl, by decide +kernel, rfl, by decide +kernel, by decide +kernel⟩
abbrev s_dealing : Stmt := topS 28
abbrev N_dealing : List Str := ["rows", "number", "walk", "turns", "at", "head", "side"]
theorem sc_dealing : FnScope N_dealing ["rows", "number"] (defScope s_dealing) := ⟨rfl, rfl, rfl, by decide +kernel, rfl, by decide +kernel, by decide +kernel⟩
abbrev s_number_of : Stmt := topS 29
abbrev N_number_of : List Str := ["rows", "sides", "at", "head", "side"]
theorem sc_number_of : FnScope N_number_of ["rows", "sides"] (defScope s_number_of) := ⟨rfl, rfl, rfl, by decide +kernel, rfl, by decide +kernel, by decide +kernel⟩
abbrev s__law_copied : Stmt := topS 31
abbrev N__law_copied : List Str := ["_law_thing", "_law_one"]
theorem sc__law_copied : FnScope N__law_copied ["_law_thing"] (defScope s__law_copied) := ⟨rfl, rfl, rfl, by decide +kernel, rfl, by decide +kernel, by decide +kernel⟩
abbrev s__law_spoiled : Stmt := topS 32
abbrev N__law_spoiled : List Str := ["_law_thing", "_law_one"]
theorem sc__law_spoiled : FnScope N__law_spoiled ["_law_thing"] (defScope s__law_spoiled) := ⟨rfl, rfl, rfl, by decide +kernel, rfl, by decide +kernel, by decide +kernel⟩
abbrev s__law_laid : Stmt := topS 33
abbrev N__law_laid : List Str := ["_law_mine", "_law_other", "_law_at", "_law_one"]
theorem sc__law_laid : FnScope N__law_laid ["_law_mine", "_law_other"] (defScope s__law_laid) := ⟨rfl, rfl, rfl, by decide +kernel, rfl, by decide +kernel, by decide +kernel⟩
abbrev s__law_door_right : Stmt := topS 34
abbrev N__law_door_right : List Str := ["_law_ask", "_law_one", "_law_other", "_law_mine", "_law_given", "_law_before"]
theorem sc__law_door_right : FnScope N__law_door_right ["_law_ask", "_law_one", "_law_other"] (defScope s__law_door_right) := ⟨rfl, rfl, rfl, by decide +kernel, rfl, by decide +kernel, by decide +kernel⟩
abbrev s__law_row : Stmt := topS 35
abbrev N__law_row : List Str := ["_law_cells", "_law_many", "_law_by", "_law_left", "_law_found", "_law_at", "_law_cell"]
theorem sc__law_row : FnScope N__law_row ["_law_cells", "_law_many", "_law_by"] (defScope s__law_row) := ⟨rfl, rfl, rfl, by decide +kernel, rfl, by decide +kernel, by decide +kernel⟩
abbrev s__law_told : Stmt := topS 36
abbrev N__law_told : List Str := ["_law_found"]
theorem sc__law_told : FnScope N__law_told ["_law_found"] (defScope s__law_told) := ⟨rfl, rfl, rfl, by decide +kernel, rfl, by decide +kernel, by decide +kernel⟩
abbrev s__law_free_right : Stmt := topS 37
abbrev N__law_free_right : List Str := ["_law_ask", "_law_holds_here", "_law_one", "_law_other", "_law_mine", "_law_things", "_law_found"]
theorem sc__law_free_right : FnScope N__law_free_right ["_law_ask", "_law_holds_here", "_law_one", "_law_other"] (defScope s__law_free_right) := ⟨rfl, rfl, rfl, by decide +kernel, rfl, by decide +kernel, by decide +kernel⟩
abbrev s__law_holds : Stmt := topS 38
abbrev N__law_holds : List Str := ["_law_found", "_law_rows", "_law_one", "_law_other"]
theorem sc__law_holds : FnScope N__law_holds ["_law_found", "_law_rows", "_law_one", "_law_other"] (defScope s__law_holds) := ⟨rfl, rfl, rfl, by decide +kernel, rfl, by decide +kernel, by decide +kernel⟩
abbrev s_law : Stmt := topS 39
abbrev N_law : List Str := ["_law_script", "_law_cells", "_law_more", "_law_asks", "_law_frees", "_law_many", "_law_one", "_law_other", "_law_third", "_law_round_rows", "_law_plain", "_law_rows", "_law_others", "_law_ask", "_law_holds_here"]
theorem sc_law : FnScope N_law ["_law_script"] (defScope s_law) := ⟨rfl, rfl, rfl, by decide +kernel, rfl, by decide +kernel, by decide +kernel⟩
/-- what the top has left -/
structure Prog (K : PySem.W.Frag) (mg : Str → Option Value) where
  C_Answer : Addr
  C_Dealt : Addr
  C_Ring : Addr
  C_Chain : Addr
  C_Free : Addr
  C_Walk : Addr
  f_is_number : Addr
  d_is_number : FuncData
  f_check_rows : Addr
  d_check_rows : FuncData
  f_check_thing : Addr
  d_check_thing : FuncData
  f_ties_of : Addr
  d_ties_of : FuncData
  f_is_pair : Addr
  d_is_pair : FuncData
  f_is_chain : Addr
  d_is_chain : FuncData
  f_is_even : Addr
  d_is_even : FuncData
  f_Dealt_init : Addr
  d_Dealt_init : FuncData
  f_Dealt_shows : Addr
  d_Dealt_shows : FuncData
  f_Ring_init : Addr
  d_Ring_init : FuncData
  f_Ring_shows : Addr
  d_Ring_shows : FuncData
  f_Chain_init : Addr
  d_Chain_init : FuncData
  f_Chain_shows : Addr
  d_Chain_shows : FuncData
  f_Free_init : Addr
  d_Free_init : FuncData
  f_Free_shows : Addr
  d_Free_shows : FuncData
  f_Walk_init : Addr
  d_Walk_init : FuncData
  f_Walk_meet : Addr
  d_Walk_meet : FuncData
  f_Walk_way_up : Addr
  d_Walk_way_up : FuncData
  f_Walk_chain : Addr
  d_Walk_chain : FuncData
  f_Walk_ring : Addr
  d_Walk_ring : FuncData
  f_deal : Addr
  d_deal : FuncData
  f_tied : Addr
  d_tied : FuncData
  f_heads_of : Addr
  d_heads_of : FuncData
  f_count_by : Addr
  d_count_by : FuncData
  f_count : Addr
  d_count : FuncData
  f_dealing : Addr
  d_dealing : FuncData
  f_number_of : Addr
  d_number_of : FuncData
  f__law_copied : Addr
  d__law_copied : FuncData
  f__law_spoiled : Addr
  d__law_spoiled : FuncData
  f__law_laid : Addr
  d__law_laid : FuncData
  f__law_door_right : Addr
  d__law_door_right : FuncData
  f__law_row : Addr
  d__law_row : FuncData
  f__law_told : Addr
  d__law_told : FuncData
  f__law_free_right : Addr
  d__law_free_right : FuncData
  f__law_holds : Addr
  d__law_holds : FuncData
  f_law : Addr
  d_law : FuncData
  cd_law : Addr
  tb_law : Addr
  gAnswer : mg "Answer" = some (.ref C_Answer)
  gDealt : mg "Dealt" = some (.ref C_Dealt)
  cDealt : Cls K C_Dealt
  n_Dealt_sides : NoAttr K C_Dealt "sides"
  gRing : mg "Ring" = some (.ref C_Ring)
  cRing : Cls K C_Ring
  n_Ring_things : NoAttr K C_Ring "things"
  n_Ring_places : NoAttr K C_Ring "places"
  gChain : mg "Chain" = some (.ref C_Chain)
  cChain : Cls K C_Chain
  n_Chain_things : NoAttr K C_Chain "things"
  n_Chain_places : NoAttr K C_Chain "places"
  gFree : mg "Free" = some (.ref C_Free)
  cFree : Cls K C_Free
  n_Free_same : NoAttr K C_Free "same"
  n_Free_unlike : NoAttr K C_Free "unlike"
  gWalk : mg "Walk" = some (.ref C_Walk)
  cWalk : Cls K C_Walk
  n_Walk_ties : NoAttr K C_Walk "ties"
  n_Walk_sides : NoAttr K C_Walk "sides"
  n_Walk_heads : NoAttr K C_Walk "heads"
  n_Walk_ahead : NoAttr K C_Walk "ahead"
  n_Walk_bar : NoAttr K C_Walk "bar"
  F_is_number : Fun K "is_number" "is_number" s_is_number f_is_number d_is_number
  b_is_number : Binds K d_is_number ["thing"] []
  g_is_number : mg "is_number" = some (.ref f_is_number)
  F_check_rows : Fun K "check_rows" "check_rows" s_check_rows f_check_rows d_check_rows
  b_check_rows : Binds K d_check_rows ["rows"] []
  g_check_rows : mg "check_rows" = some (.ref f_check_rows)
  F_check_thing : Fun K "check_thing" "check_thing" s_check_thing f_check_thing d_check_thing
  b_check_thing : Binds K d_check_thing ["rows", "thing"] []
  g_check_thing : mg "check_thing" = some (.ref f_check_thing)
  F_ties_of : Fun K "ties_of" "ties_of" s_ties_of f_ties_of d_ties_of
  b_ties_of : Binds K d_ties_of ["rows"] []
  g_ties_of : mg "ties_of" = some (.ref f_ties_of)
  F_is_pair : Fun K "is_pair" "is_pair" s_is_pair f_is_pair d_is_pair
  b_is_pair : Binds K d_is_pair ["rows", "place", "one", "other"] []
  g_is_pair : mg "is_pair" = some (.ref f_is_pair)
  F_is_chain : Fun K "is_chain" "is_chain" s_is_chain f_is_chain d_is_chain
  b_is_chain : Binds K d_is_chain ["rows", "things", "places"] []
  g_is_chain : mg "is_chain" = some (.ref f_is_chain)
  F_is_even : Fun K "is_even" "is_even" s_is_even f_is_even d_is_even
  b_is_even : Binds K d_is_even ["rows", "sides"] []
  g_is_even : mg "is_even" = some (.ref f_is_even)
  F_Dealt_init : Fun K "__init__" "Dealt.__init__" s_Dealt_init f_Dealt_init d_Dealt_init
  b_Dealt_init : Binds K d_Dealt_init ["self", "sides"] []
  mDealt : Mk K C_Dealt f_Dealt_init
  F_Dealt_shows : Fun K "shows" "Dealt.shows" s_Dealt_shows f_Dealt_shows d_Dealt_shows
  b_Dealt_shows : Binds K d_Dealt_shows ["self", "rows"] []
  me_Dealt_shows : Meth K C_Dealt "shows" f_Dealt_shows
  F_Ring_init : Fun K "__init__" "Ring.__init__" s_Ring_init f_Ring_init d_Ring_init
  b_Ring_init : Binds K d_Ring_init ["self", "things", "places"] []
  mRing : Mk K C_Ring f_Ring_init
  F_Ring_shows : Fun K "shows" "Ring.shows" s_Ring_shows f_Ring_shows d_Ring_shows
  b_Ring_shows : Binds K d_Ring_shows ["self", "rows"] []
  me_Ring_shows : Meth K C_Ring "shows" f_Ring_shows
  F_Chain_init : Fun K "__init__" "Chain.__init__" s_Chain_init f_Chain_init d_Chain_init
  b_Chain_init : Binds K d_Chain_init ["self", "things", "places"] []
  mChain : Mk K C_Chain f_Chain_init
  F_Chain_shows : Fun K "shows" "Chain.shows" s_Chain_shows f_Chain_shows d_Chain_shows
  b_Chain_shows : Binds K d_Chain_shows ["self", "rows", "one", "other"] []
  me_Chain_shows : Meth K C_Chain "shows" f_Chain_shows
  F_Free_init : Fun K "__init__" "Free.__init__" s_Free_init f_Free_init d_Free_init
  b_Free_init : Binds K d_Free_init ["self", "same", "unlike"] []
  mFree : Mk K C_Free f_Free_init
  F_Free_shows : Fun K "shows" "Free.shows" s_Free_shows f_Free_shows d_Free_shows
  b_Free_shows : Binds K d_Free_shows ["self", "rows", "one", "other"] []
  me_Free_shows : Meth K C_Free "shows" f_Free_shows
  F_Walk_init : Fun K "__init__" "Walk.__init__" s_Walk_init f_Walk_init d_Walk_init
  b_Walk_init : Binds K d_Walk_init ["self", "rows"] []
  mWalk : Mk K C_Walk f_Walk_init
  F_Walk_meet : Fun K "meet" "Walk.meet" s_Walk_meet f_Walk_meet d_Walk_meet
  b_Walk_meet : Binds K d_Walk_meet ["self", "head"] []
  me_Walk_meet : Meth K C_Walk "meet" f_Walk_meet
  F_Walk_way_up : Fun K "way_up" "Walk.way_up" s_Walk_way_up f_Walk_way_up d_Walk_way_up
  b_Walk_way_up : Binds K d_Walk_way_up ["self", "thing"] []
  me_Walk_way_up : Meth K C_Walk "way_up" f_Walk_way_up
  F_Walk_chain : Fun K "chain" "Walk.chain" s_Walk_chain f_Walk_chain d_Walk_chain
  b_Walk_chain : Binds K d_Walk_chain ["self", "one", "other"] []
  me_Walk_chain : Meth K C_Walk "chain" f_Walk_chain
  F_Walk_ring : Fun K "ring" "Walk.ring" s_Walk_ring f_Walk_ring d_Walk_ring
  b_Walk_ring : Binds K d_Walk_ring ["self"] []
  me_Walk_ring : Meth K C_Walk "ring" f_Walk_ring
  F_deal : Fun K "deal" "deal" s_deal f_deal d_deal
  b_deal : Binds K d_deal ["rows"] []
  g_deal : mg "deal" = some (.ref f_deal)
  F_tied : Fun K "tied" "tied" s_tied f_tied d_tied
  b_tied : Binds K d_tied ["rows", "one", "other"] []
  g_tied : mg "tied" = some (.ref f_tied)
  F_heads_of : Fun K "heads_of" "heads_of" s_heads_of f_heads_of d_heads_of
  b_heads_of : Binds K d_heads_of ["walk"] []
  g_heads_of : mg "heads_of" = some (.ref f_heads_of)
  F_count_by : Fun K "count_by" "count_by" s_count_by f_count_by d_count_by
  b_count_by : Binds K d_count_by ["walk"] []
  g_count_by : mg "count_by" = some (.ref f_count_by)
  F_count : Fun K "count" "count" s_count f_count d_count
  b_count : Binds K d_count ["rows"] []
  g_count : mg "count" = some (.ref f_count)
  F_dealing : Fun K "dealing" "dealing" s_dealing f_dealing d_dealing
  b_dealing : Binds K d_dealing ["rows", "number"] []
  g_dealing : mg "dealing" = some (.ref f_dealing)
  F_number_of : Fun K "number_of" "number_of" s_number_of f_number_of d_number_of
  b_number_of : Binds K d_number_of ["rows", "sides"] []
  g_number_of : mg "number_of" = some (.ref f_number_of)
  F__law_copied : Fun K "_law_copied" "_law_copied" s__law_copied f__law_copied d__law_copied
  b__law_copied : Binds K d__law_copied ["_law_thing"] []
  g__law_copied : mg "_law_copied" = some (.ref f__law_copied)
  F__law_spoiled : Fun K "_law_spoiled" "_law_spoiled" s__law_spoiled f__law_spoiled d__law_spoiled
  b__law_spoiled : Binds K d__law_spoiled ["_law_thing"] []
  g__law_spoiled : mg "_law_spoiled" = some (.ref f__law_spoiled)
  F__law_laid : Fun K "_law_laid" "_law_laid" s__law_laid f__law_laid d__law_laid
  b__law_laid : Binds K d__law_laid ["_law_mine", "_law_other"] []
  g__law_laid : mg "_law_laid" = some (.ref f__law_laid)
  F__law_door_right : Fun K "_law_door_right" "_law_door_right" s__law_door_right f__law_door_right d__law_door_right
  b__law_door_right : Binds K d__law_door_right ["_law_ask", "_law_one", "_law_other"] []
  g__law_door_right : mg "_law_door_right" = some (.ref f__law_door_right)
  F__law_row : Fun K "_law_row" "_law_row" s__law_row f__law_row d__law_row
  b__law_row : Binds K d__law_row ["_law_cells", "_law_many", "_law_by"] []
  g__law_row : mg "_law_row" = some (.ref f__law_row)
  F__law_told : Fun K "_law_told" "_law_told" s__law_told f__law_told d__law_told
  b__law_told : Binds K d__law_told ["_law_found"] []
  g__law_told : mg "_law_told" = some (.ref f__law_told)
  F__law_free_right : Fun K "_law_free_right" "_law_free_right" s__law_free_right f__law_free_right d__law_free_right
  b__law_free_right : Binds K d__law_free_right ["_law_ask", "_law_holds_here", "_law_one", "_law_other"] []
  g__law_free_right : mg "_law_free_right" = some (.ref f__law_free_right)
  F__law_holds : Fun K "_law_holds" "_law_holds" s__law_holds f__law_holds d__law_holds
  b__law_holds : Binds K d__law_holds ["_law_found", "_law_rows", "_law_one", "_law_other"] []
  g__law_holds : mg "_law_holds" = some (.ref f__law_holds)
  F_law : Fun K "law" "law" s_law f_law d_law
  b_law : Binds K d_law ["_law_script"] []
  g_law : mg "law" = some (.ref f_law)
  dc_law : d_law.code = .ref cd_law
  k_Dealt_Answer : PySem.W.kitOne K (.ref C_Dealt) (.ref C_Answer) = some true
  k_Dealt_Dealt : PySem.W.kitOne K (.ref C_Dealt) (.ref C_Dealt) = some true
  k_Dealt_Ring : PySem.W.kitOne K (.ref C_Dealt) (.ref C_Ring) = some false
  k_Dealt_Chain : PySem.W.kitOne K (.ref C_Dealt) (.ref C_Chain) = some false
  k_Dealt_Free : PySem.W.kitOne K (.ref C_Dealt) (.ref C_Free) = some false
  k_Ring_Answer : PySem.W.kitOne K (.ref C_Ring) (.ref C_Answer) = some true
  k_Ring_Dealt : PySem.W.kitOne K (.ref C_Ring) (.ref C_Dealt) = some false
  k_Ring_Ring : PySem.W.kitOne K (.ref C_Ring) (.ref C_Ring) = some true
  k_Ring_Chain : PySem.W.kitOne K (.ref C_Ring) (.ref C_Chain) = some false
  k_Ring_Free : PySem.W.kitOne K (.ref C_Ring) (.ref C_Free) = some false
  k_Chain_Answer : PySem.W.kitOne K (.ref C_Chain) (.ref C_Answer) = some true
  k_Chain_Dealt : PySem.W.kitOne K (.ref C_Chain) (.ref C_Dealt) = some false
  k_Chain_Ring : PySem.W.kitOne K (.ref C_Chain) (.ref C_Ring) = some false
  k_Chain_Chain : PySem.W.kitOne K (.ref C_Chain) (.ref C_Chain) = some true
  k_Chain_Free : PySem.W.kitOne K (.ref C_Chain) (.ref C_Free) = some false
  k_Free_Answer : PySem.W.kitOne K (.ref C_Free) (.ref C_Answer) = some true
  k_Free_Dealt : PySem.W.kitOne K (.ref C_Free) (.ref C_Dealt) = some false
  k_Free_Ring : PySem.W.kitOne K (.ref C_Free) (.ref C_Ring) = some false
  k_Free_Chain : PySem.W.kitOne K (.ref C_Free) (.ref C_Chain) = some false
  k_Free_Free : PySem.W.kitOne K (.ref C_Free) (.ref C_Free) = some true
  sg1 : PySem.W.specialIn K (.builtin "object.__class__") "__get__" = some (some (.builtin "getset_descriptor.__get__"))
  sg2 : PySem.W.takesIn K (.builtin "object.__class__") = some true
  hc_Dealt : PySem.W.findIn K (.ref C_Dealt) "__class__" = some (some (.builtin "object.__class__"))
  ho_Dealt : PySem.W.mroIn K C_Dealt (.type "object") = some true
  hc_Ring : PySem.W.findIn K (.ref C_Ring) "__class__" = some (some (.builtin "object.__class__"))
  ho_Ring : PySem.W.mroIn K C_Ring (.type "object") = some true
  hc_Chain : PySem.W.findIn K (.ref C_Chain) "__class__" = some (some (.builtin "object.__class__"))
  ho_Chain : PySem.W.mroIn K C_Chain (.type "object") = some true
  hc_Free : PySem.W.findIn K (.ref C_Free) "__class__" = some (some (.builtin "object.__class__"))
  ho_Free : PySem.W.mroIn K C_Free (.type "object") = some true
/-- the built-in names that the top leaves as they are -/
structure Blt (mg : Str → Option Value) : Prop where
  len : mg "len" = none
  range : mg "range" = none
  list : mg "list" = none
  sum : mg "sum" = none
  all : mg "all" = none
  any : mg "any" = none
  sorted : mg "sorted" = none
  isinstance : mg "isinstance" = none
  int : mg "int" = none
  bool : mg "bool" = none
  enumerate : mg "enumerate" = none
  zip : mg "zip" = none
  abs : mg "abs" = none
  min : mg "min" = none
  max : mg "max" = none
  set : mg "set" = none
  str : mg "str" = none
  tuple : mg "tuple" = none
  ValueError : mg "ValueError" = none
section
variable {K : PySem.W.Frag} {mg : Str → Option Value}
/-- the tables of those that make lambdas -/
def tabs (T : Prog K mg) : List (Addr × Str) := [(T.tb_law, lamQ "law")]
theorem tabs_m_law (T : Prog K mg) : (T.tb_law, lamQ "law") ∈ tabs T := by simp [tabs]
theorem tabs_u_law (T : Prog K mg) : ∀ p ∈ tabs T, p.1 = T.tb_law → p.2 = lamQ "law" := by
  intro p hp e
  unfold tabs at hp
  simp only [List.mem_cons, List.not_mem_nil, or_false] at hp
  rcases hp with rfl
  · rfl
structure Tbs (T : Prog K mg) (base : Heap) : Prop where
  t_law : LamX.TabB base mg T.cd_law T.tb_law
end
local macro_rules | `(tactic| walk_at "go1") => `(tactic| first
  | (with_reducible refine go_seq ?_) | (with_reducible refine go_ret ?_) | (with_reducible refine go_drop ?_) | (with_reducible refine go_asg ?_) | (with_reducible refine go_next ?_) | (with_reducible refine go_name ?_)
  | (with_reducible refine go_op ?_) | (with_reducible refine go_c ?_) | (with_reducible refine go_un ?_) | (with_reducible refine go_U ?_) | (with_reducible refine go_I0 ?_) | (with_reducible refine go_eqI ?_) | (with_reducible refine go_neI ?_) | (with_reducible refine go_eqB ?_) | (with_reducible refine go_neB ?_)
  | (with_reducible refine go_chain ?_) | (with_reducible refine go_chK ?_) | (with_reducible refine go_test ?_) | (with_reducible refine go_tB ?_) | (with_reducible refine go_asB ?_) | (with_reducible refine go_and ?_) | (with_reducible refine go_or ?_) | (with_reducible refine go_not ?_)
  | (with_reducible refine go_andV ?_) | (with_reducible refine go_orV ?_) | (with_reducible refine go_notV ?_) | (with_reducible refine go_if ?_) | (with_reducible refine go_fld ?_) | (with_reducible refine go_cons ?_) | (with_reducible refine go_nil ?_) | (with_reducible refine go_tup ?_) | (with_reducible refine go_lst ?_)
  | (with_reducible refine go_call ?_) | (with_reducible refine go_CB ?_) | (with_reducible refine go_BM ?_) | (with_reducible refine go_BM0 ?_) | (with_reducible refine go_meth ?_) | (with_reducible refine go_make ?_) | (with_reducible refine go_sl ?_) | (with_reducible refine go_noPart ?_) | (with_reducible refine go_part ?_) | (with_reducible refine go_paK ?_)
  | (with_reducible refine go_rev ?_) | (with_reducible refine go_fset ?_) | (with_reducible refine go_par ?_) | (with_reducible refine go_prK ?_) | (with_reducible refine go_par3 ?_) | (with_reducible refine go_prK3 ?_) | (with_reducible refine go_sub ?_) | (with_reducible refine go_gcons ?_) | (with_reducible refine go_gnil ?_) | (with_reducible refine go_yes ?_)
  | (with_reducible refine go_notN ?_) | (with_reducible refine go_lstRg ?_) | (with_reducible refine go_rg1 ?_) | (with_reducible refine go_r1K ?_)
  | (with_reducible refine go_il ?_) | (with_reducible refine go_it ?_) | (with_reducible refine go_ir ?_) | (with_reducible refine go_ir2 ?_) | (with_reducible refine go_ir3 ?_) | (with_reducible refine go_ie ?_) | (with_reducible refine go_iz ?_) | (with_reducible refine go_for ?_) | (with_reducible refine go_lc ?_) | (with_reducible refine go_step ?_) | (with_reducible refine go_iz3 ?_) | (with_reducible refine go_lsB ?_) | (with_reducible refine go_lsN ?_) | (with_reducible refine go_dget ?_) | (with_reducible refine go_dput ?_)
  | ((with_reducible refine' go_var ?hv ?kv); (case hv => exact rfl))
  | ((with_reducible refine' go_len ?hv ?kv); (case hv => first | assumption | exact sqL_of (by assumption)))
  | ((with_reducible refine' go_bmL ?hv ?kv); (case hv => first | assumption | exact sqL_of (by assumption)))
  | ((with_reducible refine' go_ilK ?hv ?kv); (case hv => first | assumption | exact sqL_of (by assumption)))
  | ((with_reducible refine' go_ieK ?hv ?kv); (case hv => first | assumption | exact sqL_of (by assumption)))
  | (with_reducible refine iteT ?_) | (with_reducible refine iteF ?_)
  | (with_reducible refine go_nx ?_) | (with_reducible refine go_rt ?_))
local macro_rules | `(tactic| walk_at "go") => `(tactic| repeat walk_at "go1")
section
variable {P : Program} {w : World} {K : PySem.W.Frag} {mg : Str → Option Value} {base : Heap}
/-- is_number: of an int True -/
def sp_is_number (K : PySem.W.Frag) : Sp := fun vs H Q _ => ∃ i : Int, vs = [.int i] ∧ Q (.bl true) H
theorem ok_is_number (T : Prog K mg) (B : Blt mg) : FnOk P w K mg base CX0 1 T.f_is_number T.d_is_number ["thing"] (sp_is_number K) := by
  refine T.F_is_number.ok sc_is_number (fun vs H Q E h => ?_) (fun cdv A outer s H vs Q E hr h => ?_)
  · obtain ⟨i, rfl, _⟩ := h
    rfl
  · obtain ⟨i, rfl, k⟩ := h
    refine ⟨_, pss_one (ps_ret (pe_and (pe_callB (cIsi K) (by rfl) B.isinstance (by decide +kernel) (pa_cons (pv 0) (pa_cons (pe_bltn (v := .ty "int") (by rfl) B.int (by decide +kernel) rfl) pa_nil))) (pe_one (pe_not (pe_callB (cIsi K) (by rfl) B.isinstance (by decide +kernel) (pa_cons (pv 0) (pa_cons (pe_bltn (v := .ty "bool") (by rfl) B.bool (by decide +kernel) rfl) pa_nil))))))), ?_⟩

    walk_at "go"
    refine go_isi (b := true) (.ty "int") (.base (.int i)) (kit_ty (by decide +kernel)) ?_
    walk_at "go"
    refine go_isi (b := false) (.ty "bool") (.base (.int i)) (kit_ty (by decide +kernel)) ?_
    walk_at "go"
    exact k
def sp_is_pair (K : PySem.W.Frag) : Sp := fun vs H Q _ => ∃ (a : Addr) (rs : List (List Nat)) (k x y : Int), vs = [.ref a, .int k, .int x, .int y] ∧ RowsAt K H a rs ∧ ∀ H', Same H H' → Q (.bl (isPair rs k x y)) H'
theorem ok_is_pair (T : Prog K mg) (B : Blt mg) : FnOk P w K mg base CX0 1 T.f_is_pair T.d_is_pair ["rows", "place", "one", "other"] (sp_is_pair K) := by
  refine T.F_is_pair.ok sc_is_pair (fun vs H Q E h => ?_) (fun cdv A outer s H vs Q E hr h => ?_)
  · obtain ⟨a, rs, k, x, y, rfl, _⟩ := h
    rfl
  · obtain ⟨a, rs, pl, x, y, rfl, hR, k⟩ := h
    refine ⟨_, pss_cons (ps_if (PW.pt (pw_or (pt_not (pt_chain op_le op_lt pe_int (pv 1) (pe_callB (cLen K) (by rfl) B.len (by decide +kernel) (pa_cons (pv 0) pa_nil)))) (pw_or (pt_cmpR (oNotIn K) (pv 2) (pe_ix (ixl K) (pv 0) (pv 1) (fun _ _ => rfl)) (by rfl)) (pw_or1 (pt_cmpR (oNotIn K) (pv 3) (pe_ix (ixl K) (pv 0) (pv 1) (fun _ _ => rfl)) (by rfl)))))) (pss_one (ps_ret pe_bl)) pss_nil)
      (pss_cons (ps_par (i := 4) (j := 5) (by rfl) sc_is_pair.nd rfl rfl (by decide) rfl rfl (pa_cons (eBm K PySem.F.plainAttrs_list PySem.F.slot_list_index PySem.F.type_list_index (mIndex K) (pe_ix (ixl K) (pv 0) (pv 1) (fun _ _ => rfl)) (pa_cons (pv 2) pa_nil)) (pa_cons (eBm K PySem.F.plainAttrs_list PySem.F.slot_list_index PySem.F.type_list_index (mIndex K) (pe_ix (ixl K) (pv 0) (pv 1) (fun _ _ => rfl)) (pa_cons (pv 3) pa_nil)) pa_nil)) (by rfl))
      (pss_one (ps_ret (pe_and (pe_cmpR op_ne (pv 4) (pv 5) (nomark _)) (pe_one (pe_cmpR op_eq (pe_op op_fdiv (pv 4) pe_int) (pe_op op_fdiv (pv 5) pe_int) (nomark _))))))), ?_⟩

    obtain ⟨xs, hA, hlen, hrow⟩ := id hR
    refine go_seq (cut_ifS (!(decide (0 ≤ pl ∧ pl < (rs.length : Int)) && (inN (rs.getD pl.toNat []) x && inN (rs.getD pl.toNat []) y))) (fun QB q => ?_) (fun H2 s2 => ?_))
    · walk_at "go"
      by_cases h0 : 0 ≤ pl
      · refine if_yes (decide_eq_true h0) ?_
        walk_at "go"
        rw [hlen]
        by_cases h1 : pl < (rs.length : Int)
        · refine if_no (by simp [h1]) ?_
          obtain ⟨p, hp, hr1⟩ := hrow pl.toNat (by omega)
          have ha : atI xs pl = some (.ref p) := at_of (j := pl.toNat) (by omega) hp
          generalize rs.getD pl.toNat [] = r at q hr1
          walk_at "go"
          refine go_ixL hA ha (go_nin hr1 rfl (flat_nv _) ?_)
          walk_at "go"
          rw [in_nv]
          refine if_by (fun hb => ?_) (fun hb => ?_)
          · exact leaf q (by simp at hb; simp [hb]) (Same.refl _)
          · walk_at "go"
            refine go_ixL hA ha (go_nin hr1 rfl (flat_nv _) ?_)
            walk_at "go"
            rw [in_nv]
            exact leaf q (by simp at hb; simp [hb, h0, h1]) (Same.refl _)
        · refine if_yes (by simp [h1]) ?_
          exact leaf q (by simp [h1]) (Same.refl _)
      · refine if_no (decide_eq_false h0) ?_
        walk_at "go"
        exact leaf q (by simp [h0]) (Same.refl _)
    · refine if_by (fun hb => ?_) (fun hb => ?_)
      · walk_at "go"
        have e : isPair rs pl x y = false := by
          unfold isPair
          by_cases h0 : 0 ≤ pl ∧ pl < (rs.length : Int)
          · rw [if_pos h0]
            by_cases h1 : inN (rs.getD pl.toNat []) x = true
            · rw [if_pos h1]
              by_cases h2 : inN (rs.getD pl.toNat []) y = true
              · exact absurd hb (by rw [decide_eq_true h0, h1, h2]; decide)
              · rw [if_neg h2]
            · rw [if_neg h1]
          · rw [if_neg h0]
        rw [e] at k
        exact k H2 s2
      · have hb : (decide (0 ≤ pl ∧ pl < (rs.length : Int)) && (inN (rs.getD pl.toNat []) x && inN (rs.getD pl.toNat []) y)) = true := by simpa using hb
        rw [Bool.and_eq_true, Bool.and_eq_true, decide_eq_true_eq] at hb
        obtain ⟨h0, h1, h2⟩ := hb
        obtain ⟨p, hp, hr1⟩ := hrow pl.toNat (by omega)
        have ha : atI xs pl = some (.ref p) := at_of (j := pl.toNat) (by omega) hp
        have hA2 := s2.seq hA
        have hr2 := s2.seq hr1
        walk_at "go"
        refine go_ixL hA2 ha ?_
        walk_at "go"
        refine go_ixN hr2 h1 ?_
        walk_at "go"
        refine go_ixL hA2 ha ?_
        walk_at "go"
        refine go_ixN hr2 h2 ?_
        walk_at "go"
        have e : isPair rs pl x y = ((!decide (ixO (rs.getD pl.toNat []) x = ixO (rs.getD pl.toNat []) y)) && decide (ixO (rs.getD pl.toNat []) x / 2 = ixO (rs.getD pl.toNat []) y / 2)) := by
          unfold isPair
          rw [if_pos h0, if_pos h1, if_pos h2]
        rw [e] at k
        refine if_by (fun hb => ?_) (fun hb => ?_)
        · have hn : ixO (rs.getD pl.toNat []) x ≠ ixO (rs.getD pl.toNat []) y := fun e => by rw [e, decide_eq_true rfl] at hb; cases hb
          walk_at "go"
          refine go_I ⟨by decide, by decide⟩ ?_
          walk_at "go"
          refine go_I ⟨by decide, by decide⟩ ?_
          walk_at "go"
          have e2 : decide (((ixO (rs.getD pl.toNat []) x : Nat) : Int) / 2 = ((ixO (rs.getD pl.toNat []) y : Nat) : Int) / 2) = decide (ixO (rs.getD pl.toNat []) x / 2 = ixO (rs.getD pl.toNat []) y / 2) := by
            rw [Bool.eq_iff_iff, decide_eq_true_eq, decide_eq_true_eq]
            omega
          rw [e2]
          rw [decide_eq_false hn] at k
          exact k H2 s2
        · have hn : ixO (rs.getD pl.toNat []) x = ixO (rs.getD pl.toNat []) y := Int.ofNat.inj (of_decide_eq_true (by rw [Bool.not_eq_false'] at hb; exact hb))
          rw [decide_eq_true hn] at k
          exact k H2 s2
def sp_is_chain (K : PySem.W.Frag) : Sp := fun vs H Q _ => ∃ (a tl pl : Addr) (rs : List (List Nat)) (n : Nat) (ts ps : List Int), vs = [.ref a, .ref tl, .ref pl] ∧ RowsAt K H a rs ∧ 0 < rs.length ∧ (rs.getD 0 []).length = n ∧
  SqL K H tl (ts.map V.int) ∧ SqL K H pl (ps.map V.int) ∧ ts.length ≤ 100000 ∧ ps.length ≤ 100000 ∧ ∀ H', Same H H' → Q (.bl (isChain n rs ts ps)) H'
theorem ok_is_chain (T : Prog K mg) (B : Blt mg) : FnOk P w K mg base CX0 2 T.f_is_chain T.d_is_chain ["rows", "things", "places"] (sp_is_chain K) := by
  have G_is_pair := ok_is_pair (P := P) (w := w) (base := base) T B
  refine T.F_is_chain.ok sc_is_chain (fun vs H Q E h => ?_) (fun cdv A outer s H vs Q E hr h => ?_)
  · obtain ⟨a, tl, pl, rs, n, ts, ps, rfl, _⟩ := h
    rfl
  · obtain ⟨a, tl, pl, rs, n, ts, ps, rfl, hR, h0, hn, hT, hP, lt, lp, k⟩ := h
    refine ⟨_, pss_cons (ps_if (PW.pt (pw_or (pt_cmpR (oEqD K hr.units) (pv 1) (pe_lst pa_nil) (nomark _)) (pw_or1 (pt_cmpR op_ne (pe_callB (cLen K) (by rfl) B.len (by decide +kernel) (pa_cons (pv 2) pa_nil)) (pe_op op_sub (pe_callB (cLen K) (by rfl) B.len (by decide +kernel) (pa_cons (pv 1) pa_nil)) pe_int) (nomark _))))) (pss_one (ps_ret pe_bl)) pss_nil)
      (pss_cons (ps_if (pt_not (pt_val (pe_callB (cAll K) (by rfl) B.all (by decide +kernel) (pa_cons (pe_lc (own := [("thing", 4)]) (by rfl) sc_is_chain.nd (iLst K (pv 1)) (blkOk_by (own := [("thing", 4)]) (N := N_is_chain) (sc := defScope s_is_chain) (by decide +kernel)) (fun _ _ _ _ _ => (pg_name (i := 4) sc_is_chain.nd rfl (by first | exact .inl rfl | exact .inr rfl))) (fun _ _ _ _ _ => pts_nil) (fun _ _ _ _ _ => (pe_chain op_le op_lt pe_int (pv 4) (pe_callB (cLen K) (by rfl) B.len (by decide +kernel) (pa_cons (pe_ix (ixl K) (pv 0) pe_int (fun _ _ => rfl)) pa_nil))))) pa_nil)))) (pss_one (ps_ret pe_bl)) pss_nil)
      (pss_one (ps_ret (pe_callB (cAll K) (by rfl) B.all (by decide +kernel) (pa_cons (pe_lc (own := [("at", 3)]) (by rfl) sc_is_chain.nd (pi_range1 (by rfl) B.range (pa_cons (pe_callB (cLen K) (by rfl) B.len (by decide +kernel) (pa_cons (pv 2) pa_nil)) pa_nil)) (blkOk_by (own := [("at", 3)]) (N := N_is_chain) (sc := defScope s_is_chain) (by decide +kernel)) (fun _ _ _ _ _ => (pg_name (i := 3) sc_is_chain.nd rfl (by first | exact .inl rfl | exact .inr rfl))) (fun _ _ _ _ _ => pts_nil) (fun _ _ _ _ _ => (pe_call G_is_pair (hr.mono (by decide)) (by rfl) T.g_is_pair T.F_is_pair.kp T.b_is_pair .nil pass0 (pa_cons (pv 0) (pa_cons (pe_ix (ixl K) (pv 2) (pv 3) (fun _ _ => rfl)) (pa_cons (pe_ix (ixl K) (pv 1) (pv 3) (fun _ _ => rfl)) (pa_cons (pe_ix (ixl K) (pv 1) (pe_op op_add (pv 3) pe_int) (fun _ _ => rfl)) pa_nil))))))) pa_nil))))), ?_⟩

    refine go_seq (cut_ifS (decide (ts = [] ∨ ps.length + 1 ≠ ts.length)) (fun QB q => ?_) (fun H2 s2 => ?_))
    · walk_at "go"
      refine go_lstK (Nat.zero_le _) fun p H1 np s1 e1 => ?_
      have hT1 := s1.seq hT
      have hP1 := s1.seq hP
      refine go_eqL (m := []) hT1 (sqL_of e1) ?_
      walk_at "go"
      refine if_by (fun hb => ?_) (fun hb => ?_)
      · exact leaf q (by rw [decide_eq_true_eq] at hb; simp [hb]) s1
      · walk_at "go"
        refine leaf q ?_ s1
        have hb : ¬ ts = [] := of_decide_eq_false hb
        rw [Bool.eq_iff_iff, decide_eq_true_eq, List.length_map, List.length_map, Bool.not_eq_true', decide_eq_false_iff_not]
        have : ts.length ≠ 0 := fun e => hb (List.length_eq_zero_iff.mp e)
        constructor
        · rintro (h | h)
          · exact absurd h hb
          · omega
        · intro h
          exact .inr (by omega)
    · refine if_by (fun hb => ?_) (fun hb => ?_)
      · rw [decide_eq_true_eq] at hb
        have e : isChain n rs ts ps = false := by unfold isChain; rw [if_pos hb]
        rw [e] at k
        walk_at "go"
        exact k H2 s2
      · have hb : ¬ (ts = [] ∨ ps.length + 1 ≠ ts.length) := of_decide_eq_false hb
        walk_at "go"
        refine cut_ifS (!ts.all (inR n)) (fun QB q => ?_) (fun H3 s3 => ?_)
        · have hT2 := s2.seq hT
          walk_at "go"
          refine go_lcP (walk_list (xs := ts.map V.int)) (by rw [List.length_map]; exact lt) (fun i => .bl (inR n (ts.getD i 0))) (fun H' s' => s'.seq hT2) ?_ fun D H' nD s' e' => ?_
          · rintro i x H3 H' R hi s3 ⟨rfl, hx⟩ hk
            rw [List.length_map] at hi
            have ex : V.int (ts.getD i 0) = x := Option.some.inj ((iv_get hi).symm.trans hx)
            subst ex
            refine ⟨rfl, ?_⟩
            obtain ⟨xs, p, hA, hlen, hat, hp⟩ := rows0 (hR.same (s2.trans s3)) h0
            unfold inR at hk
            walk_at "go"
            refine if_by (fun hc => ?_) (fun hc => ?_)
            · walk_at "go"
              refine go_ixL hA hat ?_
              walk_at "go"
              rw [nv_len, hn]
              rw [hc, Bool.true_and] at hk
              exact hk _ (Same.refl _)
            · rw [hc, Bool.false_and] at hk
              exact hk _ (Same.refl _)
          · walk_at "go"
            refine go_all (sq_bls e') ?_
            walk_at "go"
            rw [all_map_id, List.length_map, range_all]
            exact q _ s'
        · refine if_by (fun hc => ?_) (fun hc => ?_)
          · have e : isChain n rs ts ps = false := by
              unfold isChain
              rw [if_neg hb, if_neg (by intro z; rw [z] at hc; cases hc)]
            rw [e] at k
            walk_at "go"
            exact k H3 (s2.trans s3)
          · have hc : ts.all (inR n) = true := by simpa using hc
            have e : isChain n rs ts ps = (List.range ps.length).all fun i => isPair rs (ps.getD i 0) (ts.getD i 0) (ts.getD (i + 1) 0) := by
              unfold isChain
              rw [if_neg hb, if_pos hc]
            have hl : ps.length + 1 = ts.length := by
              by_cases z : ps.length + 1 = ts.length
              · exact z
              · exact absurd (.inr z) hb
            have s23 := s2.trans s3
            have hT3 := s23.seq hT
            have hP3 := s23.seq hP
            walk_at "go"
            refine go_irK (by rw [List.length_map]; exact lp) ?_
            refine go_lcP (walk_range (lo := 0)) (by rw [List.length_map]; exact lp) (fun i => .bl (isPair rs (ps.getD i 0) (ts.getD i 0) (ts.getD (i + 1) 0))) (fun _ _ => trivial) ?_ fun D H' nD s' e' => ?_
            · rintro i x H4 H' R hi s4 ⟨rfl, rfl⟩ hk
              rw [List.length_map] at hi
              have hT4 := s4.seq hT3
              have hP4 := s4.seq hP3
              refine ⟨rfl, ?_⟩
              walk_at "go"
              refine go_ixL hP4 (iv_at (i := i) (by omega) hi) ?_
              walk_at "go"
              refine go_ixL hT4 (iv_at (i := i) (by omega) (by omega)) ?_
              walk_at "go"
              refine go_ixL hT4 (iv_at (i := i + 1) (by omega) (by omega)) ?_
              walk_at "go"
              exact ⟨a, rs, _, _, _, rfl, hR.same (s23.trans s4), fun H5 s5 => hk _ s5⟩
            · walk_at "go"
              refine go_all (sq_bls e') ?_
              rw [all_map_id, List.length_map]
              rw [e] at k
              exact k _ (s23.trans s')
def sp_is_even (K : PySem.W.Frag) : Sp := fun vs H Q _ => ∃ (a sl : Addr) (rs : List (List Nat)) (n : Nat) (d : List Int), vs = [.ref a, .ref sl] ∧ RowsAt K H a rs ∧ Good n rs ∧ n ≤ 100000 ∧
  SqL K H sl (d.map V.int) ∧ d.length ≤ 100000 ∧ ∀ H', Same H H' → Q (.bl (isEven n rs d)) H'
theorem ok_is_even (T : Prog K mg) (B : Blt mg) : FnOk P w K mg base CX0 1 T.f_is_even T.d_is_even ["rows", "sides"] (sp_is_even K) := by
  refine T.F_is_even.ok sc_is_even (fun vs H Q E h => ?_) (fun cdv A outer s H vs Q E hr h => ?_)
  · obtain ⟨a, sl, rs, n, d, rfl, _⟩ := h
    rfl
  · obtain ⟨a, sl, rs, n, d, rfl, hR, G, ln, hD, ld, k⟩ := h
    refine ⟨_, pss_cons (ps_if (PW.pt (pw_or (pt_cmpR op_ne (pe_callB (cLen K) (by rfl) B.len (by decide +kernel) (pa_cons (pv 1) pa_nil)) (pe_callB (cLen K) (by rfl) B.len (by decide +kernel) (pa_cons (pe_ix (ixl K) (pv 0) pe_int (fun _ _ => rfl)) pa_nil)) (nomark _)) (pw_or1 (pt_not (pt_val (pe_callB (cAll K) (by rfl) B.all (by decide +kernel) (pa_cons (pe_lc (own := [("side", 4)]) (by rfl) sc_is_even.nd (iLst K (pv 1)) (blkOk_by (own := [("side", 4)]) (N := N_is_even) (sc := defScope s_is_even) (by decide +kernel)) (fun _ _ _ _ _ => (pg_name (i := 4) sc_is_even.nd rfl (by first | exact .inl rfl | exact .inr rfl))) (fun _ _ _ _ _ => pts_nil) (fun _ _ _ _ _ => (pe_cmpR (oIn K) (pv 4) (pe_tup (pa_cons pe_int (pa_cons pe_int pa_nil))) (by rfl)))) pa_nil))))))) (pss_one (ps_ret pe_bl)) pss_nil)
      (pss_cons (ps_for PassesOwn.never rfl (iLst K (pv 0)) (pg_name (i := 2) sc_is_even.nd rfl (.inr rfl))
        (pss_one (ps_if (pt_val (pe_callB (cAny K) (by rfl) B.any (by decide +kernel) (pa_cons (pe_lc (own := [("at", 3)]) (by rfl) sc_is_even.nd (pi_range3 (by rfl) B.range (pa_cons pe_int (pa_cons (pe_callB (cLen K) (by rfl) B.len (by decide +kernel) (pa_cons (pv 2) pa_nil)) (pa_cons pe_int pa_nil)))) (blkOk_by (own := [("at", 3)]) (N := N_is_even) (sc := defScope s_is_even) (by decide +kernel)) (fun _ _ _ _ _ => (pg_name (i := 3) sc_is_even.nd rfl (by first | exact .inl rfl | exact .inr rfl))) (fun _ _ _ _ _ => pts_nil) (fun _ _ _ _ _ => (pe_cmpR op_eq (pe_ix (ixl K) (pv 1) (pe_ix (ixl K) (pv 2) (pe_op op_sub (pv 3) pe_int) (fun _ _ => rfl)) (fun _ _ => rfl)) (pe_ix (ixl K) (pv 1) (pe_ix (ixl K) (pv 2) (pv 3) (fun _ _ => rfl)) (fun _ _ => rfl)) (nomark _)))) pa_nil))) (pss_one (ps_ret pe_bl)) pss_nil)))
      (pss_one (ps_ret pe_bl))), ?_⟩

    have h0 : 0 < rs.length := List.length_pos_iff.mpr G.ne
    have hn0 : (rs.getD 0 []).length = n := G.len (Good.at_mem h0)
    refine go_seq (cut_ifS (!decide (d.length = n ∧ d.all is01 = true)) (fun QB q => ?_) (fun H2 s2 => ?_))
    · obtain ⟨xs, p, hA, hlen, hat, hp⟩ := rows0 hR h0
      walk_at "go"
      refine go_ixL hA hat ?_
      walk_at "go"
      rw [nv_len, hn0, List.length_map]
      refine if_by (fun hb => ?_) (fun hb => ?_)
      · refine leaf q ?_ (Same.refl _)
        have : ¬ (d.length : Int) = (n : Int) := by simpa using hb
        rw [decide_eq_false (fun z => this (by rw [z.1]))]
        rfl
      · have hb : d.length = n := by
          have : (d.length : Int) = (n : Int) := by simpa using hb
          omega
        walk_at "go"
        refine go_lcP (walk_list (xs := d.map V.int)) (by rw [List.length_map]; exact ld) (fun i => .bl (is01 (d.getD i 0))) (fun H' s' => s'.seq hD) ?_ fun D H' nD s' e' => ?_
        · rintro i x H3 H' R hi s3 ⟨rfl, hx⟩ hk
          rw [List.length_map] at hi
          have ex : V.int (d.getD i 0) = x := Option.some.inj ((iv_get hi).symm.trans hx)
          subst ex
          refine ⟨rfl, ?_⟩
          walk_at "go"
          refine go_tupK (by show 2 ≤ sizeLine; decide) fun p H4 np s4 e4 => ?_
          refine go_isinT (sqT_of e4) rfl rfl ?_
          rw [in01]
          exact hk _ s4
        · walk_at "go"
          refine go_all (sq_bls e') ?_
          walk_at "go"
          rw [all_map_id, List.length_map, range_all]
          refine leaf q ?_ s'
          rw [Bool.eq_iff_iff]
          simp [hb]
    · refine if_by (fun hb => ?_) (fun hb => ?_)
      · have hb : ¬ (d.length = n ∧ d.all is01 = true) := of_decide_eq_false (not_tt hb)
        have e : isEven n rs d = false := by unfold isEven; rw [if_neg hb]
        rw [e] at k
        walk_at "go"
        exact k H2 s2
      · have hb : d.length = n ∧ d.all is01 = true := of_decide_eq_true (not_ff hb)
        have e : isEven n rs d = rs.all fun r => !rowBad r d := by unfold isEven; rw [if_pos hb]
        obtain ⟨xs, hA, hlen, hrow⟩ := hR.same s2
        have hD2 := s2.seq hD
        walk_at "go"
        refine go_fK (walk_list (xs := xs)) (fun i σ H' => ∃ v2, σ = [some (.ref a), some (.ref sl), v2, none, none] ∧ Same H2 H' ∧ ∀ k, k < i → rowBad (rs.getD k []) d = false)
          ⟨none, rfl, Same.refl _, fun k hk => absurd hk (by omega)⟩ (fun i σ H' _ ⟨_, _, s', _⟩ => s'.seq hA) ?_ ?_
        · rintro i x σ H3 H' hi ⟨v2, rfl, s3, hbad⟩ ⟨rfl, hx⟩
          obtain ⟨p, ep, hp⟩ := hrow i (by omega)
          have ex : V.ref p = x := Option.some.inj (ep.symm.trans hx)
          subst ex
          have hm : rs.getD i [] ∈ rs := Good.at_mem (by omega)
          have hl := G.len hm
          have hlt : ∀ j, j < n → (rs.getD i []).getD j 0 < n := fun j hj => G.lt hm hj
          generalize hr0 : rs.getD i [] = r at hp hl hlt
          have hp3 := s3.seq hp
          have hD3 := s3.seq hD2
          refine go_name (cut_ifS (rowBad r d) (fun QB q => ?_) (fun H4 s4 => ?_))
          · walk_at "go"
            rw [nv_len]
            refine go_irK3 (rg_odd (by omega)) ?_
            refine go_lcP walk_rangeC (by omega) (fun j => .bl (decide (d.getD (r.getD (2 * j) 0) 0 = d.getD (r.getD (2 * j + 1) 0) 0))) (fun _ _ => trivial) ?_ fun D H' nD s' e' => ?_
            · rintro j x H5 H' R hj s5 ⟨rfl, rfl⟩ hk
              have hp5 := s5.seq hp3
              have hD5 := s5.seq hD3
              refine ⟨rfl, ?_⟩
              walk_at "go"
              refine go_ixL hp5 (nv_at (i := 2 * j) (by omega) (by omega)) ?_
              refine go_ixL hD5 (iv_at rfl (by rw [hb.1]; exact hlt _ (by omega))) ?_
              walk_at "go"
              refine go_ixL hp5 (nv_at (i := 2 * j + 1) (by omega) (by omega)) ?_
              refine go_ixL hD5 (iv_at rfl (by rw [hb.1]; exact hlt _ (by omega))) ?_
              walk_at "go"
              exact hk _ (Same.refl _)
            · walk_at "go"
              refine go_any (sq_bls e') ?_
              walk_at "go"
              rw [any_map_id]
              exact q _ s'
          · refine if_by (fun hc => ?_) (fun hc => ?_)
            · have e2 : isEven n rs d = false := by
                rw [e]
                rw [List.all_eq_false]
                exact ⟨_, hm, by rw [hr0, hc]; simp⟩
              rw [e2] at k
              walk_at "go"
              exact k H4 ((s2.trans s3).trans s4)
            · walk_at "go"
              refine ⟨some (.ref p), rfl, s3.trans s4, fun k hk => ?_⟩
              by_cases ek : k = i
              · rw [ek, hr0]; exact hc
              · exact hbad k (by omega)
        · rintro σ H3 ⟨v2, rfl, s3, hbad⟩
          have e2 : isEven n rs d = true := by
            rw [e, List.all_eq_true]
            intro r hr
            obtain ⟨i, hi, rfl⟩ := List.getElem_of_mem hr
            have := hbad i (by omega)
            rw [List.getD_eq_getElem?_getD, List.getElem?_eq_getElem hi] at this
            simpa using this
          rw [e2] at k
          walk_at "go"
          exact k H3 (s2.trans s3)
def sp_Dealt_init (K : PySem.W.Frag) (C : Addr) : Sp := fun vs H Q _ => ∃ (x dx a : Addr) (xs : List V), vs = [.ref x, .ref a] ∧ H x = some (.ins C dx []) ∧ SqL K H a xs ∧
  ∀ l H', H l = none → But x H H' → H' x = some (.ins C dx (f1 "sides" l)) → H' l = some (.lst xs) → Q .non H'
theorem ok_Dealt_init (T : Prog K mg) (B : Blt mg) : FnOk P w K mg base CX0 1 T.f_Dealt_init T.d_Dealt_init ["self", "sides"] (sp_Dealt_init K T.C_Dealt) := by
  refine T.F_Dealt_init.ok sc_Dealt_init (fun vs H Q E h => ?_) (fun cdv A outer s H vs Q E hr h => ?_)
  · obtain ⟨x, dx, a, xs, rfl, _⟩ := h
    rfl
  · obtain ⟨x, dx, a, xs, rfl, hx, hS, k⟩ := h
    refine ⟨_, pss_one (sFldS K (pv 0) (pe_callTy (cList K) (by rfl) B.list (by decide +kernel) (pa_cons (pv 1) pa_nil))), ?_⟩

    walk_at "go"
    refine go_list hS fun l H1 nl s1 e1 => ?_
    walk_at "go"
    refine go_fsK (s1 _ _ hx) T.cDealt T.n_Dealt_sides (by show 0 < 1000; decide) ?_
    walk_at "go"
    have nlx : l ≠ x := fun e => by rw [e, hx] at nl; cases nl
    exact k l _ nl (fun b o e hb => by rw [upd_ne hb]; exact s1 _ _ e) upd_same (by rw [upd_ne nlx]; exact e1)
def sp_Ring_init (K : PySem.W.Frag) (C : Addr) : Sp := fun vs H Q _ => ∃ (x dx a b : Addr) (xs ys : List V), vs = [.ref x, .ref a, .ref b] ∧ H x = some (.ins C dx []) ∧ SqL K H a xs ∧ SqL K H b ys ∧
  ∀ l m H', H l = none → H m = none → l ≠ m → But x H H' → H' x = some (.ins C dx (f2 "things" "places" l m)) → H' l = some (.lst xs) → H' m = some (.lst ys) → Q .non H'
theorem ok_Ring_init (T : Prog K mg) (B : Blt mg) : FnOk P w K mg base CX0 1 T.f_Ring_init T.d_Ring_init ["self", "things", "places"] (sp_Ring_init K T.C_Ring) := by
  refine T.F_Ring_init.ok sc_Ring_init (fun vs H Q E h => ?_) (fun cdv A outer s H vs Q E hr h => ?_)
  · obtain ⟨x, dx, a, b, xs, ys, rfl, _⟩ := h
    rfl
  · obtain ⟨x, dx, a, b, xs, ys, rfl, hx, hA, hB, k⟩ := h
    refine ⟨_, pss_cons (sFldS K (pv 0) (pe_callTy (cList K) (by rfl) B.list (by decide +kernel) (pa_cons (pv 1) pa_nil)))
      (pss_one (sFldS K (pv 0) (pe_callTy (cList K) (by rfl) B.list (by decide +kernel) (pa_cons (pv 2) pa_nil)))), ?_⟩

    walk_at "go"
    refine go_list hA fun l H1 nl s1 e1 => ?_
    walk_at "go"
    refine go_fsK (s1 _ _ hx) T.cRing T.n_Ring_things (by show 0 < 1000; decide) ?_
    have nlx : l ≠ x := fun e => by rw [e, hx] at nl; cases nl
    have hB1 : SqL K (upd H1 x (.ins T.C_Ring dx (putF "things" (.ref l) []))) b ys := by
      rcases hB with (h | ⟨o, h⟩) | h
      · exact .inl (.inl (by rw [upd_ne (ne_of h hx (by intro z; cases z))]; exact s1 _ _ h))
      · exact .inl (.inr ⟨o, by rw [upd_ne (ne_of h hx (by intro z; cases z))]; exact s1 _ _ h⟩)
      · exact .inr h
    walk_at "go"
    refine go_list hB1 fun m H2 nm s2 e2 => ?_
    walk_at "go"
    have hx2 : H2 x = some (.ins T.C_Ring dx (putF "things" (.ref l) [])) := s2 _ _ upd_same
    refine go_fsK hx2 T.cRing T.n_Ring_places (by show 1 < 1000; decide) ?_
    walk_at "go"
    have nmx : m ≠ x := fun e => by rw [e, upd_same] at nm; cases nm
    have hl1 : upd H1 x (.ins T.C_Ring dx (putF "things" (.ref l) [])) l = some (.lst xs) := by rw [upd_ne nlx]; exact e1
    have nml : l ≠ m := ne_of_none hl1 nm
    have nm0 : H m = none := by
      rw [upd_ne nmx] at nm
      exact s1.free nm
    have ef : putF "places" (.ref m) (putF "things" (.ref l) []) = f2 "things" "places" l m := by
      rw [pf_nil, pf_ne (by decide +kernel), pf_nil]
      rfl
    refine k l m _ nl nm0 nml (fun c o e hc => ?_) (by rw [ef]; exact upd_same) ?_ ?_
    · rw [upd_ne hc]
      exact s2 _ _ (by rw [upd_ne hc]; exact s1 _ _ e)
    · rw [upd_ne nlx]
      exact s2 _ _ hl1
    · rw [upd_ne nmx]
      exact e2
def sp_Chain_init (K : PySem.W.Frag) (C : Addr) : Sp := fun vs H Q _ => ∃ (x dx a b : Addr) (xs ys : List V), vs = [.ref x, .ref a, .ref b] ∧ H x = some (.ins C dx []) ∧ SqL K H a xs ∧ SqL K H b ys ∧
  ∀ l m H', H l = none → H m = none → l ≠ m → But x H H' → H' x = some (.ins C dx (f2 "things" "places" l m)) → H' l = some (.lst xs) → H' m = some (.lst ys) → Q .non H'
theorem ok_Chain_init (T : Prog K mg) (B : Blt mg) : FnOk P w K mg base CX0 1 T.f_Chain_init T.d_Chain_init ["self", "things", "places"] (sp_Chain_init K T.C_Chain) := by
  refine T.F_Chain_init.ok sc_Chain_init (fun vs H Q E h => ?_) (fun cdv A outer s H vs Q E hr h => ?_)
  · obtain ⟨x, dx, a, b, xs, ys, rfl, _⟩ := h
    rfl
  · obtain ⟨x, dx, a, b, xs, ys, rfl, hx, hA, hB, k⟩ := h
    refine ⟨_, pss_cons (sFldS K (pv 0) (pe_callTy (cList K) (by rfl) B.list (by decide +kernel) (pa_cons (pv 1) pa_nil)))
      (pss_one (sFldS K (pv 0) (pe_callTy (cList K) (by rfl) B.list (by decide +kernel) (pa_cons (pv 2) pa_nil)))), ?_⟩

    walk_at "go"
    refine go_list hA fun l H1 nl s1 e1 => ?_
    walk_at "go"
    refine go_fsK (s1 _ _ hx) T.cChain T.n_Chain_things (by show 0 < 1000; decide) ?_
    have nlx : l ≠ x := fun e => by rw [e, hx] at nl; cases nl
    have hB1 : SqL K (upd H1 x (.ins T.C_Chain dx (putF "things" (.ref l) []))) b ys := by
      rcases hB with (h | ⟨o, h⟩) | h
      · exact .inl (.inl (by rw [upd_ne (ne_of h hx (by intro z; cases z))]; exact s1 _ _ h))
      · exact .inl (.inr ⟨o, by rw [upd_ne (ne_of h hx (by intro z; cases z))]; exact s1 _ _ h⟩)
      · exact .inr h
    walk_at "go"
    refine go_list hB1 fun m H2 nm s2 e2 => ?_
    walk_at "go"
    have hx2 : H2 x = some (.ins T.C_Chain dx (putF "things" (.ref l) [])) := s2 _ _ upd_same
    refine go_fsK hx2 T.cChain T.n_Chain_places (by show 1 < 1000; decide) ?_
    walk_at "go"
    have nmx : m ≠ x := fun e => by rw [e, upd_same] at nm; cases nm
    have hl1 : upd H1 x (.ins T.C_Chain dx (putF "things" (.ref l) [])) l = some (.lst xs) := by rw [upd_ne nlx]; exact e1
    have nml : l ≠ m := ne_of_none hl1 nm
    have nm0 : H m = none := by
      rw [upd_ne nmx] at nm
      exact s1.free nm
    have ef : putF "places" (.ref m) (putF "things" (.ref l) []) = f2 "things" "places" l m := by
      rw [pf_nil, pf_ne (by decide +kernel), pf_nil]
      rfl
    refine k l m _ nl nm0 nml (fun c o e hc => ?_) (by rw [ef]; exact upd_same) ?_ ?_
    · rw [upd_ne hc]
      exact s2 _ _ (by rw [upd_ne hc]; exact s1 _ _ e)
    · rw [upd_ne nlx]
      exact s2 _ _ hl1
    · rw [upd_ne nmx]
      exact e2
def sp_Free_init (K : PySem.W.Frag) (C : Addr) : Sp := fun vs H Q _ => ∃ (x dx a b : Addr) (xs ys : List V), vs = [.ref x, .ref a, .ref b] ∧ H x = some (.ins C dx []) ∧ SqL K H a xs ∧ SqL K H b ys ∧
  ∀ l m H', H l = none → H m = none → l ≠ m → But x H H' → H' x = some (.ins C dx (f2 "same" "unlike" l m)) → H' l = some (.lst xs) → H' m = some (.lst ys) → Q .non H'
theorem ok_Free_init (T : Prog K mg) (B : Blt mg) : FnOk P w K mg base CX0 1 T.f_Free_init T.d_Free_init ["self", "same", "unlike"] (sp_Free_init K T.C_Free) := by
  refine T.F_Free_init.ok sc_Free_init (fun vs H Q E h => ?_) (fun cdv A outer s H vs Q E hr h => ?_)
  · obtain ⟨x, dx, a, b, xs, ys, rfl, _⟩ := h
    rfl
  · obtain ⟨x, dx, a, b, xs, ys, rfl, hx, hA, hB, k⟩ := h
    refine ⟨_, pss_cons (sFldS K (pv 0) (pe_callTy (cList K) (by rfl) B.list (by decide +kernel) (pa_cons (pv 1) pa_nil)))
      (pss_one (sFldS K (pv 0) (pe_callTy (cList K) (by rfl) B.list (by decide +kernel) (pa_cons (pv 2) pa_nil)))), ?_⟩

    walk_at "go"
    refine go_list hA fun l H1 nl s1 e1 => ?_
    walk_at "go"
    refine go_fsK (s1 _ _ hx) T.cFree T.n_Free_same (by show 0 < 1000; decide) ?_
    have nlx : l ≠ x := fun e => by rw [e, hx] at nl; cases nl
    have hB1 : SqL K (upd H1 x (.ins T.C_Free dx (putF "same" (.ref l) []))) b ys := by
      rcases hB with (h | ⟨o, h⟩) | h
      · exact .inl (.inl (by rw [upd_ne (ne_of h hx (by intro z; cases z))]; exact s1 _ _ h))
      · exact .inl (.inr ⟨o, by rw [upd_ne (ne_of h hx (by intro z; cases z))]; exact s1 _ _ h⟩)
      · exact .inr h
    walk_at "go"
    refine go_list hB1 fun m H2 nm s2 e2 => ?_
    walk_at "go"
    have hx2 : H2 x = some (.ins T.C_Free dx (putF "same" (.ref l) [])) := s2 _ _ upd_same
    refine go_fsK hx2 T.cFree T.n_Free_unlike (by show 1 < 1000; decide) ?_
    walk_at "go"
    have nmx : m ≠ x := fun e => by rw [e, upd_same] at nm; cases nm
    have hl1 : upd H1 x (.ins T.C_Free dx (putF "same" (.ref l) [])) l = some (.lst xs) := by rw [upd_ne nlx]; exact e1
    have nml : l ≠ m := ne_of_none hl1 nm
    have nm0 : H m = none := by
      rw [upd_ne nmx] at nm
      exact s1.free nm
    have ef : putF "unlike" (.ref m) (putF "same" (.ref l) []) = f2 "same" "unlike" l m := by
      rw [pf_nil, pf_ne (by decide +kernel), pf_nil]
      rfl
    refine k l m _ nl nm0 nml (fun c o e hc => ?_) (by rw [ef]; exact upd_same) ?_ ?_
    · rw [upd_ne hc]
      exact s2 _ _ (by rw [upd_ne hc]; exact s1 _ _ e)
    · rw [upd_ne nlx]
      exact s2 _ _ hl1
    · rw [upd_ne nmx]
      exact e2
def sp_Dealt_shows (K : PySem.W.Frag) (C : Addr) : Sp := fun vs H Q _ => ∃ (p dx l a : Addr) (rs : List (List Nat)) (n : Nat) (d : List Int), vs = [.ref p, .ref a] ∧ H p = some (.ins C dx (f1 "sides" l)) ∧ RowsAt K H a rs ∧ Good n rs ∧ n ≤ 100000 ∧
  SqL K H l (d.map V.int) ∧ d.length ≤ 100000 ∧ ∀ H', Same H H' → Q (.bl (isEven n rs d)) H'
theorem ok_Dealt_shows (T : Prog K mg) (B : Blt mg) : FnOk P w K mg base CX0 2 T.f_Dealt_shows T.d_Dealt_shows ["self", "rows"] (sp_Dealt_shows K T.C_Dealt) := by
  have G_is_even := ok_is_even (P := P) (w := w) (base := base) T B
  refine T.F_Dealt_shows.ok sc_Dealt_shows (fun vs H Q E h => ?_) (fun cdv A outer s H vs Q E hr h => ?_)
  · obtain ⟨p, dx, l, a, rs, n, d, rfl, _⟩ := h
    rfl
  · obtain ⟨p, dx, l, a, rs, n, d, rfl, hp, hR, G, ln, hL, ld, k⟩ := h
    refine ⟨_, pss_one (ps_ret (pe_call G_is_even (hr.mono (by decide)) (by rfl) T.g_is_even T.F_is_even.kp T.b_is_even .nil pass0 (pa_cons (pv 1) (pa_cons (eFld K (pv 0)) pa_nil)))), ?_⟩

    walk_at "go"
    refine go_fldK hp T.cDealt T.n_Dealt_sides f1_at ?_
    walk_at "go"
    exact ⟨a, l, rs, n, d, rfl, hR, G, ln, hL, ld, k⟩
def sp_Ring_shows (K : PySem.W.Frag) (C : Addr) : Sp := fun vs H Q _ => ∃ (p dx l m a : Addr) (rs : List (List Nat)) (n : Nat) (ts ps : List Int), vs = [.ref p, .ref a] ∧ H p = some (.ins C dx (f2 "things" "places" l m)) ∧ RowsAt K H a rs ∧ Good n rs ∧ n ≤ 100000 ∧
  SqL K H l (ts.map V.int) ∧ SqL K H m (ps.map V.int) ∧ ts.length ≤ 100000 ∧ ps.length ≤ 100000 ∧ ∀ H', Same H H' → Q (.bl (isRing n rs ts ps)) H'
theorem ok_Ring_shows (T : Prog K mg) (B : Blt mg) : FnOk P w K mg base CX0 3 T.f_Ring_shows T.d_Ring_shows ["self", "rows"] (sp_Ring_shows K T.C_Ring) := by
  have G_is_chain := ok_is_chain (P := P) (w := w) (base := base) T B
  refine T.F_Ring_shows.ok sc_Ring_shows (fun vs H Q E h => ?_) (fun cdv A outer s H vs Q E hr h => ?_)
  · obtain ⟨p, dx, l, m, a, rs, n, ts, ps, rfl, _⟩ := h
    rfl
  · obtain ⟨p, dx, l, m, a, rs, n, ts, ps, rfl, hp, hR, G, ln, hL, hM, lt, lp, k⟩ := h
    refine ⟨_, pss_cons (ps_if (PW.pt (pw_or (pt_cmpR op_lt (pe_callB (cLen K) (by rfl) B.len (by decide +kernel) (pa_cons (eFld K (pv 0)) pa_nil)) pe_int (nomark _)) (pw_or (pt_cmpR op_eq (pe_op op_mod (pe_callB (cLen K) (by rfl) B.len (by decide +kernel) (pa_cons (eFld K (pv 0)) pa_nil)) pe_int) pe_int (nomark _)) (pw_or1 (pt_cmpR op_ne (pe_ix (ixl K) (eFld K (pv 0)) pe_int (fun _ _ => rfl)) (pe_ix (ixl K) (eFld K (pv 0)) (pe_un un_neg pe_int) (fun _ _ => rfl)) (nomark _)))))) (pss_one (ps_ret pe_bl)) pss_nil)
      (pss_one (ps_ret (pe_call G_is_chain (hr.mono (by decide)) (by rfl) T.g_is_chain T.F_is_chain.kp T.b_is_chain .nil pass0 (pa_cons (pv 1) (pa_cons (eFld K (pv 0)) (pa_cons (eFld K (pv 0)) pa_nil)))))), ?_⟩

    have h0 : 0 < rs.length := List.length_pos_iff.mpr G.ne
    have hn0 : (rs.getD 0 []).length = n := G.len (Good.at_mem h0)
    refine go_seq (cut_ifS (decide (ts.length < 2 ∨ ts.length % 2 = 1 ∨ ts.getD 0 0 ≠ ts.getD (ts.length - 1) 0)) (fun QB q => ?_) (fun H2 s2 => ?_))
    · walk_at "go"
      refine go_fldK hp T.cRing T.n_Ring_things f2_fst ?_
      walk_at "go"
      rw [List.length_map]
      refine if_by (fun hb => ?_) (fun hb => ?_)
      · have hb : (ts.length : Int) < 2 := of_decide_eq_true hb
        exact leaf q (decide_eq_true (.inl (by omega))) (Same.refl _)
      · have hb : ¬ (ts.length : Int) < 2 := of_decide_eq_false hb
        walk_at "go"
        refine go_fldK hp T.cRing T.n_Ring_things f2_fst ?_
        walk_at "go"
        refine go_I (by decide) ?_
        walk_at "go"
        rw [List.length_map]
        refine if_by (fun hc => ?_) (fun hc => ?_)
        · have hc : (ts.length : Int) % 2 = 1 := of_decide_eq_true hc
          exact leaf q (decide_eq_true (.inr (.inl (by omega)))) (Same.refl _)
        · have hc : ¬ (ts.length : Int) % 2 = 1 := of_decide_eq_false hc
          walk_at "go"
          refine go_fldK hp T.cRing T.n_Ring_things f2_fst ?_
          walk_at "go"
          refine go_ixL hL (iv_at (i := 0) rfl (by omega)) ?_
          walk_at "go"
          refine go_fldK hp T.cRing T.n_Ring_things f2_fst ?_
          walk_at "go"
          refine go_ixL hL (at_last (fun e => by rw [e] at hb; exact hb (by decide))) ?_
          walk_at "go"
          refine leaf q ?_ (Same.refl _)
          rw [Bool.eq_iff_iff, decide_eq_true_eq, Bool.not_eq_true', decide_eq_false_iff_not]
          constructor
          · rintro (h | h | h)
            · omega
            · omega
            · exact h
          · exact fun h => .inr (.inr h)
    · refine if_by (fun hb => ?_) (fun hb => ?_)
      · rw [decide_eq_true_eq] at hb
        have e : isRing n rs ts ps = false := by unfold isRing; rw [if_pos hb]
        rw [e] at k
        walk_at "go"
        exact k H2 s2
      · have hb := of_decide_eq_false hb
        have e : isRing n rs ts ps = isChain n rs ts ps := by unfold isRing; rw [if_neg hb]
        rw [e] at k
        walk_at "go"
        refine go_fldK (s2 _ _ hp) T.cRing T.n_Ring_things f2_fst ?_
        walk_at "go"
        refine go_fldK (s2 _ _ hp) T.cRing T.n_Ring_places (f2_snd (by decide +kernel)) ?_
        walk_at "go"
        exact ⟨a, l, m, rs, n, ts, ps, rfl, hR.same s2, h0, hn0, s2.seq hL, s2.seq hM, lt, lp, fun H' s' => k H' (s2.trans s')⟩
def sp_Chain_shows (K : PySem.W.Frag) (C : Addr) : Sp := fun vs H Q _ => ∃ (p dx l m a : Addr) (rs : List (List Nat)) (n : Nat) (ts ps : List Int) (x y : Int), vs = [.ref p, .ref a, .int x, .int y] ∧ H p = some (.ins C dx (f2 "things" "places" l m)) ∧ RowsAt K H a rs ∧ Good n rs ∧ n ≤ 100000 ∧
  SqL K H l (ts.map V.int) ∧ SqL K H m (ps.map V.int) ∧ ts.length ≤ 100000 ∧ ps.length ≤ 100000 ∧ ∀ H', Same H H' → Q (.bl (isWay n rs x y ts ps)) H'
theorem ok_Chain_shows (T : Prog K mg) (B : Blt mg) : FnOk P w K mg base CX0 3 T.f_Chain_shows T.d_Chain_shows ["self", "rows", "one", "other"] (sp_Chain_shows K T.C_Chain) := by
  have G_is_chain := ok_is_chain (P := P) (w := w) (base := base) T B
  refine T.F_Chain_shows.ok sc_Chain_shows (fun vs H Q E h => ?_) (fun cdv A outer s H vs Q E hr h => ?_)
  · obtain ⟨p, dx, l, m, a, rs, n, ts, ps, x, y, rfl, _⟩ := h
    rfl
  · obtain ⟨p, dx, l, m, a, rs, n, ts, ps, x, y, rfl, hp, hR, G, ln, hL, hM, lt, lp, k⟩ := h
    refine ⟨_, pss_cons (ps_if (PW.pt (pw_or (pt_cmpR (oEqD K hr.units) (eFld K (pv 0)) (pe_lst pa_nil) (nomark _)) (pw_or (pt_cmpR op_ne (pe_ix (ixl K) (eFld K (pv 0)) pe_int (fun _ _ => rfl)) (pv 2) (nomark _)) (pw_or1 (pt_cmpR op_ne (pe_ix (ixl K) (eFld K (pv 0)) (pe_un un_neg pe_int) (fun _ _ => rfl)) (pv 3) (nomark _)))))) (pss_one (ps_ret pe_bl)) pss_nil)
      (pss_one (ps_ret (pe_call G_is_chain (hr.mono (by decide)) (by rfl) T.g_is_chain T.F_is_chain.kp T.b_is_chain .nil pass0 (pa_cons (pv 1) (pa_cons (eFld K (pv 0)) (pa_cons (eFld K (pv 0)) pa_nil)))))), ?_⟩

    have h0 : 0 < rs.length := List.length_pos_iff.mpr G.ne
    have hn0 : (rs.getD 0 []).length = n := G.len (Good.at_mem h0)
    refine go_seq (cut_ifS (decide (ts = [] ∨ ts.getD 0 0 ≠ x ∨ ts.getD (ts.length - 1) 0 ≠ y)) (fun QB q => ?_) (fun H2 s2 => ?_))
    · walk_at "go"
      refine go_fldK hp T.cChain T.n_Chain_things f2_fst ?_
      walk_at "go"
      refine go_lstK (Nat.zero_le _) fun z H1 nz s1 e1 => ?_
      have hL1 := s1.seq hL
      have hp1 := s1 _ _ hp
      refine go_eqL (m := []) hL1 (sqL_of e1) ?_
      walk_at "go"
      refine if_by (fun hb => ?_) (fun hb => ?_)
      · exact leaf q (decide_eq_true (.inl (of_decide_eq_true hb))) s1
      · have hb : ¬ ts = [] := of_decide_eq_false hb
        have hl : 0 < ts.length := List.length_pos_iff.mpr hb
        walk_at "go"
        refine go_fldK hp1 T.cChain T.n_Chain_things f2_fst ?_
        walk_at "go"
        refine go_ixL hL1 (iv_at (i := 0) rfl hl) ?_
        walk_at "go"
        refine if_by (fun hc => ?_) (fun hc => ?_)
        · exact leaf q (decide_eq_true (.inr (.inl (of_decide_eq_false (not_tt hc))))) s1
        · have hc := of_decide_eq_true (not_ff hc)
          walk_at "go"
          refine go_fldK hp1 T.cChain T.n_Chain_things f2_fst ?_
          walk_at "go"
          refine go_ixL hL1 (at_last hb) ?_
          walk_at "go"
          refine leaf q ?_ s1
          rw [Bool.eq_iff_iff, decide_eq_true_eq, Bool.not_eq_true', decide_eq_false_iff_not]
          constructor
          · rintro (h | h | h)
            · exact absurd h hb
            · exact absurd hc h
            · exact h
          · exact fun h => .inr (.inr h)
    · refine if_by (fun hb => ?_) (fun hb => ?_)
      · rw [decide_eq_true_eq] at hb
        have e : isWay n rs x y ts ps = false := by unfold isWay; rw [if_pos hb]
        rw [e] at k
        walk_at "go"
        exact k H2 s2
      · have hb := of_decide_eq_false hb
        have e : isWay n rs x y ts ps = isChain n rs ts ps := by unfold isWay; rw [if_neg hb]
        rw [e] at k
        walk_at "go"
        refine go_fldK (s2 _ _ hp) T.cChain T.n_Chain_things f2_fst ?_
        walk_at "go"
        refine go_fldK (s2 _ _ hp) T.cChain T.n_Chain_places (f2_snd (by decide +kernel)) ?_
        walk_at "go"
        exact ⟨a, l, m, rs, n, ts, ps, rfl, hR.same s2, h0, hn0, s2.seq hL, s2.seq hM, lt, lp, fun H' s' => k H' (s2.trans s')⟩
def sp_Free_shows (K : PySem.W.Frag) (C : Addr) : Sp := fun vs H Q _ => ∃ (p dx l m a : Addr) (rs : List (List Nat)) (n x y : Nat) (d e : List Int), vs = [.ref p, .ref a, .int x, .int y] ∧ x < n ∧ y < n ∧ H p = some (.ins C dx (f2 "same" "unlike" l m)) ∧ RowsAt K H a rs ∧ Good n rs ∧ n ≤ 100000 ∧
  SqL K H l (d.map V.int) ∧ SqL K H m (e.map V.int) ∧ d.length ≤ 100000 ∧ e.length ≤ 100000 ∧ ∀ H', Same H H' → Q (.bl (isFree n rs x y d e)) H'
theorem ok_Free_shows (T : Prog K mg) (B : Blt mg) : FnOk P w K mg base CX0 2 T.f_Free_shows T.d_Free_shows ["self", "rows", "one", "other"] (sp_Free_shows K T.C_Free) := by
  have G_is_even := ok_is_even (P := P) (w := w) (base := base) T B
  refine T.F_Free_shows.ok sc_Free_shows (fun vs H Q E h => ?_) (fun cdv A outer s H vs Q E hr h => ?_)
  · obtain ⟨p, dx, l, m, a, rs, n, x, y, d, e, rfl, _⟩ := h
    rfl
  · obtain ⟨p, dx, l, m, a, rs, n, x, y, d, e, rfl, hx, hy, hp, hR, G, ln, hL, hM, ld, le, k⟩ := h
    refine ⟨_, pss_cons (ps_if (PW.pt (pw_or (pt_not (pt_val (pe_call G_is_even (hr.mono (by decide)) (by rfl) T.g_is_even T.F_is_even.kp T.b_is_even .nil pass0 (pa_cons (pv 1) (pa_cons (eFld K (pv 0)) pa_nil))))) (pw_or1 (pt_not (pt_val (pe_call G_is_even (hr.mono (by decide)) (by rfl) T.g_is_even T.F_is_even.kp T.b_is_even .nil pass0 (pa_cons (pv 1) (pa_cons (eFld K (pv 0)) pa_nil)))))))) (pss_one (ps_ret pe_bl)) pss_nil)
      (pss_one (ps_ret (pe_and (pe_cmpR op_eq (pe_ix (ixl K) (eFld K (pv 0)) (pv 2) (fun _ _ => rfl)) (pe_ix (ixl K) (eFld K (pv 0)) (pv 3) (fun _ _ => rfl)) (nomark _)) (pe_one (pe_cmpR op_ne (pe_ix (ixl K) (eFld K (pv 0)) (pv 2) (fun _ _ => rfl)) (pe_ix (ixl K) (eFld K (pv 0)) (pv 3) (fun _ _ => rfl)) (nomark _)))))), ?_⟩

    refine go_seq (cut_ifS (!decide (isEven n rs d = true ∧ isEven n rs e = true)) (fun QB q => ?_) (fun H2 s2 => ?_))
    · walk_at "go"
      refine go_fldK hp T.cFree T.n_Free_same f2_fst ?_
      walk_at "go"
      refine ⟨a, l, rs, n, d, rfl, hR, G, ln, hL, ld, fun H1 s1 => ?_⟩
      walk_at "go"
      refine if_by (fun hb => ?_) (fun hb => ?_)
      · have hb := not_tt hb
        exact leaf q (by rw [hb]; rfl) s1
      · have hb := not_ff hb
        walk_at "go"
        refine go_fldK (s1 _ _ hp) T.cFree T.n_Free_unlike (f2_snd (by decide +kernel)) ?_
        walk_at "go"
        refine ⟨a, m, rs, n, e, rfl, hR.same s1, G, ln, s1.seq hM, le, fun H3 s3 => ?_⟩
        walk_at "go"
        exact leaf q (by rw [hb]; cases isEven n rs e <;> rfl) (s1.trans s3)
    · refine if_by (fun hb => ?_) (fun hb => ?_)
      · have hb := of_decide_eq_false (not_tt hb)
        have e0 : isFree n rs x y d e = false := by unfold isFree; rw [if_neg hb]
        rw [e0] at k
        walk_at "go"
        exact k H2 s2
      · have hb := of_decide_eq_true (not_ff hb)
        have e0 : isFree n rs x y d e = (decide (d.getD x 0 = d.getD y 0) && !decide (e.getD x 0 = e.getD y 0)) := by unfold isFree; rw [if_pos hb]
        have lenD : ∀ d : List Int, isEven n rs d = true → d.length = n := fun d h => by
          unfold isEven at h
          by_cases z : d.length = n ∧ d.all is01 = true
          · exact z.1
          · rw [if_neg z] at h
            cases h
        have l1 := lenD d hb.1
        have l2 := lenD e hb.2
        have hp2 := s2 _ _ hp
        have hL2 := s2.seq hL
        have hM2 := s2.seq hM
        rw [e0] at k
        walk_at "go"
        refine go_fldK hp2 T.cFree T.n_Free_same f2_fst ?_
        walk_at "go"
        refine go_ixL hL2 (iv_at rfl (by omega)) ?_
        walk_at "go"
        refine go_fldK hp2 T.cFree T.n_Free_same f2_fst ?_
        walk_at "go"
        refine go_ixL hL2 (iv_at rfl (by omega)) ?_
        walk_at "go"
        refine if_by (fun hc => ?_) (fun hc => ?_)
        · rw [hc, Bool.true_and] at k
          walk_at "go"
          refine go_fldK hp2 T.cFree T.n_Free_unlike (f2_snd (by decide +kernel)) ?_
          walk_at "go"
          refine go_ixL hM2 (iv_at rfl (by omega)) ?_
          walk_at "go"
          refine go_fldK hp2 T.cFree T.n_Free_unlike (f2_snd (by decide +kernel)) ?_
          walk_at "go"
          refine go_ixL hM2 (iv_at rfl (by omega)) ?_
          walk_at "go"
          exact k H2 s2
        · rw [hc, Bool.false_and] at k
          exact k H2 s2
def sp_check_rows (K : PySem.W.Frag) : Sp := fun vs H Q _ => ∃ (a : Addr) (rs : List (List Nat)) (n : Nat), vs = [.ref a] ∧ RowsAt K H a rs ∧ Rw n rs ∧ ∀ H', Same H H' → Q .non H'
theorem ok_check_rows (T : Prog K mg) (B : Blt mg) : FnOk P w K mg base CX0 2 T.f_check_rows T.d_check_rows ["rows"] (sp_check_rows K) := by
  have G_is_number := ok_is_number (P := P) (w := w) (base := base) T B
  refine T.F_check_rows.ok sc_check_rows (fun vs H Q E h => ?_) (fun cdv A outer s H vs Q E hr h => ?_)
  · obtain ⟨a, rs, n, rfl, _⟩ := h
    rfl
  · obtain ⟨a, rs, n, rfl, hR, RW, k⟩ := h
    refine ⟨_, pss_cons (ps_if (PW.pt (pw_or (pt_not (pt_val (pe_callB (cIsi K) (by rfl) B.isinstance (by decide +kernel) (pa_cons (pv 0) (pa_cons (pe_bltn (v := .ty "list") (by rfl) B.list (by decide +kernel) rfl) pa_nil))))) (pw_or1 (pt_cmpR (oEqD K hr.units) (pv 0) (pe_lst pa_nil) (nomark _))))) (pss_one ps_never) pss_nil)
      (pss_one (ps_for PassesOwn.never rfl (iLst K (pv 0)) (pg_name (i := 1) sc_check_rows.nd rfl (.inl rfl))
        (pss_cons (ps_if (PW.pt (pw_or (pt_not (pt_val (pe_callB (cIsi K) (by rfl) B.isinstance (by decide +kernel) (pa_cons (pv 1) (pa_cons (pe_bltn (v := .ty "list") (by rfl) B.list (by decide +kernel) rfl) pa_nil))))) (pw_or1 (pt_not (pt_val (pe_callB (cAll K) (by rfl) B.all (by decide +kernel) (pa_cons (pe_lc (own := [("thing", 2)]) (by rfl) sc_check_rows.nd (iLst K (pv 1)) (blkOk_by (own := [("thing", 2)]) (N := N_check_rows) (sc := defScope s_check_rows) (by decide +kernel)) (fun _ _ _ _ _ => (pg_name (i := 2) sc_check_rows.nd rfl (by first | exact .inl rfl | exact .inr rfl))) (fun _ _ _ _ _ => pts_nil) (fun _ _ _ _ _ => (pe_call G_is_number (hr.mono (by decide)) (by rfl) T.g_is_number T.F_is_number.kp T.b_is_number .nil pass0 (pa_cons (pv 2) pa_nil)))) pa_nil))))))) (pss_one ps_never) pss_nil)
      (pss_one (ps_if (PW.pt (pw_or (pt_cmpR op_ne (pe_callB (cLen K) (by rfl) B.len (by decide +kernel) (pa_cons (pv 1) pa_nil)) (pe_callB (cLen K) (by rfl) B.len (by decide +kernel) (pa_cons (pe_ix (ixl K) (pv 0) pe_int (fun _ _ => rfl)) pa_nil)) (nomark _)) (pw_or1 (pt_cmpR (oNeD K hr.units) (pe_callB (cSorted K) (by rfl) B.sorted (by decide +kernel) (pa_cons (pv 1) pa_nil)) (pe_listRg (by rfl) (by rfl) B.list (prg_1 (by rfl) B.range (pe_callB (cLen K) (by rfl) B.len (by decide +kernel) (pa_cons (pv 1) pa_nil)))) (nomark _))))) (pss_one ps_never) pss_nil))))), ?_⟩

    have G := RW.G
    have ln := RW.ln
    have h0 : 0 < rs.length := List.length_pos_iff.mpr G.ne
    have hn0 : (rs.getD 0 []).length = n := G.len (Good.at_mem h0)
    refine go_seq (cut_ifS false (fun QB q => ?_) (fun H2 s2 => ?_))
    · obtain ⟨xs, hA, hlen, hrow⟩ := id hR
      walk_at "go"
      refine go_isi (b := true) (.ty "list") (sq_ty hA) (kit_ty (by decide +kernel)) ?_
      walk_at "go"
      refine if_no rfl ?_
      walk_at "go"
      refine go_lstK (Nat.zero_le _) fun p H1 np s1 e1 => ?_
      refine go_eqR (hR.same s1) (rows_nil (sqL_of e1)) ?_
      walk_at "go"
      exact leaf q (decide_eq_false G.ne).symm s1
    · refine if_no rfl ?_
      obtain ⟨xs, hA, hlen, hrow⟩ := hR.same s2
      walk_at "go"
      refine go_fK (walk_list (xs := xs)) (fun i σ H' => ∃ v1, σ = [some (.ref a), v1, none] ∧ Same H2 H') ⟨none, rfl, Same.refl _⟩ (fun i σ H' _ ⟨_, _, s'⟩ => s'.seq hA) ?_ ?_
      · rintro i x σ H3 H' hi ⟨v1, rfl, s3⟩ ⟨rfl, hx⟩
        obtain ⟨p, ep, hp⟩ := hrow i (by omega)
        have ex : V.ref p = x := Option.some.inj (ep.symm.trans hx)
        subst ex
        have hm : rs.getD i [] ∈ rs := Good.at_mem (by omega)
        have hl := G.len hm
        have hperm := G.perm _ hm
        generalize rs.getD i [] = r at hp hl hperm
        have hp3 := s3.seq hp
        refine go_name (go_seq (cut_ifS false (fun QB q => ?_) (fun H4 s4 => ?_)))
        · walk_at "go"
          refine go_isi (b := true) (.ty "list") (sq_ty hp3) (kit_ty (by decide +kernel)) ?_
          walk_at "go"
          refine if_no rfl ?_
          walk_at "go"
          refine go_lcP (walk_list (xs := nv r)) (by rw [nv_len]; omega) (fun i => .bl true) (fun H' s' => s'.seq hp3) ?_ fun D H' nD s' e' => ?_
          · rintro j x H5 H' R hj s5 ⟨rfl, hx⟩ hk
            rw [nv_len] at hj
            have ex : V.int ((r.getD j 0 : Nat) : Int) = x := Option.some.inj ((nv_get hj).symm.trans hx)
            subst ex
            refine ⟨rfl, ?_⟩
            walk_at "go"
            exact ⟨_, rfl, hk _ (Same.refl _)⟩
          · walk_at "go"
            refine go_all (sq_bls (f := fun _ => true) e') ?_
            walk_at "go"
            rw [all_map_id]
            exact leaf q (by simp) s'
        · refine if_no rfl ?_
          walk_at "go"
          have hp4 := s4.seq hp3
          refine cut_ifS false (fun QB q => ?_) (fun H5 s5 => ?_)
          · obtain ⟨ys, p0, hA0, hlen0, hat0, hp0⟩ := rows0 (hR.same ((s2.trans s3).trans s4)) h0
            walk_at "go"
            refine go_ixL hA0 hat0 ?_
            walk_at "go"
            rw [nv_len, nv_len, hl, hn0]
            refine if_no (by simp) ?_
            walk_at "go"
            refine go_sorted (ns := iN r) (by rw [nv_iv] at hp4; exact hp4) fun ns q1 H6 hperm6 hs6 nq s6 e6 => ?_
            have hp6 := s6.seq hp4
            walk_at "go"
            rw [nv_len, hl]
            refine go_lrK (RgOk.of_le (by omega) (by omega) (by omega) (by omega)) fun q2 H7 nq2 s7 e7 => ?_
            rw [rg_iN] at e7
            refine go_neL (sqL_of (s7 _ _ e6)) (sqL_of e7) ?_
            walk_at "go"
            have en : ns = iN (List.range n) := by
              refine sorted_one (hperm6.trans ?_) hs6 (range_sorted n)
              exact List.Perm.map _ hperm
            exact leaf q (by simp [en]) (s6.trans s7)
          · refine if_no rfl ?_
            walk_at "go"
            exact ⟨some (.ref p), rfl, (s3.trans s4).trans s5⟩
      · rintro σ H3 ⟨v1, rfl, s3⟩
        exact k H3 (s2.trans s3)
def sp_ties_of (K : PySem.W.Frag) : Sp := fun vs H Q _ => ∃ (a : Addr) (rs : List (List Nat)) (n : Nat), vs = [.ref a] ∧ RowsAt K H a rs ∧ Rw n rs ∧
  ∀ F as H', Same H H' → H F = none → TiesM H' F n as (ties rs) → Q (.ref F) H'
theorem ok_ties_of (T : Prog K mg) (B : Blt mg) : FnOk P w K mg base CX0 1 T.f_ties_of T.d_ties_of ["rows"] (sp_ties_of K) := by
  refine T.F_ties_of.ok sc_ties_of (fun vs H Q E h => ?_) (fun cdv A outer s H vs Q E hr h => ?_)
  · obtain ⟨a, rs, n, rfl, _⟩ := h
    rfl
  · obtain ⟨a, rs, n, rfl, hR, RW, k⟩ := h
    refine ⟨_, pss_cons (ps_setLc (i := 1) (own := [("thing", 5)]) (by rfl) sc_ties_of.nd rfl rfl (sw_true rfl rfl rfl (by decide +kernel)) (iLst K (pe_ix (ixl K) (pv 0) pe_int (fun _ _ => rfl))) (blkOk_by (own := [("thing", 5)]) (N := N_ties_of) (sc := defScope s_ties_of) (by decide +kernel)) (fun _ _ _ _ _ => (pg_name (i := 5) sc_ties_of.nd rfl (by first | exact .inl rfl | exact .inr rfl))) (fun _ _ _ _ _ => pts_nil) (fun _ _ _ _ _ => (pe_lst pa_nil)))
      (pss_cons (ps_for PassesOwn.never rfl (iEnm K (by rfl) B.enumerate (pa_cons (pv 0) pa_nil)) (gTpl K (n := 2) rfl (pgs_cons (pg_name (i := 2) sc_ties_of.nd rfl (.inl rfl)) (pgs_cons (pg_name (i := 3) sc_ties_of.nd rfl (.inl rfl)) pgs_nil)))
        (pss_one (ps_for PassesOwn.never rfl (pi_range3 (by rfl) B.range (pa_cons pe_int (pa_cons (pe_callB (cLen K) (by rfl) B.len (by decide +kernel) (pa_cons (pv 3) pa_nil)) (pa_cons pe_int pa_nil)))) (pg_name (i := 4) sc_ties_of.nd rfl (.inl rfl))
        (pss_cons (ps_expr (eBm K PySem.F.plainAttrs_list PySem.F.slot_list_append PySem.F.type_list_append mt_append (pe_ix (ixl K) (pv 1) (pe_ix (ixl K) (pv 3) (pe_op op_sub (pv 4) pe_int) (fun _ _ => rfl)) (fun _ _ => rfl)) (pa_cons (pe_tup (pa_cons (pe_ix (ixl K) (pv 3) (pv 4) (fun _ _ => rfl)) (pa_cons (pv 2) pa_nil))) pa_nil)))
      (pss_one (ps_expr (eBm K PySem.F.plainAttrs_list PySem.F.slot_list_append PySem.F.type_list_append mt_append (pe_ix (ixl K) (pv 1) (pe_ix (ixl K) (pv 3) (pv 4) (fun _ _ => rfl)) (fun _ _ => rfl)) (pa_cons (pe_tup (pa_cons (pe_ix (ixl K) (pv 3) (pe_op op_sub (pv 4) pe_int) (fun _ _ => rfl)) (pa_cons (pv 2) pa_nil))) pa_nil))))))))
      (pss_one (ps_ret (pv 1)))), ?_⟩

    have G := RW.G
    have ln := RW.ln
    have h0 : 0 < rs.length := List.length_pos_iff.mpr G.ne
    have hn0 : (rs.getD 0 []).length = n := G.len (Good.at_mem h0)
    obtain ⟨xs, hA, hlen, hrow⟩ := id hR
    obtain ⟨p0, hp0e, hp0⟩ := hrow 0 h0
    walk_at "go"
    refine go_ixL hA (at_of (j := 0) rfl hp0e) ?_
    walk_at "go"
    intro F nF
    refine lc_it (walk_list (xs := nv (rs.getD 0 []))) (fun i H' => Same H H' ∧ ∃ as : Nat → Addr, H' F = some (.lst (tab i fun j => .ref (as j))) ∧ (∀ j, j < i → H' (as j) = some (.lst []) ∧ H (as j) = none ∧ as j ≠ F) ∧ ∀ j l, j < i → l < i → as j = as l → j = l)
      ⟨same_mut (Same.refl _) nF, fun _ => 0, upd_same, fun j hj => absurd hj (by omega), fun j l hj => absurd hj (by omega)⟩ (fun i H' _ h => h.1.seq hp0) ?_ ?_
    · rintro i x H1 H' hi ⟨s1, as, e1, h1, h2⟩ ⟨rfl, hx⟩
      rw [nv_len, hn0] at hi
      refine ⟨rfl, go_yes (iteT ?_)⟩
      walk_at "go"
      refine go_lstK (Nat.zero_le _) fun p H2 np s2 e2 => ?_
      have npF : p ≠ F := fun e => by rw [e, e1] at np; cases np
      have nas : ∀ j, j < i → as j ≠ p := fun j hj => ne_of_none (h1 j hj).1 np
      refine ⟨_, s2 _ _ e1, by rw [tab_len]; exact small_lt (by omega), same_mut (s1.trans s2) nF, fset as i p, ?_, fun j hj => ?_, fun j l hj hl e => ?_⟩
      · rw [upd_same]
        congr 2
        unfold tab
        rw [List.range_succ, List.map_append, List.map_singleton, fset_same]
        congr 1
        apply List.map_congr_left
        intro j hj
        rw [fset_ne (Nat.ne_of_lt (List.mem_range.mp hj))]
      · by_cases ej : j = i
        · rw [ej, fset_same]
          exact ⟨by rw [upd_ne npF]; exact e2, s1.free np, npF⟩
        · obtain ⟨b1, b2, b3⟩ := h1 j (by omega)
          rw [fset_ne ej]
          exact ⟨by rw [upd_ne b3]; exact s2 _ _ b1, b2, b3⟩
      · by_cases ej : j = i
        · by_cases el : l = i
          · omega
          · rw [ej, fset_same, fset_ne el] at e
            exact absurd e.symm (nas l (by omega))
        · by_cases el : l = i
          · rw [el, fset_same, fset_ne ej] at e
            exact absurd e (nas j (by omega))
          · rw [fset_ne ej, fset_ne el] at e
            exact h2 j l (by omega) (by omega) e
    · rintro H1 ⟨s1, as, e1, h1, h2⟩
      rw [nv_len, hn0] at e1 h1 h2
      have M0 : TiesM H1 F n as (tiesK rs 0) := ⟨e1, h2, fun i hi => ⟨[], (h1 i hi).1, rfl, fun j t e => by simp [tiesK] at e⟩, fun i hi => (h1 i hi).2.2⟩
      have fr : ∀ i, i < n → H (as i) = none := fun i hi => (h1 i hi).2.1
      have hA1 := s1.seq hA
      walk_at "go"
      refine go_fK (walk_enum (xs := xs)) (fun i σ H' => ∃ v2 v3 v4, σ = [some (.ref a), some (.ref F), v2, v3, v4, none] ∧ Same H H' ∧ TiesM H' F n as (tiesK rs i)) ⟨none, none, none, rfl, s1, M0⟩ (fun i σ H' _ ⟨_, _, _, _, s', _⟩ => s'.seq hA) ?_ ?_
      · rintro i x σ H3 H' hi ⟨v2, v3, v4, rfl, s3, M3⟩ ⟨Tp, x1, x2, rfl, nT, rfl, ex1, ex2⟩
        obtain ⟨p, ep, hp⟩ := hrow i (by omega)
        have ex1 : V.int ((i : Nat) : Int) = x1 := Option.some.inj ex1
        have ex2 : V.ref p = x2 := Option.some.inj (ep.symm.trans ex2)
        subst ex1 ex2
        have hm : rs.getD i [] ∈ rs := Good.at_mem (by omega)
        have hl := G.len hm
        have hlt : ∀ j, j < n → (rs.getD i []).getD j 0 < n := fun j hj => G.lt hm hj
        have hbd : ∀ x, (tiesK rs i x).length ≤ 50000 := fun x => RW.ties (by omega)
        have eK : tiesK rs (i + 1) = rowT i (rs.getD i []) (tiesK rs i) ((rs.getD i []).length / 2) := rfl
        generalize rs.getD i [] = r at hp hl hlt eK
        refine go_gtup (sqT_of upd_same) rfl ?_
        walk_at "go"
        have s3' : Same H (upd H3 Tp (.tup [V.int ((i : Nat) : Int), V.ref p])) := s3.trans (same_new nT)
        have M3' : TiesM (upd H3 Tp (.tup [V.int ((i : Nat) : Int), V.ref p])) F n as (rowT i r (tiesK rs i) 0) := M3.same (same_new nT)
        have hp3 := s3'.seq hp
        revert s3' M3' hp3
        generalize upd H3 Tp (.tup [V.int ((i : Nat) : Int), V.ref p]) = H4
        intro s4 M4 hp4
        walk_at "go"
        rw [nv_len]
        refine go_irK3 (rg_odd (by omega)) ?_
        refine go_fK walk_rangeC (fun j σ H' => ∃ v4, σ = [some (.ref a), some (.ref F), some (.int ((i : Nat) : Int)), some (.ref p), v4, none] ∧ Same H H' ∧ TiesM H' F n as (rowT i r (tiesK rs i) j)) ⟨v4, rfl, s4, M4⟩ (fun _ _ _ _ _ => trivial) ?_ ?_
        · rintro j x σ H5 H' hj ⟨v4, rfl, s5, M5⟩ ⟨rfl, rfl⟩
          have hp5 := s5.seq hp
          have hx := hlt (2 * j) (by omega)
          have hy := hlt (2 * j + 1) (by omega)
          have hbd5 : ∀ x, (rowT i r (tiesK rs i) j x).length ≤ 60000 := fun x => by
            have := rowT_len (k := i) (r := r) (T := tiesK rs i) (x := x) j
            have := hbd x
            omega
          have eN : rowT i r (tiesK rs i) (j + 1) = addT (addT (rowT i r (tiesK rs i) j) (r.getD (2 * j) 0) (r.getD (2 * j + 1) 0, i)) (r.getD (2 * j + 1) 0) (r.getD (2 * j) 0, i) := rfl
          generalize rowT i r (tiesK rs i) (j + 1) = TN at eN
          generalize rowT i r (tiesK rs i) j = T5 at M5 eN hbd5
          have g1 := nv_at (r := r) (i := 2 * j) (z := 1 + (j : Int) * 2 - 1) (by omega) (by omega)
          have g2 := nv_at (r := r) (i := 2 * j + 1) (z := 1 + (j : Int) * 2) (by omega) (by omega)
          generalize r.getD (2 * j) 0 = x1 at hx g1 eN
          generalize r.getD (2 * j + 1) 0 = y1 at hy g2 eN
          walk_at "go"
          refine go_ixL hp5 g1 ?_
          refine go_ixL (sqL_of M5.lst) (tab_at rfl hx) ?_
          obtain ⟨qs, a1, a2, a3⟩ := M5.row x1 hx
          walk_at "go"
          refine go_ixL hp5 g2 ?_
          walk_at "go"
          refine go_tupK (by show 2 ≤ sizeLine; decide) fun t H6 nt s6 e6 => ?_
          walk_at "go"
          refine go_app (s6 _ _ a1) (by rw [List.length_map, a2]; exact small_lt (Nat.le_trans (hbd5 _) (by decide))) ?_
          have M6 := (M5.same s6).add hx (s6 _ _ a1) a2 e6
          have s6' : Same H (upd H6 (as x1) (.lst (qs.map V.ref ++ [.ref t]))) := same_mut (s5.trans s6) (fr x1 hx)
          revert M6 s6'
          generalize upd H6 (as x1) (.lst (qs.map V.ref ++ [.ref t])) = H7
          intro M7 s7
          have hp7 := s7.seq hp
          walk_at "go"
          refine go_ixL hp7 g2 ?_
          refine go_ixL (sqL_of M7.lst) (tab_at rfl hy) ?_
          obtain ⟨qs', b1, b2, b3⟩ := M7.row y1 hy
          walk_at "go"
          refine go_ixL hp7 g1 ?_
          walk_at "go"
          refine go_tupK (by show 2 ≤ sizeLine; decide) fun t2 H8 nt2 s8 e8 => ?_
          walk_at "go"
          have hl8 : (addT T5 x1 (y1, i) y1).length ≤ 60001 := by
            unfold addT fset
            split
            · have := hbd5 x1
              simp
              omega
            · have := hbd5 y1
              omega
          refine go_app (s8 _ _ b1) (by rw [List.length_map, b2]; exact small_lt (Nat.le_trans hl8 (by decide))) ?_
          have M8 := (M7.same s8).add hy (s8 _ _ b1) b2 e8
          walk_at "go"
          exact ⟨_, rfl, same_mut (s7.trans s8) (fr y1 hy), by rw [eN]; exact M8⟩
        · rintro σ H5 ⟨v4, rfl, s5, M5⟩
          rw [hl] at eK
          rw [hl] at M5
          exact ⟨_, _, _, rfl, s5, by rw [eK]; exact M5⟩
      · rintro σ H3 ⟨v2, v3, v4, rfl, s3, M3⟩
        walk_at "go"
        rw [hlen] at M3
        exact k F as H3 s3 nF M3
def sp_Walk_meet (K : PySem.W.Frag) (C : Addr) : Sp := fun vs H Q _ => ∃ (p dx tl sl hl al : Addr) (Z : Hp) (as : Nat → Addr) (rs : List (List Nat)) (n : Nat) (s : S) (head : Nat), vs = [.ref p, .int (head : Int)] ∧
  WA C Z H p dx tl sl hl al n as (ties rs) s ∧ Rw n rs ∧ Mid rs n s [] 0 ∧ head < n ∧ s.sides head = none ∧ ∀ H', WA C Z H' p dx tl sl hl al n as (ties rs) (meetS (ties rs) n head s) → Q .non H'
theorem ok_Walk_meet (T : Prog K mg) (B : Blt mg) : FnOk P w K mg base CX0 1 T.f_Walk_meet T.d_Walk_meet ["self", "head"] (sp_Walk_meet K T.C_Walk) := by
  refine T.F_Walk_meet.ok sc_Walk_meet (fun vs H Q E h => ?_) (fun cdv A outer s H vs Q E hr h => ?_)
  · obtain ⟨p, dx, tl, sl, hl, al, Z, as, rs, n, s0, head, rfl, _⟩ := h
    rfl
  · obtain ⟨p, dx, tl, sl, hl, al, Z, as, rs, n, s0, head, rfl, W0, RW, M0, hh, hs, k⟩ := h
    refine ⟨_, pss_cons (ps_asg pe_int (pg_sub (eFld K (pv 0)) (pv 1) set_list))
      (pss_cons (ps_set (i := 2) sc_Walk_meet.nd rfl (.inl rfl) (pe_lst (pa_cons (pv 1) pa_nil)))
      (pss_one (ps_while PassesOwn.never (pt_cmpR (oNeD K hr.units) (pv 2) (pe_lst pa_nil) (nomark _)) (pss_cons (ps_set (i := 3) sc_Walk_meet.nd rfl (.inl rfl) (eBm0 K PySem.F.plainAttrs_list PySem.F.slot_list_pop PySem.F.type_list_pop mt_pop (pv 2)))
      (pss_cons (ps_asg (pv 1) (pg_sub (eFld K (pv 0)) (pv 3) set_list))
      (pss_one (ps_for PassesOwn.never rfl (iLst K (pe_ix (ixl K) (eFld K (pv 0)) (pv 3) (fun _ _ => rfl))) (gTpl K (n := 2) rfl (pgs_cons (pg_name (i := 4) sc_Walk_meet.nd rfl (.inl rfl)) (pgs_cons (pg_name (i := 5) sc_Walk_meet.nd rfl (.inl rfl)) pgs_nil)))
        (pss_one (ps_if (pt_cmpR op_lt (pe_ix (ixl K) (eFld K (pv 0)) (pv 4) (fun _ _ => rfl)) pe_int (nomark _)) (pss_cons (ps_asg (pe_op op_sub pe_int (pe_ix (ixl K) (eFld K (pv 0)) (pv 3) (fun _ _ => rfl))) (pg_sub (eFld K (pv 0)) (pv 4) set_list))
      (pss_cons (ps_asg (pe_tup (pa_cons (pv 3) (pa_cons (pv 5) pa_nil))) (pg_sub (eFld K (pv 0)) (pv 4) set_list))
      (pss_one (ps_expr (eBm K PySem.F.plainAttrs_list PySem.F.slot_list_append PySem.F.type_list_append mt_append (pv 2) (pa_cons (pv 4) pa_nil)))))) (pss_one (ps_if (pt_cmpR op_eq (pe_ix (ixl K) (eFld K (pv 0)) (pv 4) (fun _ _ => rfl)) (pe_ix (ixl K) (eFld K (pv 0)) (pv 3) (fun _ _ => rfl)) (nomark _)) (pss_one (sFldS K (pv 0) (pe_tup (pa_cons (pv 3) (pa_cons (pv 4) (pa_cons (pv 5) pa_nil)))))) pss_nil))))))))))), ?_⟩

    have G := RW.G
    have ln := RW.ln
    obtain ⟨bv, ob, _⟩ := W0.ob
    walk_at "go"
    refine go_fldK ob T.cWalk T.n_Walk_sides wf_sides ?_
    walk_at "go"
    refine go_setL W0.sd (by rw [tab_len]; exact ix_nat hh) ?_
    have W1 := W0.setS hh (some false)
    have M1 := M0.start hh hs
    have e1 : (meet0 head s0).1 = { s0 with sides := fset s0.sides head (some false) } := rfl
    have eF : meetS (ties rs) n head s0 = runS (ties rs) head n ((meet0 head s0).1, [head]) := rfl
    rw [eF] at k
    rw [← e1] at W1
    have W1 : WA T.C_Walk Z (upd H sl (.lst ((tab n fun i => sv (s0.sides i)).set head (.int 0)))) p dx tl sl hl al n as (ties rs) (meet0 head s0).1 := W1
    revert W1
    generalize upd H sl (.lst ((tab n fun i => sv (s0.sides i)).set head (.int 0))) = H1
    intro W1
    walk_at "go"
    refine go_lstK (by show 1 ≤ sizeLine; decide) fun wl H2 nw s2 e2 => ?_
    have W2 := W1.same s2
    have zw : Z wl = none := W1.zs.free nw
    have w1 : wl ≠ sl := fun e => by rw [e, W1.sd] at nw; cases nw
    have w2 : wl ≠ hl := fun e => by rw [e, W1.hd] at nw; cases nw
    have w3 : wl ≠ al := fun e => by
      obtain ⟨qs, a1, _⟩ := W1.ah
      rw [e, a1] at nw
      cases nw
    have M2 : Mid rs n (meet0 head s0).1 [head] head := M1
    revert W2 M2 k
    generalize (meet0 head s0).1 = s1
    intro k W2 M2
    walk_at "go"
    refine go_while (fun m σ H' => ∃ s2 w v3 v4 v5, σ = [some (.ref p), some (.int (head : Int)), some (.ref wl), v3, v4, v5] ∧ WA T.C_Walk Z H' p dx tl sl hl al n as (ties rs) s2 ∧ H' wl = some (.lst (nv w)) ∧ Mid rs n s2 w head ∧ n ≤ cnt s2.heads n + m ∧ runS (ties rs) head m (s2, w) = runS (ties rs) head n (s1, [head]))
      n ⟨s1, [head], none, none, none, rfl, W2, e2, M2, by omega, rfl⟩ ?_
    rintro m σ H3 ⟨s3, w, v3, v4, v5, rfl, W3, e3, M3, hm, hrun⟩
    refine ⟨!decide (w = []), fun QB q => ?_, fun H4 s4 => ⟨fun hb => ?_, fun hb => ?_⟩⟩
    · walk_at "go"
      refine go_lstK (Nat.zero_le _) fun z H4 nz s4 e4 => ?_
      refine go_neL (l := iN w) (m := []) (sqL_of (by rw [s4 _ _ e3, nv_iv]; rfl)) (sqL_of e4) ?_
      walk_at "go"
      refine leaf q ?_ s4
      cases w <;> rfl
    · have hw : w ≠ [] := of_decide_eq_false (not_tt hb)
      have W4 := W3.same s4
      have e4 := s4 _ _ e3
      obtain ⟨m', rfl⟩ : ∃ m', m = m' + 1 := by
        cases m with
        | zero => exact absurd (M3.stop (by omega)) hw
        | succ m' => exact ⟨m', rfl⟩
      have hrun' : runS (ties rs) head m' (popS (ties rs) head (s3, w)) = runS (ties rs) head n (s1, [head]) := by
        rw [← hrun]
        show _ = if w = [] then _ else _
        rw [if_neg hw]
      obtain ⟨MP, cP⟩ := M3.pop G hw
      have hsp := split_last hw
      -- the state within the for
      have ePop : popS (ties rs) head (s3, w) = (ties rs (w.getLastD 0)).foldl (tieS (w.getLastD 0)) (takeS head (w.getLastD 0) s3, w.dropLast) := rfl
      obtain ⟨pt, dep, I3⟩ := M3
      have hmem : w.getLastD 0 ∈ w := by rw [← hsp]; simp
      obtain ⟨i1, i2, i3⟩ := I3.wait _ hmem
      have hlt := I3.rng _ i1
      have pre : ∀ j, ∃ X pt' dep', WI rs n (((ties rs (w.getLastD 0)).take j).foldl (tieS (w.getLastD 0)) (takeS head (w.getLastD 0) s3, w.dropLast)).1 (((ties rs (w.getLastD 0)).take j).foldl (tieS (w.getLastD 0)) (takeS head (w.getLastD 0) s3, w.dropLast)).2 head pt' dep' X ∧
          (((ties rs (w.getLastD 0)).take j).foldl (tieS (w.getLastD 0)) (takeS head (w.getLastD 0) s3, w.dropLast)).1.heads = (takeS head (w.getLastD 0) s3).heads := fun j => by
        obtain ⟨I1, hold, hd1, hh1⟩ := WI.taken I3 hw
        obtain ⟨pt2, dep2, I2, e2⟩ := WI.fold G ((ties rs (w.getLastD 0)).take j) I1 hh1 hd1 hold fun t ht => mem_ties.mp (List.mem_of_mem_take ht)
        exact ⟨_, pt2, dep2, I2, e2⟩
      have hgT : ∀ (j : Nat) t, (ties rs (w.getLastD 0))[j]? = some t → t.1 < n ∧ t.1 ≠ w.getLastD 0 := fun j t e => by
        have := G.adj_lt (mem_ties.mp (List.mem_of_getElem? e))
        exact ⟨this.2.1, this.2.2.symm⟩
      rw [← hsp] at e4
      rw [ePop] at hrun' MP cP
      revert e4 hrun' MP cP i1 i2 i3 hlt pre hgT
      generalize w.getLastD 0 = here
      generalize w.dropLast = w'
      intro e4 hrun' MP cP i1 i2 i3 hlt pre hgT
      have e4 : H4 wl = some (.lst (nv w' ++ [.int (here : Int)])) := by rw [e4]; unfold nv; rw [List.map_append]; rfl
      walk_at "go"
      refine go_pop e4 ?_
      have W5 := W4.other (l' := nv w') e4 zw w1 w2 w3
      have e5 : upd H4 wl (.lst (nv w')) wl = some (.lst (nv w')) := upd_same
      revert W5 e5
      generalize upd H4 wl (.lst (nv w')) = H5
      intro W5 e5
      obtain ⟨bv5, ob5, _⟩ := W5.ob
      walk_at "go"
      refine go_fldK ob5 T.cWalk T.n_Walk_heads wf_heads ?_
      walk_at "go"
      refine go_setL W5.hd (by rw [tab_len]; exact ix_nat hlt) ?_
      have W6 := W5.setH hlt (some head)
      have e6 : upd H5 hl (.lst ((tab n fun j => hv (s3.heads j)).set here (hv (some head)))) wl = some (.lst (nv w')) := by rw [upd_ne w2]; exact e5
      have W6 : WA T.C_Walk Z (upd H5 hl (.lst ((tab n fun j => hv (s3.heads j)).set here (.int (head : Int))))) p dx tl sl hl al n as (ties rs) (takeS head here s3) := W6
      have e6 : upd H5 hl (.lst ((tab n fun j => hv (s3.heads j)).set here (.int (head : Int)))) wl = some (.lst (nv w')) := e6
      revert W6 e6
      generalize upd H5 hl (.lst ((tab n fun j => hv (s3.heads j)).set here (.int (head : Int)))) = H6
      intro W6 e6
      obtain ⟨bv6, ob6, _⟩ := W6.ob
      obtain ⟨qs, q1, q2, q3⟩ := W6.ti.row here hlt
      walk_at "go"
      refine go_fldK ob6 T.cWalk T.n_Walk_ties wf_ties ?_
      walk_at "go"
      refine go_ixL (sqL_of (W6.zs _ _ W6.ti.lst)) (tab_at rfl hlt) ?_
      refine go_ilK (sqL_of (W6.zs _ _ q1)) ?_
      refine go_fK (walk_list (xs := qs.map V.ref)) (fun j σ H' => ∃ v4 v5, σ = [some (.ref p), some (.int (head : Int)), some (.ref wl), some (.int (here : Int)), v4, v5] ∧
          WA T.C_Walk Z H' p dx tl sl hl al n as (ties rs) (((ties rs here).take j).foldl (tieS here) (takeS head here s3, w')).1 ∧ H' wl = some (.lst (nv (((ties rs here).take j).foldl (tieS here) (takeS head here s3, w')).2)))
        ⟨v4, v5, rfl, W6, e6⟩ (fun i σ H' _ ⟨_, _, _, W', _⟩ => sqL_of (W'.zs _ _ q1)) ?_ ?_
      · rintro j x σ H7 H' hj ⟨v4, v5, rfl, W7, e7⟩ ⟨rfl, hx⟩
        rw [List.length_map, q2] at hj
        obtain ⟨t, ht⟩ : ∃ t, (ties rs here)[j]? = some t := ⟨_, List.getElem?_eq_getElem hj⟩
        obtain ⟨q, hq1, hq2⟩ := q3 j t ht
        have ex : V.ref q = x := by
          rw [List.getElem?_map, hq1] at hx
          exact Option.some.inj hx
        subst ex
        obtain ⟨hto, htn⟩ := hgT j t ht
        obtain ⟨X, pt7, dep7, I7, eh7⟩ := pre j
        have eN : ((ties rs here).take (j + 1)).foldl (tieS here) (takeS head here s3, w') = tieS here (((ties rs here).take j).foldl (tieS here) (takeS head here s3, w')) t := by
          rw [List.take_add_one, ht, List.foldl_append]
          rfl
        rw [eN]
        revert W7 e7 I7 eh7
        generalize (((ties rs here).take j).foldl (tieS here) (takeS head here s3, w')) = sw
        obtain ⟨s7, w7⟩ := sw
        intro W7 e7 I7 eh7
        have hsh : s7.sides here ≠ none := (I7.hd here head (by rw [eh7]; exact fset_same)).2
        have hw7 : w7.length ≤ 1000 := Nat.le_trans (few_of n w7 I7.nd fun x hx => I7.rng x (I7.wait x hx).1) ln
        obtain ⟨bv7, ob7, _⟩ := W7.ob
        refine go_gtup (sqT_of (W7.zs _ _ hq2)) rfl ?_
        walk_at "go"
        refine cut_ifS (decide (s7.sides t.1 = none)) (fun QB q => ?_) (fun H8 s8 => ?_)
        · walk_at "go"
          refine go_fldK ob7 T.cWalk T.n_Walk_sides wf_sides ?_
          walk_at "go"
          refine go_ixL (sqL_of W7.sd) (tab_at rfl hto) ?_
          unfold sv
          walk_at "go"
          refine leaf q ?_ (Same.refl _)
          rw [Bool.eq_iff_iff, decide_eq_true_eq, decide_eq_true_eq, si_neg]
        · have W8 := W7.same s8
          have e8 := s8 _ _ e7
          have ob8 := s8 _ _ ob7
          refine if_by (fun hc => ?_) (fun hc => ?_)
          · have hc := of_decide_eq_true hc
            have eT : tieS here (s7, w7) t = ({ s7 with sides := fset s7.sides t.1 (flip (s7.sides here)), ahead := fset s7.ahead t.1 (some (here, t.2)) }, w7 ++ [t.1]) := by
              unfold tieS
              rw [if_pos hc]
            rw [eT]
            walk_at "go"
            refine go_fldK ob8 T.cWalk T.n_Walk_sides wf_sides ?_
            walk_at "go"
            refine go_ixL (sqL_of W8.sd) (tab_at rfl hlt) ?_
            unfold sv
            walk_at "go"
            refine go_fldK ob8 T.cWalk T.n_Walk_sides wf_sides ?_
            walk_at "go"
            refine go_setL W8.sd (by rw [tab_len]; exact ix_nat hto) ?_
            have W9 := W8.setS hto (flip (s7.sides here))
            have e9 : upd H8 sl (.lst ((tab n fun j => sv (s7.sides j)).set t.1 (sv (flip (s7.sides here))))) wl = some (.lst (nv w7)) := by rw [upd_ne w1]; exact e8
            rw [si_flip hsh]
            have W9 : WA T.C_Walk Z (upd H8 sl (.lst ((tab n fun j => sv (s7.sides j)).set t.1 (.int (si (flip (s7.sides here))))))) p dx tl sl hl al n as (ties rs) { s7 with sides := fset s7.sides t.1 (flip (s7.sides here)) } := W9
            have e9 : upd H8 sl (.lst ((tab n fun j => sv (s7.sides j)).set t.1 (.int (si (flip (s7.sides here)))))) wl = some (.lst (nv w7)) := e9
            revert W9 e9
            generalize upd H8 sl (.lst ((tab n fun j => sv (s7.sides j)).set t.1 (.int (si (flip (s7.sides here)))))) = H9
            intro W9 e9
            obtain ⟨bv9, ob9, _⟩ := W9.ob
            walk_at "go"
            refine go_tupK (by show 2 ≤ sizeLine; decide) fun tp H10 ntp s10 e10 => ?_
            have W10 := W9.same s10
            have e10w := s10 _ _ e9
            obtain ⟨qs10, a10, _⟩ := W10.ah
            walk_at "go"
            refine go_fldK (s10 _ _ ob9) T.cWalk T.n_Walk_ahead wf_ahead ?_
            walk_at "go"
            refine go_setL a10 (by rw [tab_len]; exact ix_nat hto) ?_
            have W11 := W10.setA (a := here) (b := t.2) hto e10 a10
            have e11 : upd H10 al (.lst ((tab n fun i => V.ref (qs10 i)).set t.1 (.ref tp))) wl = some (.lst (nv w7)) := by rw [upd_ne w3]; exact e10w
            revert W11 e11
            generalize upd H10 al (.lst ((tab n fun i => V.ref (qs10 i)).set t.1 (.ref tp))) = H11
            intro W11 e11
            walk_at "go"
            refine go_app e11 (by rw [nv_len]; exact small_lt (by omega)) ?_
            walk_at "go"
            refine ⟨_, _, rfl, W11.other e11 zw w1 w2 w3, ?_⟩
            rw [upd_same]
            unfold nv
            rw [List.map_append]
            rfl
          · have hc := of_decide_eq_false hc
            walk_at "go"
            refine cut_ifS (decide (s7.sides t.1 = s7.sides here)) (fun QB q => ?_) (fun H9 s9 => ?_)
            · walk_at "go"
              refine go_fldK ob8 T.cWalk T.n_Walk_sides wf_sides ?_
              walk_at "go"
              refine go_ixL (sqL_of W8.sd) (tab_at rfl hto) ?_
              walk_at "go"
              refine go_fldK ob8 T.cWalk T.n_Walk_sides wf_sides ?_
              walk_at "go"
              refine go_ixL (sqL_of W8.sd) (tab_at rfl hlt) ?_
              unfold sv
              walk_at "go"
              refine leaf q ?_ (Same.refl _)
              rw [Bool.eq_iff_iff, decide_eq_true_eq, decide_eq_true_eq]
              exact ⟨fun e => by rw [e], fun e => si_inj e⟩
            · have W9 := W8.same s9
              have e9 := s9 _ _ e8
              have ob9 := s9 _ _ ob8
              refine if_by (fun hd => ?_) (fun hd => ?_)
              · have hd := of_decide_eq_true hd
                have eT : tieS here (s7, w7) t = ({ s7 with bar := some (here, t.1, t.2) }, w7) := by
                  unfold tieS
                  rw [if_neg hc, if_pos hd]
                rw [eT]
                walk_at "go"
                refine go_tupK (by show 3 ≤ sizeLine; decide) fun tp H10 ntp s10 e10 => ?_
                have W10 := W9.same s10
                walk_at "go"
                refine go_fsK (s10 _ _ ob9) T.cWalk T.n_Walk_bar (by show 5 < 1000; decide) ?_
                have W11 := W10.setB (a := here) (b := t.1) (k := t.2) e10 (s10 _ _ ob9)
                walk_at "go"
                refine ⟨_, _, rfl, W11, ?_⟩
                rw [upd_ne (ne_of (s10 _ _ e9) (s10 _ _ ob9) (by intro w; cases w))]
                exact s10 _ _ e9
              · have hd := of_decide_eq_false hd
                have eT : tieS here (s7, w7) t = (s7, w7) := by
                  unfold tieS
                  rw [if_neg hc, if_neg hd]
                rw [eT]
                walk_at "go"
                exact ⟨_, _, rfl, W9, e9⟩
      · rintro σ H7 ⟨v4, v5, rfl, W7, e7⟩
        rw [List.length_map, q2, List.take_length] at W7 e7
        exact ⟨m', by omega, _, _, _, _, _, rfl, W7, e7, MP, by omega, hrun'⟩
    · have hw : w = [] := of_decide_eq_true (not_ff hb)
      subst hw
      have er : runS (ties rs) head m (s3, []) = s3 := by
        cases m with
        | zero => rfl
        | succ m =>
          show (if ([] : List Nat) = [] then s3 else _) = s3
          rw [if_pos rfl]
      rw [er] at hrun
      rw [hrun] at W3
      exact k H4 (W3.same s4)
def sp_Walk_init (K : PySem.W.Frag) (C : Addr) : Sp := fun vs H Q _ => ∃ (x dx a : Addr) (rs : List (List Nat)) (n : Nat), vs = [.ref x, .ref a] ∧ H x = some (.ins C dx []) ∧ RowsAt K H a rs ∧ Rw n rs ∧
  ∀ Z tl sl hl al as H', Same (hide x H) Z → WA C Z H' x dx tl sl hl al n as (ties rs) (walk n rs) → Q .non H'
theorem ok_Walk_init (T : Prog K mg) (B : Blt mg) : FnOk P w K mg base CX0 2 T.f_Walk_init T.d_Walk_init ["self", "rows"] (sp_Walk_init K T.C_Walk) := by
  have G_ties_of := ok_ties_of (P := P) (w := w) (base := base) T B
  have G_Walk_meet := ok_Walk_meet (P := P) (w := w) (base := base) T B
  refine T.F_Walk_init.ok sc_Walk_init (fun vs H Q E h => ?_) (fun cdv A outer s H vs Q E hr h => ?_)
  · obtain ⟨x, dx, a, rs, n, rfl, _⟩ := h
    rfl
  · obtain ⟨x, dx, a, rs, n, rfl, hx, hR, RW, k⟩ := h
    refine ⟨_, pss_cons (sFldS K (pv 0) (pe_call G_ties_of (hr.mono (by decide)) (by rfl) T.g_ties_of T.F_ties_of.kp T.b_ties_of .nil pass0 (pa_cons (pv 1) pa_nil)))
      (pss_cons (ps_set (i := 2) sc_Walk_init.nd rfl (.inl rfl) (pe_callB (cLen K) (by rfl) B.len (by decide +kernel) (pa_cons (eFld K (pv 0)) pa_nil)))
      (pss_cons (sFldS K (pv 0) (pe_lc (own := [("thing", 3)]) (by rfl) sc_Walk_init.nd (pi_range1 (by rfl) B.range (pa_cons (pv 2) pa_nil)) (blkOk_by (own := [("thing", 3)]) (N := N_Walk_init) (sc := defScope s_Walk_init) (by decide +kernel)) (fun _ _ _ _ _ => (pg_name (i := 3) sc_Walk_init.nd rfl (by first | exact .inl rfl | exact .inr rfl))) (fun _ _ _ _ _ => pts_nil) (fun _ _ _ _ _ => (pe_un un_neg pe_int))))
      (pss_cons (sFldS K (pv 0) (pe_lc (own := [("thing", 3)]) (by rfl) sc_Walk_init.nd (pi_range1 (by rfl) B.range (pa_cons (pv 2) pa_nil)) (blkOk_by (own := [("thing", 3)]) (N := N_Walk_init) (sc := defScope s_Walk_init) (by decide +kernel)) (fun _ _ _ _ _ => (pg_name (i := 3) sc_Walk_init.nd rfl (by first | exact .inl rfl | exact .inr rfl))) (fun _ _ _ _ _ => pts_nil) (fun _ _ _ _ _ => (pe_un un_neg pe_int))))
      (pss_cons (sFldS K (pv 0) (pe_lc (own := [("thing", 3)]) (by rfl) sc_Walk_init.nd (pi_range1 (by rfl) B.range (pa_cons (pv 2) pa_nil)) (blkOk_by (own := [("thing", 3)]) (N := N_Walk_init) (sc := defScope s_Walk_init) (by decide +kernel)) (fun _ _ _ _ _ => (pg_name (i := 3) sc_Walk_init.nd rfl (by first | exact .inl rfl | exact .inr rfl))) (fun _ _ _ _ _ => pts_nil) (fun _ _ _ _ _ => (pe_tup (pa_cons (pe_un un_neg pe_int) (pa_cons (pe_un un_neg pe_int) pa_nil))))))
      (pss_cons (sFldS K (pv 0) pe_non)
      (pss_one (ps_for PassesOwn.never rfl (pi_range1 (by rfl) B.range (pa_cons (pv 2) pa_nil)) (pg_name (i := 3) sc_Walk_init.nd rfl (.inl rfl))
        (pss_one (ps_if (pt_cmpR op_lt (pe_ix (ixl K) (eFld K (pv 0)) (pv 3) (fun _ _ => rfl)) pe_int (nomark _)) (pss_one (ps_expr (pe_meth (pv 0) T.cWalk T.me_Walk_meet G_Walk_meet (hr.mono (by decide)) T.b_Walk_meet .nil pass0 (pa_cons (pv 3) pa_nil)))) pss_nil))))))))), ?_⟩

    have G := RW.G
    have ln := RW.ln
    walk_at "go"
    refine ⟨a, rs, n, rfl, hR, RW, fun F as H1 s1 nF M1 => ?_⟩
    walk_at "go"
    refine go_fsK (s1 _ _ hx) T.cWalk T.n_Walk_ties (by show 0 < 1000; decide) ?_
    have hx1 := s1 _ _ hx
    have MZ := M1.hide hx1
    have sZ : Same (hide x H) (hide x H1) := hide_mono s1
    have s2 : Same (hide x H1) (upd H1 x (.ins T.C_Walk dx (putF "ties" (.ref F) []))) := same_mut (hide_same _ _) (by unfold hide; rw [if_pos rfl])
    have zx : hide x H1 x = none := by unfold hide; rw [if_pos rfl]
    have e2 : upd H1 x (.ins T.C_Walk dx (putF "ties" (.ref F) [])) x = some (.ins T.C_Walk dx (putF "ties" (.ref F) [])) := upd_same
    revert MZ sZ s2 zx e2
    generalize upd H1 x (.ins T.C_Walk dx (putF "ties" (.ref F) [])) = H2
    generalize hide x H1 = Z
    intro MZ sZ s2 zx e2
    walk_at "go"
    refine go_fldK e2 T.cWalk T.n_Walk_ties lk_eq ?_
    have hF2 := s2 _ _ MZ.lst
    walk_at "go"
    rw [tab_len]
    -- self.sides
    walk_at "go"
    refine go_irK (by omega) ?_
    refine go_lcP walk_range (by omega) (fun _ => .int (-1)) (fun _ _ => trivial) ?_ fun sl H3 nsl s3 e3 => ?_
    · rintro i v H3 H' R hi s3 ⟨rfl, rfl⟩ hk
      refine ⟨rfl, ?_⟩
      walk_at "go"
      exact hk _ (Same.refl _)
    have z1 : Z sl = none := s2.free nsl
    walk_at "go"
    refine go_fsK (s3 _ _ e2) T.cWalk T.n_Walk_sides (by show 1 < 1000; decide) ?_
    have nsx : sl ≠ x := fun e => by rw [e, e2] at nsl; cases nsl
    have s4 : Same Z (upd H3 x (.ins T.C_Walk dx (putF "sides" (.ref sl) (putF "ties" (.ref F) [])))) := same_mut (s2.trans s3) zx
    have e4 : upd H3 x (.ins T.C_Walk dx (putF "sides" (.ref sl) (putF "ties" (.ref F) []))) x = some (.ins T.C_Walk dx (putF "sides" (.ref sl) (putF "ties" (.ref F) []))) := upd_same
    have e4s : upd H3 x (.ins T.C_Walk dx (putF "sides" (.ref sl) (putF "ties" (.ref F) []))) sl = some (.lst (tab n fun _ => .int (-1))) := by rw [upd_ne nsx]; exact e3
    revert s4 e4 e4s
    generalize upd H3 x (.ins T.C_Walk dx (putF "sides" (.ref sl) (putF "ties" (.ref F) []))) = H4
    intro s4 e4 e4s
    -- self.heads
    walk_at "go"
    refine go_irK (by omega) ?_
    refine go_lcP walk_range (by omega) (fun _ => .int (-1)) (fun _ _ => trivial) ?_ fun hl H5 nhl s5 e5 => ?_
    · rintro i v H5 H' R hi s5 ⟨rfl, rfl⟩ hk
      refine ⟨rfl, ?_⟩
      walk_at "go"
      exact hk _ (Same.refl _)
    have z2 : Z hl = none := s4.free nhl
    have n12 : sl ≠ hl := ne_of_none e4s nhl
    walk_at "go"
    refine go_fsK (s5 _ _ e4) T.cWalk T.n_Walk_heads (by show 2 < 1000; decide) ?_
    have nhx : hl ≠ x := fun e => by rw [e, e4] at nhl; cases nhl
    have s6 : Same Z (upd H5 x (.ins T.C_Walk dx (putF "heads" (.ref hl) (putF "sides" (.ref sl) (putF "ties" (.ref F) []))))) := same_mut (s4.trans s5) zx
    have e6 : upd H5 x (.ins T.C_Walk dx (putF "heads" (.ref hl) (putF "sides" (.ref sl) (putF "ties" (.ref F) [])))) x = some (.ins T.C_Walk dx (putF "heads" (.ref hl) (putF "sides" (.ref sl) (putF "ties" (.ref F) [])))) := upd_same
    have e6s : upd H5 x (.ins T.C_Walk dx (putF "heads" (.ref hl) (putF "sides" (.ref sl) (putF "ties" (.ref F) [])))) sl = some (.lst (tab n fun _ => .int (-1))) := by rw [upd_ne nsx]; exact s5 _ _ e4s
    have e6h : upd H5 x (.ins T.C_Walk dx (putF "heads" (.ref hl) (putF "sides" (.ref sl) (putF "ties" (.ref F) [])))) hl = some (.lst (tab n fun _ => .int (-1))) := by rw [upd_ne nhx]; exact e5
    revert s6 e6 e6s e6h
    generalize upd H5 x (.ins T.C_Walk dx (putF "heads" (.ref hl) (putF "sides" (.ref sl) (putF "ties" (.ref F) [])))) = H6
    intro s6 e6 e6s e6h
    -- self.ahead
    walk_at "go"
    refine go_irK (by omega) ?_
    refine go_lcR walk_range (by omega) (fun _ v H => ∃ q, v = .ref q ∧ H q = some (.tup [.int (-1), .int (-1)])) (fun i v H H' s ⟨q, e, h⟩ => ⟨q, e, s _ _ h⟩) (fun _ _ => trivial) ?_ fun al H7 xs nal s7 e7 hl7 hx7 => ?_
    · rintro D nD i v H7 H' R hi s7 ⟨l, hl⟩ ⟨rfl, rfl⟩ hk
      refine ⟨rfl, ?_⟩
      walk_at "go"
      refine go_tupK (by show 2 ≤ sizeLine; decide) fun q H8 nq s8 e8 => ?_
      refine hk _ _ s8 ⟨q, rfl, ?_⟩
      rw [hide_ne (fun e => by rw [e, hl] at nq; cases nq)]
      exact e8
    obtain ⟨qs, rfl, hqs⟩ := refs_tab hl7 hx7
    have z3 : Z al = none := s6.free nal
    have n13 : sl ≠ al := ne_of_none e6s nal
    have n23 : hl ≠ al := ne_of_none e6h nal
    walk_at "go"
    refine go_fsK (s7 _ _ e6) T.cWalk T.n_Walk_ahead (by show 3 < 1000; decide) ?_
    have nax : al ≠ x := fun e => by rw [e, e6] at nal; cases nal
    walk_at "go"
    refine go_fsK upd_same T.cWalk T.n_Walk_bar (by show 4 < 1000; decide) ?_
    rw [wf_made, upd_upd]
    have s8 : Same Z (upd H7 x (.ins T.C_Walk dx (wf F sl hl al .non))) := same_mut (s6.trans s7) zx
    have W0 : WA T.C_Walk Z (upd H7 x (.ins T.C_Walk dx (wf F sl hl al .non))) x dx F sl hl al n as (ties rs) (initK (ties rs) n 0) := by
      refine ⟨s8, zx, z1, z2, z3, n12, n13, n23, MZ, ⟨.non, upd_same, rfl⟩, ?_, ?_, qs, ?_, fun i hi => ?_⟩
      · rw [upd_ne nsx]; exact s7 _ _ e6s
      · rw [upd_ne nhx]; exact s7 _ _ e6h
      · rw [upd_ne nax]; exact e7
      · rw [upd_ne (ne_of (hqs i hi) (s7 _ _ e6) (by intro w; cases w))]
        exact hqs i hi
    revert W0
    generalize upd H7 x (.ins T.C_Walk dx (wf F sl hl al .non)) = H8
    intro W0
    walk_at "go"
    refine go_irK (by omega) ?_
    refine go_fK walk_r0 (fun i σ H' => ∃ v3, σ = [some (.ref x), some (.ref a), some (.int (n : Int)), v3] ∧ WA T.C_Walk Z H' x dx F sl hl al n as (ties rs) (initK (ties rs) n i)) ⟨_, rfl, W0⟩ (fun _ _ _ _ _ => trivial) ?_ ?_
    · rintro i v σ H9 H' hi ⟨v3, rfl, W9⟩ ⟨rfl, rfl⟩
      obtain ⟨M9, sn9⟩ := Mid.init G i (by omega)
      obtain ⟨bv, ob, _⟩ := W9.ob
      have eI : initK (ties rs) n (i + 1) = if (initK (ties rs) n i).sides i = none then meetS (ties rs) n i (initK (ties rs) n i) else initK (ties rs) n i := rfl
      rw [eI]
      generalize initK (ties rs) n i = s9 at W9 M9
      walk_at "go"
      refine cut_ifS (decide (s9.sides i = none)) (fun QB q => ?_) (fun H10 s10 => ?_)
      · walk_at "go"
        refine go_fldK ob T.cWalk T.n_Walk_sides wf_sides ?_
        walk_at "go"
        refine go_ixL (sqL_of W9.sd) (tab_at rfl hi) ?_
        unfold sv
        walk_at "go"
        refine leaf q ?_ (Same.refl _)
        rw [Bool.eq_iff_iff, decide_eq_true_eq, decide_eq_true_eq, si_neg]
      · have W10 := W9.same s10
        refine if_by (fun hc => ?_) (fun hc => ?_)
        · have hc := of_decide_eq_true hc
          rw [if_pos hc]
          walk_at "go"
          refine go_meK (s10 _ _ ob) (wf_no (by decide +kernel) (by decide +kernel) (by decide +kernel) (by decide +kernel) (by decide +kernel)) ?_
          walk_at "go"
          refine ⟨x, dx, F, sl, hl, al, Z, as, rs, n, s9, i, rfl, W10, RW, M9, hi, hc, fun H11 W11 => ?_⟩
          walk_at "go"
          exact ⟨_, rfl, W11⟩
        · have hc := of_decide_eq_false hc
          rw [if_neg hc]
          walk_at "go"
          exact ⟨_, rfl, W10⟩
    · rintro σ H9 ⟨v3, rfl, W9⟩
      exact k Z F sl hl al as H9 sZ W9
def sp_Walk_way_up (K : PySem.W.Frag) (C : Addr) : Sp := fun vs H Q _ => ∃ (p dx tl sl hl al : Addr) (Z : Hp) (as : Nat → Addr) (rs : List (List Nat)) (n : Nat) (s : S) (dep : Nat → Nat) (x : Nat), vs = [.ref p, .int (x : Int)] ∧
  WA C Z H p dx tl sl hl al n as (ties rs) s ∧ Rw n rs ∧ Fin n rs s dep ∧ x < n ∧
  ∀ t a b H', Same H H' → H' t = some (.tup [.ref a, .ref b]) → H a = none → H b = none → a ≠ b → H' a = some (.lst (nv (upT s n x))) → H' b = some (.lst (nv (upP s n x))) → Q (.ref t) H'
theorem ok_Walk_way_up (T : Prog K mg) (B : Blt mg) : FnOk P w K mg base CX0 1 T.f_Walk_way_up T.d_Walk_way_up ["self", "thing"] (sp_Walk_way_up K T.C_Walk) := by
  refine T.F_Walk_way_up.ok sc_Walk_way_up (fun vs H Q E h => ?_) (fun cdv A outer s H vs Q E hr h => ?_)
  · obtain ⟨p, dx, tl, sl, hl, al, Z, as, rs, n, s0, dep, x, rfl, _⟩ := h
    rfl
  · obtain ⟨p, dx, tl, sl, hl, al, Z, as, rs, n, s0, dep, x, rfl, W0, RW, F, hx, k⟩ := h
    refine ⟨_, pss_cons (ps_par (i := 2) (j := 3) (by rfl) sc_Walk_way_up.nd rfl rfl (by decide) rfl rfl (pa_cons (pe_lst (pa_cons (pv 1) pa_nil)) (pa_cons (pe_lst pa_nil) pa_nil)) (by rfl))
      (pss_cons (ps_while PassesOwn.never (pt_cmpR op_ge (pe_ix (ixt K) (pe_ix (ixl K) (eFld K (pv 0)) (pe_ix (ixl K) (pv 2) (pe_un un_neg pe_int) (fun _ _ => rfl)) (fun _ _ => rfl)) pe_int (fun _ _ => rfl)) pe_int (nomark _)) (pss_cons (ps_asg (pe_ix (ixl K) (eFld K (pv 0)) (pe_ix (ixl K) (pv 2) (pe_un un_neg pe_int) (fun _ _ => rfl)) (fun _ _ => rfl)) (gTpl K (n := 2) rfl (pgs_cons (pg_name (i := 4) sc_Walk_way_up.nd rfl (.inl rfl)) (pgs_cons (pg_name (i := 5) sc_Walk_way_up.nd rfl (.inl rfl)) pgs_nil))))
      (pss_cons (ps_expr (eBm K PySem.F.plainAttrs_list PySem.F.slot_list_append PySem.F.type_list_append mt_append (pv 2) (pa_cons (pv 4) pa_nil)))
      (pss_one (ps_expr (eBm K PySem.F.plainAttrs_list PySem.F.slot_list_append PySem.F.type_list_append mt_append (pv 3) (pa_cons (pv 5) pa_nil)))))))
      (pss_one (ps_ret (pe_tup (pa_cons (pv 2) (pa_cons (pv 3) pa_nil)))))), ?_⟩

    have G := RW.G
    have ln := RW.ln
    obtain ⟨bv, ob, _⟩ := W0.ob
    obtain ⟨qs, a1, a2⟩ := W0.ah
    walk_at "go"
    refine go_lstK (by show 1 ≤ sizeLine; decide) fun a H1 na s1 e1 => ?_
    walk_at "go"
    refine go_lstK (Nat.zero_le _) fun b H2 nb s2 e2 => ?_
    have nab : a ≠ b := ne_of_none e1 nb
    have nb0 : H b = none := s1.free nb
    walk_at "go"
    refine go_while (fun m σ H' => ∃ ts ps y v4 v5, σ = [some (.ref p), some (.int (x : Int)), some (.ref a), some (.ref b), v4, v5] ∧ Same H H' ∧ H' a = some (.lst (nv (ts ++ [y]))) ∧ H' b = some (.lst (nv ps)) ∧ y < n ∧ dep y ≤ m ∧ ts.length + m ≤ n ∧ ps.length = ts.length ∧
        ts ++ upT s0 m y = upT s0 n x ∧ ps ++ upP s0 m y = upP s0 n x) n ⟨[], [], x, none, none, rfl, s1.trans s2, s2 _ _ e1, e2, hx, F.dep x hx, by simp, rfl, rfl, rfl⟩ ?_
    rintro m σ H3 ⟨ts, ps, y, v4, v5, rfl, s3, e3, e3b, hy, hm, hl3, hl4, ht, hp⟩
    have ob3 := s3 _ _ ob
    have a3 := s3 _ _ a1
    have ay3 := s3 _ _ (a2 y hy)
    refine ⟨(s0.ahead y).isSome, fun QB q => ?_, fun H4 s4 => ⟨fun hb => ?_, fun hb => ?_⟩⟩
    · walk_at "go"
      refine go_fldK ob3 T.cWalk T.n_Walk_ahead wf_ahead ?_
      walk_at "go"
      refine go_ixL (sqL_of e3) nv_last ?_
      refine go_ixL (sqL_of a3) (tab_at rfl hy) ?_
      walk_at "go"
      cases ha : s0.ahead y with
      | none =>
        rw [ha] at ay3 q
        refine go_ixT (sqT_of ay3) (at_of (j := 0) rfl rfl) ?_
        walk_at "go"
        exact leaf q (by decide) (Same.refl _)
      | some pk =>
        obtain ⟨p', k'⟩ := pk
        rw [ha] at ay3 q
        refine go_ixT (sqT_of ay3) (at_of (j := 0) rfl rfl) ?_
        walk_at "go"
        exact leaf q (decide_eq_true (show (0 : Int) ≤ (p' : Int) by omega)).symm (Same.refl _)
    · obtain ⟨pk, ha⟩ := Option.isSome_iff_exists.mp hb
      obtain ⟨p', k'⟩ := pk
      obtain ⟨u1, u2, u3, u4⟩ := F.up y p' k' ha
      have hp' := (G.adj_lt u1).2.1
      obtain ⟨m', rfl⟩ : ∃ m', m = m' + 1 := by
        cases m with
        | zero => omega
        | succ m' => exact ⟨m', rfl⟩
      obtain ⟨t1, t2⟩ := upT_some (m := m') ha
      rw [t1] at ht
      rw [t2] at hp
      rw [ha] at ay3
      have e4 := s4 _ _ e3
      have e4b := s4 _ _ e3b
      walk_at "go"
      refine go_fldK (s4 _ _ ob3) T.cWalk T.n_Walk_ahead wf_ahead ?_
      walk_at "go"
      refine go_ixL (sqL_of e4) nv_last ?_
      refine go_ixL (sqL_of (s4 _ _ a3)) (tab_at rfl hy) ?_
      refine go_gtup (sqT_of (s4 _ _ ay3)) rfl ?_
      unfold av
      walk_at "go"
      refine go_app e4 (by rw [nv_len]; exact small_lt (by simp; omega)) ?_
      walk_at "go"
      have e5b : upd H4 a (.lst (nv (ts ++ [y]) ++ [.int (p' : Int)])) b = some (.lst (nv ps)) := by rw [upd_ne nab.symm]; exact e4b
      refine go_bmL (sqL_of e5b) ?_
      walk_at "go"
      refine go_app e5b (by rw [nv_len]; exact small_lt (by omega)) ?_
      walk_at "go"
      refine ⟨m', by omega, ts ++ [y], ps ++ [k'], p', _, _, rfl, same_mut (same_mut (s3.trans s4) na) nb0, ?_, ?_, hp', by omega, by simp; omega, by simp [hl4], ?_, ?_⟩
      · rw [upd_ne nab, upd_same, nv_snoc (ts ++ [y])]
      · rw [upd_same, nv_snoc ps]
      · rw [List.append_assoc]
        exact ht
      · rw [List.append_assoc]
        exact hp
    · have ha : s0.ahead y = none := Option.isNone_iff_eq_none.mp (by simpa using hb)
      obtain ⟨t1, t2⟩ := upT_none (m := m) ha
      rw [t1] at ht
      rw [t2, List.append_nil] at hp
      rw [ht] at e3
      rw [hp] at e3b
      walk_at "go"
      refine go_tupK (by show 2 ≤ sizeLine; decide) fun t H5 nt s5 e5 => ?_
      have s45 := s4.trans s5
      exact k t a b H5 (s3.trans s45) e5 na nb0 nab (s45 _ _ e3) (s45 _ _ e3b)
def sp_Walk_chain (K : PySem.W.Frag) (C : Addr) : Sp := fun vs H Q _ => ∃ (p dx tl sl hl al : Addr) (Z : Hp) (as : Nat → Addr) (rs : List (List Nat)) (n : Nat) (s : S) (dep : Nat → Nat) (x y : Nat), vs = [.ref p, .int (x : Int), .int (y : Int)] ∧
  WA C Z H p dx tl sl hl al n as (ties rs) s ∧ Rw n rs ∧ Fin n rs s dep ∧ x < n ∧ y < n ∧ s.heads x = s.heads y ∧
  ∀ t a b H', Same H H' → H' t = some (.tup [.ref a, .ref b]) → H' a = some (.lst (nv (chain s n x y).1)) → H' b = some (.lst (nv (chain s n x y).2)) → (chain s n x y).1.length ≤ 5000 → (chain s n x y).2.length ≤ 5000 → Q (.ref t) H'
theorem ok_Walk_chain (T : Prog K mg) (B : Blt mg) : FnOk P w K mg base CX0 2 T.f_Walk_chain T.d_Walk_chain ["self", "one", "other"] (sp_Walk_chain K T.C_Walk) := by
  have G_Walk_way_up := ok_Walk_way_up (P := P) (w := w) (base := base) T B
  refine T.F_Walk_chain.ok sc_Walk_chain (fun vs H Q E h => ?_) (fun cdv A outer s H vs Q E hr h => ?_)
  · obtain ⟨p, dx, tl, sl, hl, al, Z, as, rs, n, s0, dep, x, y, rfl, _⟩ := h
    rfl
  · obtain ⟨p, dx, tl, sl, hl, al, Z, as, rs, n, s0, dep, x, y, rfl, W0, RW, F, hx, hy, he, k⟩ := h
    refine ⟨_, pss_cons (ps_asg (pe_meth (pv 0) T.cWalk T.me_Walk_way_up G_Walk_way_up (hr.mono (by decide)) T.b_Walk_way_up .nil pass0 (pa_cons (pv 1) pa_nil)) (gTpl K (n := 2) rfl (pgs_cons (pg_name (i := 3) sc_Walk_chain.nd rfl (.inl rfl)) (pgs_cons (pg_name (i := 4) sc_Walk_chain.nd rfl (.inl rfl)) pgs_nil))))
      (pss_cons (ps_asg (pe_meth (pv 0) T.cWalk T.me_Walk_way_up G_Walk_way_up (hr.mono (by decide)) T.b_Walk_way_up .nil pass0 (pa_cons (pv 2) pa_nil)) (gTpl K (n := 2) rfl (pgs_cons (pg_name (i := 5) sc_Walk_chain.nd rfl (.inl rfl)) (pgs_cons (pg_name (i := 6) sc_Walk_chain.nd rfl (.inl rfl)) pgs_nil))))
      (pss_cons (ps_while PassesOwn.never (PW.pt (pw_and (pt_cmpR op_gt (pe_callB (cLen K) (by rfl) B.len (by decide +kernel) (pa_cons (pv 3) pa_nil)) pe_int (nomark _)) (pw_and (pt_cmpR op_gt (pe_callB (cLen K) (by rfl) B.len (by decide +kernel) (pa_cons (pv 5) pa_nil)) pe_int (nomark _)) (pw_and1 (pt_cmpR op_eq (pe_ix (ixl K) (pv 3) (pe_un un_neg pe_int) (fun _ _ => rfl)) (pe_ix (ixl K) (pv 5) (pe_un un_neg pe_int) (fun _ _ => rfl)) (nomark _)))))) (pss_cons (ps_expr (eBm0 K PySem.F.plainAttrs_list PySem.F.slot_list_pop PySem.F.type_list_pop mt_pop (pv 3)))
      (pss_cons (ps_expr (eBm0 K PySem.F.plainAttrs_list PySem.F.slot_list_pop PySem.F.type_list_pop mt_pop (pv 4)))
      (pss_cons (ps_expr (eBm0 K PySem.F.plainAttrs_list PySem.F.slot_list_pop PySem.F.type_list_pop mt_pop (pv 5)))
      (pss_one (ps_expr (eBm0 K PySem.F.plainAttrs_list PySem.F.slot_list_pop PySem.F.type_list_pop mt_pop (pv 6))))))))
      (pss_one (ps_ret (pe_tup (pa_cons (pe_op op_cat (pv 3) (eRev K (pe_slice (slL K) (pv 5) po_none (po_some (pe_un un_neg pe_int))))) (pa_cons (pe_op op_cat (pv 4) (eRev K (pv 6))) pa_nil))))))), ?_⟩

    have G := RW.G
    have ln := RW.ln
    obtain ⟨bv, ob, _⟩ := W0.ob
    walk_at "go"
    refine go_meK ob (wf_no (by decide +kernel) (by decide +kernel) (by decide +kernel) (by decide +kernel) (by decide +kernel)) ?_
    walk_at "go"
    refine ⟨p, dx, tl, sl, hl, al, Z, as, rs, n, s0, dep, x, rfl, W0, RW, F, hx, fun t1 a1 b1 H1 s1 et1 na1 nb1 nab1 ea1 eb1 => ?_⟩
    refine go_gtup (sqT_of et1) rfl ?_
    walk_at "go"
    refine go_meK (s1 _ _ ob) (wf_no (by decide +kernel) (by decide +kernel) (by decide +kernel) (by decide +kernel) (by decide +kernel)) ?_
    walk_at "go"
    refine ⟨p, dx, tl, sl, hl, al, Z, as, rs, n, s0, dep, y, rfl, W0.same s1, RW, F, hy, fun t2 a2 b2 H2 s2 et2 na2 nb2 nab2 ea2 eb2 => ?_⟩
    refine go_gtup (sqT_of et2) rfl ?_
    walk_at "go"
    have n11 : a1 ≠ a2 := ne_of_none ea1 na2
    have n12 : a1 ≠ b2 := ne_of_none ea1 nb2
    have n21 : b1 ≠ a2 := ne_of_none eb1 na2
    have n22 : b1 ≠ b2 := ne_of_none eb1 nb2
    have za2 : H a2 = none := s1.free na2
    have zb2 : H b2 = none := s1.free nb2
    obtain ⟨r, w1, w2, w3, w4⟩ := F.way G n x hx (F.dep x hx)
    obtain ⟨r', w1', w2', w3', w4'⟩ := F.way G n y hy (F.dep y hy)
    have er : r = r' := by
      rw [w4, w4'] at he
      exact Option.some.inj he
    subst er
    have T0 : Two (Adf rs s0) x y ((upT s0 n x, upP s0 n x), (upT s0 n y, upP s0 n y)) := ⟨w1, w1', upT_head s0 n x, upT_head s0 n y, by rw [w2, w2']⟩
    have lx := upT_len (s := s0) n x
    have ly := upT_len (s := s0) n y
    have hend : ∀ q : Q4, mrg 0 q = q := fun _ => rfl
    have eC : chain s0 n x y = ((mrg n ((upT s0 n x, upP s0 n x), (upT s0 n y, upP s0 n y))).1.1 ++ (mrg n ((upT s0 n x, upP s0 n x), (upT s0 n y, upP s0 n y))).2.1.dropLast.reverse, (mrg n ((upT s0 n x, upP s0 n x), (upT s0 n y, upP s0 n y))).1.2 ++ (mrg n ((upT s0 n x, upP s0 n x), (upT s0 n y, upP s0 n y))).2.2.reverse) := rfl
    rw [eC] at k
    refine go_while (fun m σ H' => ∃ q : Q4, σ = [some (.ref p), some (.int (x : Int)), some (.int (y : Int)), some (.ref a1), some (.ref b1), some (.ref a2), some (.ref b2)] ∧ Same H H' ∧ H' a1 = some (.lst (nv q.1.1)) ∧ H' b1 = some (.lst (nv q.1.2)) ∧ H' a2 = some (.lst (nv q.2.1)) ∧ H' b2 = some (.lst (nv q.2.2)) ∧
        Two (Adf rs s0) x y q ∧ q.1.1.length ≤ m + 1 ∧ q.1.1.length ≤ 1001 ∧ q.2.1.length ≤ 1001 ∧ mrg m q = mrg n ((upT s0 n x, upP s0 n x), (upT s0 n y, upP s0 n y)))
      n ⟨((upT s0 n x, upP s0 n x), (upT s0 n y, upP s0 n y)), rfl, s1.trans s2, s2 _ _ ea1, s2 _ _ eb1, ea2, eb2, T0, lx, by show (upT s0 n x).length ≤ 1001; omega, by show (upT s0 n y).length ≤ 1001; omega, rfl⟩ ?_
    generalize mrg n ((upT s0 n x, upP s0 n x), (upT s0 n y, upP s0 n y)) = qF at k
    rintro m σ H3 ⟨q, rfl, s3, f1, f2, f3, f4, T3, l1, l2, l3, hq⟩
    have c1 := T3.c1.len
    have c2 := T3.c2.len
    refine ⟨decide (more q), fun QB qb => ?_, fun H4 s4 => ⟨fun hb => ?_, fun hb => ?_⟩⟩
    · walk_at "go"
      rw [nv_len]
      refine if_by (fun h1 => ?_) (fun h1 => ?_)
      · have h1 : (1 : Int) < (q.1.1.length : Int) := of_decide_eq_true h1
        walk_at "go"
        rw [nv_len]
        refine if_by (fun h2 => ?_) (fun h2 => ?_)
        · have h2 : (1 : Int) < (q.2.1.length : Int) := of_decide_eq_true h2
          walk_at "go"
          refine go_ixL (sqL_of f1) (nv_second (by omega)) ?_
          walk_at "go"
          refine go_ixL (sqL_of f3) (nv_second (by omega)) ?_
          walk_at "go"
          refine leaf qb ?_ (Same.refl _)
          rw [Bool.eq_iff_iff, decide_eq_true_eq, decide_eq_true_eq]
          unfold more
          constructor
          · rintro ⟨_, _, e⟩
            rw [e]
          · intro e
            exact ⟨by omega, by omega, by omega⟩
        · have h2 : ¬ (1 : Int) < (q.2.1.length : Int) := of_decide_eq_false h2
          exact leaf qb (decide_eq_false (fun z => h2 (by have := z.2.1; omega))) (Same.refl _)
      · have h1 : ¬ (1 : Int) < (q.1.1.length : Int) := of_decide_eq_false h1
        exact leaf qb (decide_eq_false (fun z => h1 (by have := z.1; omega))) (Same.refl _)
    · have hb := of_decide_eq_true hb
      obtain ⟨b1', b2', b3'⟩ := id hb
      obtain ⟨m', rfl⟩ : ∃ m', m = m' + 1 := by
        cases m with
        | zero => omega
        | succ m' => exact ⟨m', rfl⟩
      rw [mrg_more hb] at hq
      have g1 := s4 _ _ f1
      have g2 := s4 _ _ f2
      have g3 := s4 _ _ f3
      have g4 := s4 _ _ f4
      walk_at "go"
      refine go_popN g1 (fun e => by rw [e] at b1'; simp at b1') fun _ => ?_
      have g2' : upd H4 a1 (.lst (nv q.1.1.dropLast)) b1 = some (.lst (nv q.1.2)) := by rw [upd_ne nab1.symm]; exact g2
      walk_at "go"
      refine go_popN g2' (fun e => by rw [e] at c1; simp at c1; omega) fun _ => ?_
      have g3' : upd (upd H4 a1 (.lst (nv q.1.1.dropLast))) b1 (.lst (nv q.1.2.dropLast)) a2 = some (.lst (nv q.2.1)) := by rw [upd_ne n21.symm, upd_ne n11.symm]; exact g3
      walk_at "go"
      refine go_popN g3' (fun e => by rw [e] at b2'; simp at b2') fun _ => ?_
      have g4' : upd (upd (upd H4 a1 (.lst (nv q.1.1.dropLast))) b1 (.lst (nv q.1.2.dropLast))) a2 (.lst (nv q.2.1.dropLast)) b2 = some (.lst (nv q.2.2)) := by rw [upd_ne nab2.symm, upd_ne n22.symm, upd_ne n12.symm]; exact g4
      walk_at "go"
      refine go_popN g4' (fun e => by rw [e] at c2; simp at c2; omega) fun _ => ?_
      walk_at "go"
      refine ⟨m', by omega, cutQ q, rfl, same_mut (same_mut (same_mut (same_mut (s3.trans s4) na1) nb1) za2) zb2, ?_, ?_, ?_, ?_, T3.cut hb, ?_, ?_, ?_, hq⟩
      · rw [upd_ne n12, upd_ne n11, upd_ne nab1, upd_same]
        rfl
      · rw [upd_ne n22, upd_ne n21, upd_same]
        rfl
      · rw [upd_ne nab2, upd_same]
        rfl
      · rw [upd_same]
        rfl
      · show q.1.1.dropLast.length ≤ m' + 1
        rw [List.length_dropLast]
        omega
      · show q.1.1.dropLast.length ≤ 1001
        rw [List.length_dropLast]
        omega
      · show q.2.1.dropLast.length ≤ 1001
        rw [List.length_dropLast]
        omega
    · have hb := of_decide_eq_false hb
      rw [mrg_stop hb] at hq
      subst hq
      have g1 := s4 _ _ f1
      have g2 := s4 _ _ f2
      have g3 := s4 _ _ f3
      have g4 := s4 _ _ f4
      walk_at "go"
      refine go_cut (sqL_of g3) fun c H5 nc s5 e5 => ?_
      rw [cut_last, ← nv_drop] at e5
      refine go_reK (sqL_of e5) fun c2' H6 nc2 s6 e6 => ?_
      rw [← nv_rev] at e6
      refine go_cat (s6 _ _ (s5 _ _ g1)) e6 (by rw [nv_len, nv_len, List.length_reverse, List.length_dropLast]; exact small_le (by omega)) fun d H7 nd s7 e7 => ?_
      rw [← nv_app] at e7
      have s57 := (s5.trans s6).trans s7
      walk_at "go"
      refine go_reK (sqL_of (s57 _ _ g4)) fun c3 H8 nc3 s8 e8 => ?_
      rw [← nv_rev] at e8
      refine go_cat (s8 _ _ (s57 _ _ g2)) e8 (by rw [nv_len, nv_len, List.length_reverse]; exact small_le (by omega)) fun d2 H9 nd2 s9 e9 => ?_
      rw [← nv_app] at e9
      walk_at "go"
      refine go_tupK (by show 2 ≤ sizeLine; decide) fun t H10 nt s10 e10 => ?_
      exact k t d d2 H10 ((((s3.trans s4).trans s57).trans s8).trans (s9.trans s10)) e10 (s10 _ _ (s9 _ _ (s8 _ _ e7))) (s10 _ _ e9) (by simp; omega) (by simp; omega)
def sp_Walk_ring (K : PySem.W.Frag) (C CR : Addr) : Sp := fun vs H Q _ => ∃ (p dx tl sl hl al : Addr) (Z : Hp) (as : Nat → Addr) (rs : List (List Nat)) (n : Nat) (s : S) (dep : Nat → Nat) (b : Nat × Nat × Nat), vs = [.ref p] ∧
  WA C Z H p dx tl sl hl al n as (ties rs) s ∧ Rw n rs ∧ Fin n rs s dep ∧ s.bar = some b ∧
  ∀ r dx l m H', Same H H' → H r = none → H l = none → H m = none → l ≠ m → H' r = some (.ins CR dx (f2 "things" "places" l m)) → H' l = some (.lst (nv (ring s n b).1)) → H' m = some (.lst (nv (ring s n b).2)) →
    (ring s n b).1.length ≤ 5001 → (ring s n b).2.length ≤ 5001 → Q (.ref r) H' 
theorem ok_Walk_ring (T : Prog K mg) (B : Blt mg) : FnOk P w K mg base CX0 3 T.f_Walk_ring T.d_Walk_ring ["self"] (sp_Walk_ring K T.C_Walk T.C_Ring) := by
  have G_Walk_chain := ok_Walk_chain (P := P) (w := w) (base := base) T B
  have G_Ring_init := ok_Ring_init (P := P) (w := w) (base := base) T B
  refine T.F_Walk_ring.ok sc_Walk_ring (fun vs H Q E h => ?_) (fun cdv A outer s H vs Q E hr h => ?_)
  · obtain ⟨p, dx, tl, sl, hl, al, Z, as, rs, n, s0, dep, b, rfl, _⟩ := h
    rfl
  · obtain ⟨p, dx, tl, sl, hl, al, Z, as, rs, n, s0, dep, b, rfl, W0, RW, F, hb, k⟩ := h
    refine ⟨_, pss_cons (ps_asg (eFld K (pv 0)) (gTpl K (n := 3) rfl (pgs_cons (pg_name (i := 1) sc_Walk_ring.nd rfl (.inl rfl)) (pgs_cons (pg_name (i := 2) sc_Walk_ring.nd rfl (.inl rfl)) (pgs_cons (pg_name (i := 3) sc_Walk_ring.nd rfl (.inl rfl)) pgs_nil)))))
      (pss_cons (ps_asg (pe_meth (pv 0) T.cWalk T.me_Walk_chain G_Walk_chain (hr.mono (by decide)) T.b_Walk_chain .nil pass0 (pa_cons (pv 1) (pa_cons (pv 2) pa_nil))) (gTpl K (n := 2) rfl (pgs_cons (pg_name (i := 4) sc_Walk_ring.nd rfl (.inl rfl)) (pgs_cons (pg_name (i := 5) sc_Walk_ring.nd rfl (.inl rfl)) pgs_nil))))
      (pss_one (ps_ret (pe_make T.mRing G_Ring_init (hr.mono (by decide)) (by rfl) T.gRing T.b_Ring_init .nil pass0 (pa_cons (pe_op op_cat (pv 4) (pe_lst (pa_cons (pv 1) pa_nil))) (pa_cons (pe_op op_cat (pv 5) (pe_lst (pa_cons (pv 3) pa_nil))) pa_nil)))))), ?_⟩

    have G := RW.G
    obtain ⟨b1, b2, b3⟩ := b
    obtain ⟨bv, ob, hbar⟩ := W0.ob
    rw [hb] at hbar
    obtain ⟨tb, rfl, etb⟩ := hbar
    obtain ⟨u1, u2⟩ := F.bar b1 b2 b3 hb
    obtain ⟨l1, l2, l3⟩ := G.adj_lt u1
    walk_at "go"
    refine go_fldK ob T.cWalk T.n_Walk_bar wf_bar ?_
    refine go_gtup (sqT_of etb) rfl ?_
    walk_at "go"
    refine go_meK ob (wf_no (by decide +kernel) (by decide +kernel) (by decide +kernel) (by decide +kernel) (by decide +kernel)) ?_
    walk_at "go"
    refine ⟨p, dx, tl, sl, hl, al, Z, as, rs, n, s0, dep, b1, b2, rfl, W0, RW, F, l1, l2, F.adj b3 b1 b2 u1, fun t a c H1 s1 et ea ec la lc => ?_⟩
    refine go_gtup (sqT_of et) rfl ?_
    walk_at "go"
    refine go_lstK (by show 1 ≤ sizeLine; decide) fun h1 H2 nh1 s2 e2 => ?_
    refine go_cat (s2 _ _ ea) e2 (by rw [nv_len]; exact small_le (by simp; omega)) fun d1 H3 nd1 s3 e3 => ?_
    rw [← nv_snoc] at e3
    walk_at "go"
    refine go_lstK (by show 1 ≤ sizeLine; decide) fun h2 H4 nh2 s4 e4 => ?_
    refine go_cat (s4 _ _ (s3 _ _ (s2 _ _ ec))) e4 (by rw [nv_len]; exact small_le (by simp; omega)) fun d2 H5 nd2 s5 e5 => ?_
    rw [← nv_snoc] at e5
    have s15 : Same H H5 := s1.trans (s2.trans (s3.trans (s4.trans s5)))
    walk_at "go"
    refine go_mkK fun r dr H6 nr ndr ne s6 e6 => ?_
    refine ⟨r, dr, d1, d2, _, _, rfl, e6, sqL_of (s6 _ _ (s5 _ _ (s4 _ _ e3))), sqL_of (s6 _ _ e5), fun l m H7 nl nm nlm bt er el em => ⟨rfl, ?_⟩⟩
    have s7 : Same H H7 := bt.same (s15.trans s6) (s15.free nr)
    exact k r dr l m H7 s7 (s15.free nr) ((s15.trans s6).free nl) ((s15.trans s6).free nm) nlm er el em (by simp [ring]; omega) (by simp [ring]; omega)
def sp_deal (K : PySem.W.Frag) (CD CR : Addr) : Sp := fun vs H Q _ => ∃ (a : Addr) (rs : List (List Nat)) (n : Nat), vs = [.ref a] ∧ RowsAt K H a rs ∧ Rw n rs ∧
  ((walk n rs).bar = none → ∀ r dx l H', Same H H' → H r = none → H l = none → H' r = some (.ins CD dx (f1 "sides" l)) → H' l = some (.lst ((dl n (walk n rs)).map V.int)) → Q (.ref r) H') ∧
  (∀ b, (walk n rs).bar = some b → ∀ r dx l m H', Same H H' → H r = none → H l = none → H m = none → l ≠ m → H' r = some (.ins CR dx (f2 "things" "places" l m)) → H' l = some (.lst (nv (ring (walk n rs) n b).1)) → H' m = some (.lst (nv (ring (walk n rs) n b).2)) →
    (ring (walk n rs) n b).1.length ≤ 5001 → (ring (walk n rs) n b).2.length ≤ 5001 → Q (.ref r) H' )
theorem ok_deal (T : Prog K mg) (B : Blt mg) : FnOk P w K mg base CX0 4 T.f_deal T.d_deal ["rows"] (sp_deal K T.C_Dealt T.C_Ring) := by
  have G_check_rows := ok_check_rows (P := P) (w := w) (base := base) T B
  have G_Walk_init := ok_Walk_init (P := P) (w := w) (base := base) T B
  have G_Walk_ring := ok_Walk_ring (P := P) (w := w) (base := base) T B
  have G_Dealt_init := ok_Dealt_init (P := P) (w := w) (base := base) T B
  refine T.F_deal.ok sc_deal (fun vs H Q E h => ?_) (fun cdv A outer s H vs Q E hr h => ?_)
  · obtain ⟨a, rs, n, rfl, _⟩ := h
    rfl
  · obtain ⟨a, rs, n, rfl, hR, RW, k1, k2⟩ := h
    refine ⟨_, pss_cons (ps_expr (pe_call G_check_rows (hr.mono (by decide)) (by rfl) T.g_check_rows T.F_check_rows.kp T.b_check_rows .nil pass0 (pa_cons (pv 0) pa_nil)))
      (pss_cons (ps_set (i := 1) sc_deal.nd rfl (.inl rfl) (pe_make T.mWalk G_Walk_init (hr.mono (by decide)) (by rfl) T.gWalk T.b_Walk_init .nil pass0 (pa_cons (pv 0) pa_nil)))
      (pss_cons (ps_if (pt_cmpR op_notN1 (eFld K (pv 1)) pe_non (nomark _)) (pss_one (ps_ret (pe_meth0 (pv 1) T.cWalk T.me_Walk_ring G_Walk_ring (hr.mono (by decide)) T.b_Walk_ring .nil pass0))) pss_nil)
      (pss_one (ps_ret (pe_make T.mDealt G_Dealt_init (hr.mono (by decide)) (by rfl) T.gDealt T.b_Dealt_init .nil pass0 (pa_cons (eFld K (pv 1)) pa_nil)))))), ?_⟩

    have G := RW.G
    obtain ⟨dep, F⟩ := walk_fin G
    walk_at "go"
    refine ⟨a, rs, n, rfl, hR, RW, fun H1 s1 => ?_⟩
    walk_at "go"
    refine go_mkK fun x dx H2 nx ndx ne s2 e2 => ?_
    refine ⟨x, dx, a, rs, n, rfl, e2, hR.same (s1.trans s2), RW, fun Z tl sl hl al as H3 sZ W => ⟨rfl, ?_⟩⟩
    have s3 : Same H H3 := (hide_old (s1.trans s2) (s1.free nx)).trans (sZ.trans W.zs)
    obtain ⟨bv, ob, hbar⟩ := W.ob
    walk_at "go"
    refine cut_ifS ((walk n rs).bar.isSome) (fun QB q => ?_) (fun H4 s4 => ?_)
    · walk_at "go"
      refine go_fldK ob T.cWalk T.n_Walk_bar wf_bar ?_
      walk_at "go"
      refine leaf q ?_ (Same.refl _)
      cases hb : (walk n rs).bar with
      | none =>
        rw [hb] at hbar
        have hbar : bv = .non := hbar
        subst hbar
        rfl
      | some b =>
        obtain ⟨b1, b2, b3⟩ := b
        rw [hb] at hbar
        obtain ⟨t, rfl, _⟩ := hbar
        rfl
    · have W4 := W.same s4
      have ob4 := s4 _ _ ob
      refine if_by (fun hb => ?_) (fun hb => ?_)
      · obtain ⟨b, hb⟩ := Option.isSome_iff_exists.mp hb
        walk_at "go"
        refine go_meK ob4 (wf_no (by decide +kernel) (by decide +kernel) (by decide +kernel) (by decide +kernel) (by decide +kernel)) ?_
        walk_at "go"
        refine ⟨x, dx, tl, sl, hl, al, Z, as, rs, n, walk n rs, dep, b, rfl, W4, RW, F, hb, fun r dr l m H5 s5 nr nl nm nlm er el em ll lm => ?_⟩
        have s34 := s3.trans s4
        exact k2 b hb r dr l m H5 (s34.trans s5) (s34.free nr) (s34.free nl) (s34.free nm) nlm er el em ll lm
      · have hb : (walk n rs).bar = none := by
          cases h : (walk n rs).bar with
          | none => rfl
          | some b => rw [h] at hb; cases hb
        have esd := W4.sd
        rw [tab_dl] at esd
        walk_at "go"
        refine go_fldK ob4 T.cWalk T.n_Walk_sides wf_sides ?_
        walk_at "go"
        refine go_mkK fun r dr H5 nr ndr ne5 s5 e5 => ?_
        refine ⟨r, dr, sl, _, rfl, e5, sqL_of (s5 _ _ esd), fun l H6 nl bt er el => ⟨rfl, ?_⟩⟩
        have s34 := s3.trans s4
        exact k1 hb r dr l H6 (bt.same (s34.trans s5) (s34.free nr)) (s34.free nr) ((s34.trans s5).free nl) er el
def sp_check_thing (K : PySem.W.Frag) : Sp := fun vs H Q _ => ∃ (a : Addr) (rs : List (List Nat)) (n x : Nat), vs = [.ref a, .int (x : Int)] ∧ RowsAt K H a rs ∧ Good n rs ∧ x < n ∧ Q .non H
theorem ok_check_thing (T : Prog K mg) (B : Blt mg) : FnOk P w K mg base CX0 2 T.f_check_thing T.d_check_thing ["rows", "thing"] (sp_check_thing K) := by
  have G_is_number := ok_is_number (P := P) (w := w) (base := base) T B
  refine T.F_check_thing.ok sc_check_thing (fun vs H Q E h => ?_) (fun cdv A outer s H vs Q E hr h => ?_)
  · obtain ⟨a, rs, n, x, rfl, _⟩ := h
    rfl
  · obtain ⟨a, rs, n, x, rfl, hR, G, hx, k⟩ := h
    refine ⟨_, pss_one (ps_if (PW.pt (pw_or (pt_not (pt_val (pe_call G_is_number (hr.mono (by decide)) (by rfl) T.g_is_number T.F_is_number.kp T.b_is_number .nil pass0 (pa_cons (pv 1) pa_nil)))) (pw_or1 (pt_not (pt_chain op_le op_lt pe_int (pv 1) (pe_callB (cLen K) (by rfl) B.len (by decide +kernel) (pa_cons (pe_ix (ixl K) (pv 0) pe_int (fun _ _ => rfl)) pa_nil))))))) (pss_one ps_never) pss_nil), ?_⟩

    have h0 : 0 < rs.length := List.length_pos_iff.mpr G.ne
    have hn0 : (rs.getD 0 []).length = n := G.len (Good.at_mem h0)
    obtain ⟨xs, p, hA, hlen, hat, hp⟩ := rows0 hR h0
    refine go_ifS ?_
    walk_at "go"
    refine ⟨_, rfl, ?_⟩
    walk_at "go"
    refine if_no rfl ?_
    walk_at "go"
    refine if_yes (decide_eq_true (by omega)) ?_
    walk_at "go"
    refine go_ixL hA hat ?_
    walk_at "go"
    rw [nv_len, hn0, decide_eq_true (by omega)]
    refine if_no rfl ?_
    walk_at "go"
    exact k
def sp_tied (K : PySem.W.Frag) (CR CC CF : Addr) : Sp := fun vs H Q _ => ∃ (a : Addr) (rs : List (List Nat)) (n x y : Nat), vs = [.ref a, .int (x : Int), .int (y : Int)] ∧ RowsAt K H a rs ∧ Rw n rs ∧ x < n ∧ y < n ∧
  ∀ e H', Same H H' → Told CR CC CF H H' n rs x y e → Q (.ref e) H'
theorem ok_tied (T : Prog K mg) (B : Blt mg) : FnOk P w K mg base CX0 4 T.f_tied T.d_tied ["rows", "one", "other"] (sp_tied K T.C_Ring T.C_Chain T.C_Free) := by
  have G_check_rows := ok_check_rows (P := P) (w := w) (base := base) T B
  have G_check_thing := ok_check_thing (P := P) (w := w) (base := base) T B
  have G_Walk_init := ok_Walk_init (P := P) (w := w) (base := base) T B
  have G_Walk_ring := ok_Walk_ring (P := P) (w := w) (base := base) T B
  have G_Walk_chain := ok_Walk_chain (P := P) (w := w) (base := base) T B
  have G_Chain_init := ok_Chain_init (P := P) (w := w) (base := base) T B
  have G_Free_init := ok_Free_init (P := P) (w := w) (base := base) T B
  refine T.F_tied.ok sc_tied (fun vs H Q E h => ?_) (fun cdv A outer s H vs Q E hr h => ?_)
  · obtain ⟨a, rs, n, x, y, rfl, _⟩ := h
    rfl
  · obtain ⟨a, rs, n, x, y, rfl, hR, RW, hx, hy, k⟩ := h
    refine ⟨_, pss_cons (ps_expr (pe_call G_check_rows (hr.mono (by decide)) (by rfl) T.g_check_rows T.F_check_rows.kp T.b_check_rows .nil pass0 (pa_cons (pv 0) pa_nil)))
      (pss_cons (ps_expr (pe_call G_check_thing (hr.mono (by decide)) (by rfl) T.g_check_thing T.F_check_thing.kp T.b_check_thing .nil pass0 (pa_cons (pv 0) (pa_cons (pv 1) pa_nil))))
      (pss_cons (ps_expr (pe_call G_check_thing (hr.mono (by decide)) (by rfl) T.g_check_thing T.F_check_thing.kp T.b_check_thing .nil pass0 (pa_cons (pv 0) (pa_cons (pv 2) pa_nil))))
      (pss_cons (ps_set (i := 3) sc_tied.nd rfl (.inr rfl) (pe_make T.mWalk G_Walk_init (hr.mono (by decide)) (by rfl) T.gWalk T.b_Walk_init .nil pass0 (pa_cons (pv 0) pa_nil)))
      (pss_cons (ps_if (pt_cmpR op_notN1 (eFld K (pv 3)) pe_non (nomark _)) (pss_one (ps_ret (pe_meth0 (pv 3) T.cWalk T.me_Walk_ring G_Walk_ring (hr.mono (by decide)) T.b_Walk_ring .nil pass0))) pss_nil)
      (pss_cons (ps_if (pt_cmpR op_eq (pe_ix (ixl K) (eFld K (pv 3)) (pv 1) (fun _ _ => rfl)) (pe_ix (ixl K) (eFld K (pv 3)) (pv 2) (fun _ _ => rfl)) (nomark _)) (pss_cons (ps_asg (pe_meth (pv 3) T.cWalk T.me_Walk_chain G_Walk_chain (hr.mono (by decide)) T.b_Walk_chain .nil pass0 (pa_cons (pv 1) (pa_cons (pv 2) pa_nil))) (gTpl K (n := 2) rfl (pgs_cons (pg_name (i := 4) sc_tied.nd rfl (.inl rfl)) (pgs_cons (pg_name (i := 5) sc_tied.nd rfl (.inl rfl)) pgs_nil))))
      (pss_one (ps_ret (pe_make T.mChain G_Chain_init (hr.mono (by decide)) (by rfl) T.gChain T.b_Chain_init .nil pass0 (pa_cons (pv 4) (pa_cons (pv 5) pa_nil)))))) pss_nil)
      (pss_cons (ps_setLc (i := 6) (own := [("side", 7), ("head", 8)]) (by rfl) sc_tied.nd rfl rfl (sw_true rfl rfl rfl (by decide +kernel)) (iZp K (by rfl) B.zip (pa_cons (eFld K (pv 3)) (pa_cons (eFld K (pv 3)) pa_nil))) (blkOk_by (own := [("side", 7), ("head", 8)]) (N := N_tied) (sc := defScope s_tied) (by decide +kernel)) (fun _ _ _ _ _ => (gTpl K (n := 2) rfl (pgs_cons (pg_name (i := 7) sc_tied.nd rfl (by first | exact .inl rfl | exact .inr rfl)) (pgs_cons (pg_name (i := 8) sc_tied.nd rfl (by first | exact .inl rfl | exact .inr rfl)) pgs_nil)))) (fun _ _ _ _ _ => pts_nil) (fun _ _ _ _ _ => (pe_ifExp (pt_cmpR op_eq (pv 8) (pe_ix (ixl K) (eFld K (pv 3)) (pv 1) (fun _ _ => rfl)) (nomark _)) (pe_op op_sub pe_int (pv 7)) (pv 7))))
      (pss_cons (ps_if (pt_cmpR op_eq (pe_ix (ixl K) (eFld K (pv 3)) (pv 1) (fun _ _ => rfl)) (pe_ix (ixl K) (eFld K (pv 3)) (pv 2) (fun _ _ => rfl)) (nomark _)) (pss_one (ps_ret (pe_make T.mFree G_Free_init (hr.mono (by decide)) (by rfl) T.gFree T.b_Free_init .nil pass0 (pa_cons (eFld K (pv 3)) (pa_cons (pv 6) pa_nil))))) pss_nil)
      (pss_one (ps_ret (pe_make T.mFree G_Free_init (hr.mono (by decide)) (by rfl) T.gFree T.b_Free_init .nil pass0 (pa_cons (pv 6) (pa_cons (eFld K (pv 3)) pa_nil)))))))))))), ?_⟩

    have G := RW.G
    have b1 := RW.ln
    obtain ⟨dep, F⟩ := walk_fin G
    walk_at "go"
    refine ⟨a, rs, n, rfl, hR, RW, fun H1 s1 => ?_⟩
    have hR1 := hR.same s1
    walk_at "go"
    refine ⟨a, rs, n, x, rfl, hR1, G, hx, ?_⟩
    walk_at "go"
    refine ⟨a, rs, n, y, rfl, hR1, G, hy, ?_⟩
    walk_at "go"
    refine go_mkK fun p dx H2 np ndx ne s2 e2 => ?_
    refine ⟨p, dx, a, rs, n, rfl, e2, hR.same (s1.trans s2), RW, fun Z tl sl hl al as H3 sZ W => ⟨rfl, ?_⟩⟩
    have s3 : Same H H3 := (hide_old (s1.trans s2) (s1.free np)).trans (sZ.trans W.zs)
    obtain ⟨bv, ob, hbar⟩ := W.ob
    walk_at "go"
    refine cut_ifS ((walk n rs).bar.isSome) (fun QB q => ?_) (fun H4 s4 => ?_)
    · walk_at "go"
      refine go_fldK ob T.cWalk T.n_Walk_bar wf_bar ?_
      walk_at "go"
      refine leaf q ?_ (Same.refl _)
      cases hb : (walk n rs).bar with
      | none =>
        rw [hb] at hbar
        have hbar : bv = .non := hbar
        subst hbar
        rfl
      | some b =>
        obtain ⟨b1, b2, b3⟩ := b
        rw [hb] at hbar
        obtain ⟨t, rfl, _⟩ := hbar
        rfl
    have W4 := W.same s4
    have ob4 := s4 _ _ ob
    have s34 := s3.trans s4
    refine if_by (fun hb => ?_) (fun hb => ?_)
    · obtain ⟨b, hb⟩ := Option.isSome_iff_exists.mp hb
      walk_at "go"
      refine go_meK ob4 (wf_no (by decide +kernel) (by decide +kernel) (by decide +kernel) (by decide +kernel) (by decide +kernel)) ?_
      walk_at "go"
      refine ⟨p, dx, tl, sl, hl, al, Z, as, rs, n, walk n rs, dep, b, rfl, W4, RW, F, hb, fun r dr l m H5 s5 nr nl nm nlm er el em ll lm => ?_⟩
      have hrg := ring_ok G (F.ring G hb)
      rw [nv_iN] at el em
      rw [← iN_len] at ll lm
      refine k r H5 (s34.trans s5) (.ring (by rw [hb]; exact fun z => nomatch z) er el em (s34.free nr) (s34.free nl) (s34.free nm) nlm hrg.1 (by rw [iN_len]; exact hrg.2) ll lm)
    have hb : (walk n rs).bar = none := by
      cases h : (walk n rs).bar with
      | none => rfl
      | some b => rw [h] at hb; cases hb
    have hd4 := W4.hd
    have sd4 := W4.sd
    walk_at "go"
    refine cut_ifS (decide ((walk n rs).heads x = (walk n rs).heads y)) (fun QB q => ?_) (fun H5 s5 => ?_)
    · walk_at "go"
      refine go_fldK ob4 T.cWalk T.n_Walk_heads wf_heads ?_
      walk_at "go"
      refine go_ixL (sqL_of hd4) (tab_at rfl hx) ?_
      walk_at "go"
      refine go_fldK ob4 T.cWalk T.n_Walk_heads wf_heads ?_
      walk_at "go"
      refine go_ixL (sqL_of hd4) (tab_at rfl hy) ?_
      refine go_eqI ?_
      walk_at "go"
      refine leaf q ?_ (Same.refl _)
      rw [Bool.eq_iff_iff, decide_eq_true_eq, decide_eq_true_eq]
      exact ⟨fun z => by rw [z], hi_inj⟩
    have W5 := W4.same s5
    have ob5 := s5 _ _ ob4
    have s35 := s34.trans s5
    refine if_by (fun hh => ?_) (fun hh => ?_)
    · rw [decide_eq_true_eq] at hh
      walk_at "go"
      refine go_meK ob5 (wf_no (by decide +kernel) (by decide +kernel) (by decide +kernel) (by decide +kernel) (by decide +kernel)) ?_
      walk_at "go"
      refine ⟨p, dx, tl, sl, hl, al, Z, as, rs, n, walk n rs, dep, x, y, rfl, W5, RW, F, hx, hy, hh, fun t g c H6 s6 et eg ec lg lc => ?_⟩
      refine go_gtup (sqT_of et) rfl ?_
      walk_at "go"
      obtain ⟨cc, ch, cl⟩ := F.chain G hx hy hh
      have cc : Ch (Adj rs) _ _ := Ch.mono (fun _ _ _ r => r.1) cc
      have ok := way_ok G cc ch cl hx
      have hlen := cc.len
      rw [nv_iN] at eg ec
      rw [← iN_len, ← iN_len (chain (walk n rs) n x y).2] at hlen
      rw [← iN_len] at lg lc
      have s36 := s35.trans s6
      refine go_mkK fun r dr H7 nr ndr ne7 s7 e7 => ?_
      refine ⟨r, dr, g, c, _, _, rfl, e7, sqL_of (s7 _ _ eg), sqL_of (s7 _ _ ec), fun l m H8 nl nm lm bt er el em => ⟨rfl, ?_⟩⟩
      have nrH := s36.free nr
      exact k r H8 (bt.same (s36.trans s7) nrH) (.chain hb hh er el em nrH ((s36.trans s7).free nl) ((s36.trans s7).free nm) lm ok hlen.symm (by omega) (by omega))
    · have hh := of_decide_eq_false hh
      have fok := free_ok G F hb hx hy hh
      have hd5 := s5 _ _ hd4
      have sd5 := s5 _ _ sd4
      walk_at "go"
      refine go_fldK ob5 T.cWalk T.n_Walk_sides wf_sides ?_
      walk_at "go"
      refine go_fldK ob5 T.cWalk T.n_Walk_heads wf_heads ?_
      walk_at "go"
      refine go_izK (sqL_of sd5) (sqL_of hd5) ?_
      refine go_lcP (walk_zip (n := n) (by rw [tab_len, tab_len]; omega)) (by omega) (fun i => .int (if decide ((walk n rs).heads i = (walk n rs).heads x) = true then 1 - si ((walk n rs).sides i) else si ((walk n rs).sides i))) (fun H' s' => ⟨s'.seq (sqL_of sd5), s'.seq (sqL_of hd5)⟩) ?_ fun D H6 nD s6 e6 => ?_
      · rintro i v H6 H' R hin s6 ⟨Tp, x1, x2, rfl, nT, rfl, ex1, ex2⟩ hk
        have ex1 : sv ((walk n rs).sides i) = x1 := Option.some.inj ((tab_get hin).symm.trans ex1)
        have ex2 : hv ((walk n rs).heads i) = x2 := Option.some.inj ((tab_get hin).symm.trans ex2)
        subst ex1 ex2
        refine go_gtup (sqT_of upd_same) rfl ?_
        have s7 : Same H6 (upd H6 Tp (.tup [sv ((walk n rs).sides i), hv ((walk n rs).heads i)])) := same_new nT
        revert s7
        generalize upd H6 Tp (.tup [sv ((walk n rs).sides i), hv ((walk n rs).heads i)]) = H7
        intro s7
        have s57 := s6.trans s7
        refine go_gcons (go_name (go_gcons (go_name (go_gnil ⟨rfl, ?_⟩))))
        walk_at "go"
        refine go_fldK (s57 _ _ ob5) T.cWalk T.n_Walk_heads wf_heads ?_
        walk_at "go"
        refine go_ixL (sqL_of (s57 _ _ hd5)) (tab_at rfl hx) ?_
        refine go_eqI ?_
        walk_at "go"
        have e : decide (hi ((walk n rs).heads i) = hi ((walk n rs).heads x)) = decide ((walk n rs).heads i = (walk n rs).heads x) := by
          rw [Bool.eq_iff_iff, decide_eq_true_eq, decide_eq_true_eq]
          exact ⟨hi_inj, fun z => by rw [z]⟩
        rw [e]
        refine if_by (fun hq => ?_) (fun hq => ?_)
        · rw [if_pos hq] at hk
          walk_at "go"
          refine go_I0 ?_
          exact hk _ s7
        · rw [if_neg (by rw [hq]; decide)] at hk
          walk_at "go"
          exact hk _ s7
      have e6 : H6 D = some (.lst ((tnl n (walk n rs) x).map V.int)) := by
        rw [e6]
        unfold tnl
        rw [List.map_map]
        rfl
      have ob6 := s6 _ _ ob5
      have sd6 := s6 _ _ sd5
      have s36 := s35.trans s6
      walk_at "go"
      refine cut_ifS (decide ((walk n rs).sides x = (walk n rs).sides y)) (fun QB q => ?_) (fun H7 s7 => ?_)
      · walk_at "go"
        refine go_fldK ob6 T.cWalk T.n_Walk_sides wf_sides ?_
        walk_at "go"
        refine go_ixL (sqL_of sd6) (tab_at rfl hx) ?_
        walk_at "go"
        refine go_fldK ob6 T.cWalk T.n_Walk_sides wf_sides ?_
        walk_at "go"
        refine go_ixL (sqL_of sd6) (tab_at rfl hy) ?_
        refine go_eqI ?_
        walk_at "go"
        refine leaf q ?_ (Same.refl _)
        rw [Bool.eq_iff_iff, decide_eq_true_eq, decide_eq_true_eq]
        exact ⟨fun z => by rw [z], si_inj⟩
      have sA := s36.trans s7
      have ob7 := s7 _ _ ob6
      have sd7 := s7 _ _ sd6
      have e7 := s7 _ _ e6
      rw [tab_dl] at sd7
      refine if_by (fun hq => ?_) (fun hq => ?_)
      · rw [decide_eq_true_eq] at hq
        walk_at "go"
        refine go_fldK ob7 T.cWalk T.n_Walk_sides wf_sides ?_
        walk_at "go"
        refine go_mkK fun r dr H9 nr ndr ne9 s9 e9 => ?_
        refine ⟨r, dr, sl, D, _, _, rfl, e9, sqL_of (s9 _ _ sd7), sqL_of (s9 _ _ e7), fun l m Hx nl nm lm bt er el em => ⟨rfl, ?_⟩⟩
        have nrH := sA.free nr
        exact k r Hx (bt.same (sA.trans s9) nrH) (.free hb hh er el em nrH ((sA.trans s9).free nl) ((sA.trans s9).free nm) lm (fok.1 hq) dl_len tnl_len)
      · have hq := of_decide_eq_false hq
        walk_at "go"
        refine go_fldK ob7 T.cWalk T.n_Walk_sides wf_sides ?_
        walk_at "go"
        refine go_mkK fun r dr H9 nr ndr ne9 s9 e9 => ?_
        refine ⟨r, dr, D, sl, _, _, rfl, e9, sqL_of (s9 _ _ e7), sqL_of (s9 _ _ sd7), fun l m Hx nl nm lm bt er el em => ⟨rfl, ?_⟩⟩
        have nrH := sA.free nr
        exact k r Hx (bt.same (sA.trans s9) nrH) (.free hb hh er el em nrH ((sA.trans s9).free nl) ((sA.trans s9).free nm) lm (fok.2 hq) tnl_len dl_len)
def sp_heads_of (K : PySem.W.Frag) (C : Addr) : Sp := fun vs H Q _ => ∃ (p dx tl sl hl al : Addr) (Z : Hp) (as : Nat → Addr) (rs : List (List Nat)) (n : Nat) (s : S) (dep : Nat → Nat), vs = [.ref p] ∧
  WA C Z H p dx tl sl hl al n as (ties rs) s ∧ Rw n rs ∧ Fin n rs s dep ∧ ∀ q H', Same H H' → H q = none → H' q = some (.lst (nv (hds n s))) → Q (.ref q) H'
theorem ok_heads_of (T : Prog K mg) (B : Blt mg) : FnOk P w K mg base CX0 1 T.f_heads_of T.d_heads_of ["walk"] (sp_heads_of K T.C_Walk) := by
  refine T.F_heads_of.ok sc_heads_of (fun vs H Q E h => ?_) (fun cdv A outer s H vs Q E hr h => ?_)
  · obtain ⟨p, dx, tl, sl, hl, al, Z, as, rs, n, s0, dep, rfl, _⟩ := h
    rfl
  · obtain ⟨p, dx, tl, sl, hl, al, Z, as, rs, n, s0, dep, rfl, W0, RW, F, k⟩ := h
    refine ⟨_, pss_one (ps_ret (pe_lc (own := [("thing", 1), ("head", 2)]) (by rfl) sc_heads_of.nd (iEnm K (by rfl) B.enumerate (pa_cons (eFld K (pv 0)) pa_nil)) (blkOk_by (own := [("thing", 1), ("head", 2)]) (N := N_heads_of) (sc := defScope s_heads_of) (by decide +kernel)) (fun _ _ _ _ _ => (gTpl K (n := 2) rfl (pgs_cons (pg_name (i := 1) sc_heads_of.nd rfl (by first | exact .inl rfl | exact .inr rfl)) (pgs_cons (pg_name (i := 2) sc_heads_of.nd rfl (by first | exact .inl rfl | exact .inr rfl)) pgs_nil)))) (fun _ _ _ _ _ => (pts_one (pt_cmpR op_eq (pv 1) (pv 2) (nomark _)))) (fun _ _ _ _ _ => (pv 1)))), ?_⟩

    have ln := RW.ln
    obtain ⟨bv, ob, _⟩ := W0.ob
    have hd0 := W0.hd
    walk_at "go"
    refine go_fldK ob T.cWalk T.n_Walk_heads wf_heads ?_
    walk_at "go"
    refine go_lcIf (walk_enum (xs := tab n fun i => hv (s0.heads i))) (by rw [tab_len]; omega) (fun i => decide (s0.heads i = some i)) (fun i => .int ((i : Nat) : Int)) (fun H' s' => s'.seq (sqL_of hd0)) ?_ fun D H' nD s' e' => ?_
    · rintro i x H1 H' R N hin s1 ⟨Tp, x1, x2, rfl, nT, rfl, ex1, ex2⟩ hy hn
      rw [tab_len] at hin
      have ex1 : V.int ((i : Nat) : Int) = x1 := Option.some.inj ex1
      have ex2 : hv (s0.heads i) = x2 := Option.some.inj ((tab_get hin).symm.trans ex2)
      subst ex1 ex2
      refine go_gtup (sqT_of upd_same) rfl ?_
      have s7 : Same H1 (upd H1 Tp (.tup [V.int ((i : Nat) : Int), hv (s0.heads i)])) := same_new nT
      revert s7
      generalize upd H1 Tp (.tup [V.int ((i : Nat) : Int), hv (s0.heads i)]) = H7
      intro s7
      refine go_gcons (go_name (go_gcons (go_name (go_gnil ⟨rfl, ?_⟩))))
      walk_at "go"
      refine go_eqI ?_
      walk_at "go"
      have e : decide (((i : Nat) : Int) = hi (s0.heads i)) = decide (s0.heads i = some i) := by
        rw [Bool.eq_iff_iff, decide_eq_true_eq, decide_eq_true_eq]
        exact ⟨fun z => hi_inj (o := s0.heads i) (u := some i) z.symm, fun z => by rw [z]; rfl⟩
      rw [e]
      refine if_by (fun hb => ?_) (fun hb => ?_)
      · walk_at "go"
        exact hy _ hb s7
      · exact hn _ hb s7
    · walk_at "go"
      rw [tab_len] at e'
      exact k D H' s' nD e'
def sp_count_by (K : PySem.W.Frag) (C : Addr) : Sp := fun vs H Q _ => ∃ (p dx tl sl hl al : Addr) (Z : Hp) (as : Nat → Addr) (rs : List (List Nat)) (n : Nat) (s : S) (dep : Nat → Nat), vs = [.ref p] ∧
  WA C Z H p dx tl sl hl al n as (ties rs) s ∧ Rw n rs ∧ Fin n rs s dep ∧ ∀ H', Same H H' → Q (.int ((cntN n s : Nat) : Int)) H'
theorem ok_count_by (T : Prog K mg) (B : Blt mg) : FnOk P w K mg base CX0 2 T.f_count_by T.d_count_by ["walk"] (sp_count_by K T.C_Walk) := by
  have G_heads_of := ok_heads_of (P := P) (w := w) (base := base) T B
  refine T.F_count_by.ok sc_count_by (fun vs H Q E h => ?_) (fun cdv A outer s H vs Q E hr h => ?_)
  · obtain ⟨p, dx, tl, sl, hl, al, Z, as, rs, n, s0, dep, rfl, _⟩ := h
    rfl
  · obtain ⟨p, dx, tl, sl, hl, al, Z, as, rs, n, s0, dep, rfl, W0, RW, F, k⟩ := h
    refine ⟨_, pss_cons (ps_if (pt_cmpR op_notN1 (eFld K (pv 0)) pe_non (nomark _)) (pss_one (ps_ret pe_int)) pss_nil)
      (pss_one (ps_ret (pe_op op_shl pe_int (pe_callB (cLen K) (by rfl) B.len (by decide +kernel) (pa_cons (pe_call G_heads_of (hr.mono (by decide)) (by rfl) T.g_heads_of T.F_heads_of.kp T.b_heads_of .nil pass0 (pa_cons (pv 0) pa_nil)) pa_nil))))), ?_⟩

    have ln := RW.ln
    obtain ⟨bv, ob, hbar⟩ := W0.ob
    refine go_seq (cut_ifS (s0.bar.isSome) (fun QB q => ?_) (fun H4 s4 => ?_))
    · walk_at "go"
      refine go_fldK ob T.cWalk T.n_Walk_bar wf_bar ?_
      walk_at "go"
      refine leaf q ?_ (Same.refl _)
      cases hb : s0.bar with
      | none =>
        rw [hb] at hbar
        have hbar : bv = .non := hbar
        subst hbar
        rfl
      | some b =>
        obtain ⟨b1, b2, b3⟩ := b
        rw [hb] at hbar
        obtain ⟨t, rfl, _⟩ := hbar
        rfl
    refine if_by (fun hb => ?_) (fun hb => ?_)
    · have e : cntN n s0 = 0 := by
        unfold cntN
        rw [if_neg (by intro z; rw [z] at hb; cases hb)]
      rw [e] at k
      walk_at "go"
      exact k H4 s4
    · have hb : s0.bar = none := by
        cases h : s0.bar with
        | none => rfl
        | some b => rw [h] at hb; cases hb
      have e : cntN n s0 = 2 ^ (hds n s0).length := by
        unfold cntN
        rw [if_pos hb]
      rw [e] at k
      have hlen := hds_len (n := n) (s := s0)
      walk_at "go"
      refine ⟨p, dx, tl, sl, hl, al, Z, as, rs, n, s0, dep, rfl, W0.same s4, RW, F, fun q H5 s5 nq e5 => ?_⟩
      walk_at "go"
      rw [nv_len]
      refine go_I ⟨by omega, by omega, by decide⟩ ?_
      rw [Int.one_mul, Int.toNat_natCast, ← pow_nat]
      exact k H5 (s4.trans s5)
def sp_count (K : PySem.W.Frag) : Sp := fun vs H Q _ => ∃ (a : Addr) (rs : List (List Nat)) (n : Nat), vs = [.ref a] ∧ RowsAt K H a rs ∧ Rw n rs ∧ ∀ H', Same H H' → Q (.int ((cntN n (walk n rs) : Nat) : Int)) H'
theorem ok_count (T : Prog K mg) (B : Blt mg) : FnOk P w K mg base CX0 4 T.f_count T.d_count ["rows"] (sp_count K) := by
  have G_check_rows := ok_check_rows (P := P) (w := w) (base := base) T B
  have G_count_by := ok_count_by (P := P) (w := w) (base := base) T B
  have G_Walk_init := ok_Walk_init (P := P) (w := w) (base := base) T B
  refine T.F_count.ok sc_count (fun vs H Q E h => ?_) (fun cdv A outer s H vs Q E hr h => ?_)
  · obtain ⟨a, rs, n, rfl, _⟩ := h
    rfl
  · obtain ⟨a, rs, n, rfl, hR, RW, k⟩ := h
    refine ⟨_, pss_cons (ps_expr (pe_call G_check_rows (hr.mono (by decide)) (by rfl) T.g_check_rows T.F_check_rows.kp T.b_check_rows .nil pass0 (pa_cons (pv 0) pa_nil)))
      (pss_one (ps_ret (pe_call G_count_by (hr.mono (by decide)) (by rfl) T.g_count_by T.F_count_by.kp T.b_count_by .nil pass0 (pa_cons (pe_make T.mWalk G_Walk_init (hr.mono (by decide)) (by rfl) T.gWalk T.b_Walk_init .nil pass0 (pa_cons (pv 0) pa_nil)) pa_nil)))), ?_⟩

    obtain ⟨dep, F⟩ := walk_fin RW.G
    walk_at "go"
    refine ⟨a, rs, n, rfl, hR, RW, fun H1 s1 => ?_⟩
    walk_at "go"
    refine go_mkK fun x dx H2 nx ndx ne s2 e2 => ?_
    refine ⟨x, dx, a, rs, n, rfl, e2, hR.same (s1.trans s2), RW, fun Z tl sl hl al as H3 sZ W => ⟨rfl, ?_⟩⟩
    have s3 : Same H H3 := (hide_old (s1.trans s2) (s1.free nx)).trans (sZ.trans W.zs)
    walk_at "go"
    exact ⟨x, dx, tl, sl, hl, al, Z, as, rs, n, walk n rs, dep, rfl, W, RW, F, fun H4 s4 => k H4 (s3.trans s4)⟩
def sp_dealing (K : PySem.W.Frag) : Sp := fun vs H Q _ => ∃ (a : Addr) (rs : List (List Nat)) (n m : Nat), vs = [.ref a, .int (m : Int)] ∧ RowsAt K H a rs ∧ Rw n rs ∧ m < cntN n (walk n rs) ∧
  ∀ p H', Same H H' → H p = none → H' p = some (.lst ((dln n (walk n rs) m).map V.int)) → Q (.ref p) H'
theorem ok_dealing (T : Prog K mg) (B : Blt mg) : FnOk P w K mg base CX0 4 T.f_dealing T.d_dealing ["rows", "number"] (sp_dealing K) := by
  have G_check_rows := ok_check_rows (P := P) (w := w) (base := base) T B
  have G_is_number := ok_is_number (P := P) (w := w) (base := base) T B
  have G_count_by := ok_count_by (P := P) (w := w) (base := base) T B
  have G_heads_of := ok_heads_of (P := P) (w := w) (base := base) T B
  have G_Walk_init := ok_Walk_init (P := P) (w := w) (base := base) T B
  refine T.F_dealing.ok sc_dealing (fun vs H Q E h => ?_) (fun cdv A outer s H vs Q E hr h => ?_)
  · obtain ⟨a, rs, n, m, rfl, _⟩ := h
    rfl
  · obtain ⟨a, rs, n, m, rfl, hR, RW, hm, k⟩ := h
    refine ⟨_, pss_cons (ps_expr (pe_call G_check_rows (hr.mono (by decide)) (by rfl) T.g_check_rows T.F_check_rows.kp T.b_check_rows .nil pass0 (pa_cons (pv 0) pa_nil)))
      (pss_cons (ps_set (i := 2) sc_dealing.nd rfl (.inl rfl) (pe_make T.mWalk G_Walk_init (hr.mono (by decide)) (by rfl) T.gWalk T.b_Walk_init .nil pass0 (pa_cons (pv 0) pa_nil)))
      (pss_cons (ps_if (PW.pt (pw_or (pt_not (pt_val (pe_call G_is_number (hr.mono (by decide)) (by rfl) T.g_is_number T.F_is_number.kp T.b_is_number .nil pass0 (pa_cons (pv 1) pa_nil)))) (pw_or1 (pt_not (pt_chain op_le op_lt pe_int (pv 1) (pe_call G_count_by (hr.mono (by decide)) (by rfl) T.g_count_by T.F_count_by.kp T.b_count_by .nil pass0 (pa_cons (pv 2) pa_nil))))))) (pss_one ps_never) pss_nil)
      (pss_cons (ps_set (i := 3) sc_dealing.nd rfl (.inr rfl) pe_dnewK)
      (pss_cons (ps_for PassesOwn.never rfl (iEnm K (by rfl) B.enumerate (pa_cons (pe_call G_heads_of (hr.mono (by decide)) (by rfl) T.g_heads_of T.F_heads_of.kp T.b_heads_of .nil pass0 (pa_cons (pv 2) pa_nil)) pa_nil)) (gTpl K (n := 2) rfl (pgs_cons (pg_name (i := 4) sc_dealing.nd rfl (.inl rfl)) (pgs_cons (pg_name (i := 5) sc_dealing.nd rfl (.inl rfl)) pgs_nil)))
        (pss_one (ps_dput (hu_of hr) (pv 3) (pv 5) (pe_op op_and (pe_op op_shr (pv 1) (pv 4)) pe_int) rfl)))
      (pss_one (ps_ret (pe_lc (own := [("side", 6), ("head", 5)]) (by rfl) sc_dealing.nd (iZp K (by rfl) B.zip (pa_cons (eFld K (pv 2)) (pa_cons (eFld K (pv 2)) pa_nil))) (blkOk_by (own := [("side", 6), ("head", 5)]) (N := N_dealing) (sc := defScope s_dealing) (by decide +kernel)) (fun _ _ _ _ _ => (gTpl K (n := 2) rfl (pgs_cons (pg_name (i := 6) sc_dealing.nd rfl (by first | exact .inl rfl | exact .inr rfl)) (pgs_cons (pg_name (i := 5) sc_dealing.nd rfl (by first | exact .inl rfl | exact .inr rfl)) pgs_nil)))) (fun _ _ _ _ _ => pts_nil) (fun _ _ _ _ _ => (pe_op op_xor (pv 6) (pe_dget (hu_of hr) (pv 3) (pv 5) (fun _ _ => rfl))))))))))), ?_⟩

    have ln := RW.ln
    obtain ⟨dep, F⟩ := walk_fin RW.G
    walk_at "go"
    refine ⟨a, rs, n, rfl, hR, RW, fun H1 s1 => ?_⟩
    walk_at "go"
    refine go_mkK fun x dx H2 nx ndx ne s2 e2 => ?_
    refine ⟨x, dx, a, rs, n, rfl, e2, hR.same (s1.trans s2), RW, fun Z tl sl hl al as H3 sZ W => ⟨rfl, ?_⟩⟩
    have s3 : Same H H3 := (hide_old (s1.trans s2) (s1.free nx)).trans (sZ.trans W.zs)
    generalize hw : walk n rs = s0 at *
    walk_at "go"
    refine cut_ifS false (fun QB q => ?_) (fun H4 s4 => ?_)
    · walk_at "go"
      refine ⟨_, rfl, ?_⟩
      walk_at "go"
      rw [Bool.not_true]
      refine if_no rfl ?_
      walk_at "go"
      refine if_yes (decide_eq_true (by omega)) ?_
      walk_at "go"
      refine ⟨x, dx, tl, sl, hl, al, Z, as, rs, n, s0, dep, rfl, W, RW, F, fun H5 s5 => ?_⟩
      walk_at "go"
      refine leaf q ?_ s5
      rw [decide_eq_true (by omega)]
      rfl
    refine if_no rfl ?_
    have W4 := W.same s4
    walk_at "go"
    refine go_dnew fun dd H5 ndd s5 e5 => ?_
    have W5 := W4.same s5
    walk_at "go"
    refine ⟨x, dx, tl, sl, hl, al, Z, as, rs, n, s0, dep, rfl, W5, RW, F, fun q H6 s6 nq e6 => ?_⟩
    have W6 := W5.same s6
    have e56 := s6 _ _ e5
    have hn1 : H dd = none := (s3.trans s4).free ndd
    have zd : Z dd = none := W4.zs.free ndd
    have hlen := hds_len (n := n) (s := s0)
    have d1 : dd ≠ sl := (ne_free W4.sd ndd).symm
    have d2 : dd ≠ hl := (ne_free W4.hd ndd).symm
    obtain ⟨bv, ob, _⟩ := W6.ob
    have dq : q ≠ dd := (ne_free e5 nq).symm
    walk_at "go"
    refine go_fK (walk_enum (xs := nv (hds n s0))) (fun i σ H' => ∃ v4 v5 kvs, σ = [some (.ref a), some (.int (m : Int)), some (.ref x), some (.ref dd), v4, v5, none] ∧ But dd H6 H' ∧ H' dd = some (.dK kvs) ∧ kvs.length ≤ i ∧ ∀ j, j < i → valV kvs (.inl (((hds n s0).getD j 0 : Nat) : Int)) = some (.int ((m / 2 ^ j % 2 : Nat) : Int)))
      ⟨none, none, [], rfl, same_but (Same.refl _), e56, Nat.le_refl _, fun j hj => absurd hj (by omega)⟩ (fun i σ H' _ ⟨_, _, _, _, t, _⟩ => t.seq (sqL_of e6) dq) ?_ ?_
    · rintro i z σ H7 H' hi ⟨v4, v5, kvs, rfl, t7, ed, lk, hv⟩ ⟨Tp, x1, x2, rfl, nT, rfl, ex1, ex2⟩
      rw [nv_len] at hi
      have ex1 : V.int ((i : Nat) : Int) = x1 := Option.some.inj ex1
      have ex2 : V.int ((hds n s0).getD i 0 : Nat) = x2 := Option.some.inj ((nv_get hi).symm.trans ex2)
      subst ex1 ex2
      refine go_gtup (sqT_of upd_same) rfl ?_
      have s8 : Same H7 (upd H7 Tp (.tup [V.int ((i : Nat) : Int), V.int ((hds n s0).getD i 0 : Nat)])) := same_new nT
      revert s8
      generalize upd H7 Tp (.tup [V.int ((i : Nat) : Int), V.int ((hds n s0).getD i 0 : Nat)]) = H8
      intro s8
      have ed8 := s8 _ _ ed
      walk_at "go"
      refine go_I (by omega) ?_
      walk_at "go"
      have eb : Builtin.bitAnd ((m : Int) / 2 ^ ((i : Nat) : Int).toNat) 1 = ((m / 2 ^ i % 2 : Nat) : Int) := by
        rw [PyProof.Rows.bitAnd_m1, Int.toNat_natCast, ← pow_nat]
        omega
      rw [eb]
      refine go_dpK ed8 (small_lt (by omega)) ?_
      walk_at "go"
      refine ⟨_, _, _, rfl, (t7.trans (same_but s8)).trans But.upd, upd_same, Nat.le_trans (length_putK _ _ _) (by omega), fun j hj => ?_⟩
      rw [valV_put]
      by_cases ej : j = i
      · subst ej
        rw [if_pos rfl]
      · have ne : ¬ (Sum.inl (((hds n s0).getD j 0 : Nat) : Int) : Key) = Sum.inl (((hds n s0).getD i 0 : Nat) : Int) := fun z => ej (by
          have z : (((hds n s0).getD j 0 : Nat) : Int) = (((hds n s0).getD i 0 : Nat) : Int) := Sum.inl.inj z
          exact hds_inj (by omega) hi (by omega))
        rw [if_neg ne]
        exact hv j (by omega)
    · rintro σ H7 ⟨v4, v5, kvs, rfl, t7, ed, lk, hv⟩
      rw [nv_len] at hv
      have ob7 := t7 _ _ ob (ne_of ob e56 (by intro w; cases w))
      have sd7 := t7 _ _ W6.sd d1.symm
      have hd7 := t7 _ _ W6.hd d2.symm
      have s07 : Same H H7 := t7.same (((s3.trans s4).trans s5).trans s6) hn1
      walk_at "go"
      refine go_fldK ob7 T.cWalk T.n_Walk_sides wf_sides ?_
      walk_at "go"
      refine go_fldK ob7 T.cWalk T.n_Walk_heads wf_heads ?_
      walk_at "go"
      refine go_izK (sqL_of sd7) (sqL_of hd7) ?_
      refine go_lcP (walk_zip (n := n) (by rw [tab_len, tab_len]; omega)) (by omega) (fun i => .int (if m / 2 ^ hix n s0 i % 2 = 1 then 1 - si (s0.sides i) else si (s0.sides i))) (fun H' s' => ⟨s'.seq (sqL_of sd7), s'.seq (sqL_of hd7)⟩) ?_ fun D H8 nD s8 e8 => ?_
      · rintro i v H8 H' R hin s8 ⟨Tp, x1, x2, rfl, nT, rfl, ex1, ex2⟩ hk
        have ex1 : sv (s0.sides i) = x1 := Option.some.inj ((tab_get hin).symm.trans ex1)
        have ex2 : Ed.hv (s0.heads i) = x2 := Option.some.inj ((tab_get hin).symm.trans ex2)
        subst ex1 ex2
        refine go_gtup (sqT_of upd_same) rfl ?_
        have s9 : Same H8 (upd H8 Tp (.tup [sv (s0.sides i), Ed.hv (s0.heads i)])) := same_new nT
        revert s9
        generalize upd H8 Tp (.tup [sv (s0.sides i), Ed.hv (s0.heads i)]) = H9
        intro s9
        refine go_gcons (go_name (go_gcons (go_name (go_gnil ⟨rfl, ?_⟩))))
        obtain ⟨g, g1, g2, g3, g4, g5, g6⟩ := hd_in F hin
        have hvi := hv _ g5
        rw [g6] at hvi
        rw [g1]
        walk_at "go"
        refine go_dgK (s9 _ _ (s8 _ _ ed)) hvi ?_
        refine go_I0 ?_
        rw [xor_bit (si_some (F.sd i hin)) (by omega)]
        exact hk _ s9
      walk_at "go"
      refine k D H8 (s07.trans s8) (s07.free nD) ?_
      rw [e8]
      unfold dln
      rw [List.map_map]
      rfl
def sp_number_of (K : PySem.W.Frag) : Sp := fun vs H Q _ => ∃ (a sl : Addr) (rs : List (List Nat)) (n : Nat) (d : List Int), vs = [.ref a, .ref sl] ∧ RowsAt K H a rs ∧ Rw n rs ∧ SqL K H sl (d.map V.int) ∧ isEven n rs d = true ∧
  ∀ H', Same H H' → Q (.int (nof n (walk n rs) d)) H'
theorem ok_number_of (T : Prog K mg) (B : Blt mg) : FnOk P w K mg base CX0 4 T.f_number_of T.d_number_of ["rows", "sides"] (sp_number_of K) := by
  have G_check_rows := ok_check_rows (P := P) (w := w) (base := base) T B
  have G_is_number := ok_is_number (P := P) (w := w) (base := base) T B
  have G_is_even := ok_is_even (P := P) (w := w) (base := base) T B
  have G_heads_of := ok_heads_of (P := P) (w := w) (base := base) T B
  have G_Walk_init := ok_Walk_init (P := P) (w := w) (base := base) T B
  refine T.F_number_of.ok sc_number_of (fun vs H Q E h => ?_) (fun cdv A outer s H vs Q E hr h => ?_)
  · obtain ⟨a, dl, rs, n, d, rfl, _⟩ := h
    rfl
  · obtain ⟨a, dl, rs, n, d, rfl, hR, RW, hD, he, k⟩ := h
    refine ⟨_, pss_cons (ps_expr (pe_call G_check_rows (hr.mono (by decide)) (by rfl) T.g_check_rows T.F_check_rows.kp T.b_check_rows .nil pass0 (pa_cons (pv 0) pa_nil)))
      (pss_cons (ps_if (PW.pt (pw_or (pt_not (pt_val (pe_callB (cIsi K) (by rfl) B.isinstance (by decide +kernel) (pa_cons (pv 1) (pa_cons (pe_bltn (v := .ty "list") (by rfl) B.list (by decide +kernel) rfl) pa_nil))))) (pw_or (pt_not (pt_val (pe_callB (cAll K) (by rfl) B.all (by decide +kernel) (pa_cons (pe_lc (own := [("side", 4)]) (by rfl) sc_number_of.nd (iLst K (pv 1)) (blkOk_by (own := [("side", 4)]) (N := N_number_of) (sc := defScope s_number_of) (by decide +kernel)) (fun _ _ _ _ _ => (pg_name (i := 4) sc_number_of.nd rfl (by first | exact .inl rfl | exact .inr rfl))) (fun _ _ _ _ _ => pts_nil) (fun _ _ _ _ _ => (pe_call G_is_number (hr.mono (by decide)) (by rfl) T.g_is_number T.F_is_number.kp T.b_is_number .nil pass0 (pa_cons (pv 4) pa_nil)))) pa_nil)))) (pw_or1 (pt_not (pt_val (pe_call G_is_even (hr.mono (by decide)) (by rfl) T.g_is_even T.F_is_even.kp T.b_is_even .nil pass0 (pa_cons (pv 0) (pa_cons (pv 1) pa_nil))))))))) (pss_one ps_never) pss_nil)
      (pss_one (ps_ret (pe_callB (cSum K) (by rfl) B.sum (by decide +kernel) (pa_cons (pe_lc (own := [("at", 2), ("head", 3)]) (by rfl) sc_number_of.nd (iEnm K (by rfl) B.enumerate (pa_cons (pe_call G_heads_of (hr.mono (by decide)) (by rfl) T.g_heads_of T.F_heads_of.kp T.b_heads_of .nil pass0 (pa_cons (pe_make T.mWalk G_Walk_init (hr.mono (by decide)) (by rfl) T.gWalk T.b_Walk_init .nil pass0 (pa_cons (pv 0) pa_nil)) pa_nil)) pa_nil)) (blkOk_by (own := [("at", 2), ("head", 3)]) (N := N_number_of) (sc := defScope s_number_of) (by decide +kernel)) (fun _ _ _ _ _ => (gTpl K (n := 2) rfl (pgs_cons (pg_name (i := 2) sc_number_of.nd rfl (by first | exact .inl rfl | exact .inr rfl)) (pgs_cons (pg_name (i := 3) sc_number_of.nd rfl (by first | exact .inl rfl | exact .inr rfl)) pgs_nil)))) (fun _ _ _ _ _ => pts_nil) (fun _ _ _ _ _ => (pe_op op_shl (pe_ix (ixl K) (pv 1) (pv 3) (fun _ _ => rfl)) (pv 2)))) pa_nil))))), ?_⟩

    have ln := RW.ln
    have G := RW.G
    obtain ⟨ev1, ev2, _⟩ := (even_iff G).mp he
    obtain ⟨dep, F⟩ := walk_fin RW.G
    walk_at "go"
    refine ⟨a, rs, n, rfl, hR, RW, fun H1 s1 => ?_⟩
    have hD1 := s1.seq hD
    walk_at "go"
    refine cut_ifS false (fun QB q => ?_) (fun H0 s0 => ?_)
    · walk_at "go"
      refine go_isi (b := true) (.ty "list") (sq_ty hD1) (kit_ty (by decide +kernel)) ?_
      walk_at "go"
      refine if_no rfl ?_
      walk_at "go"
      refine go_lcP (walk_list (xs := d.map V.int)) (by rw [List.length_map]; omega) (fun i => .bl true) (fun H' s' => s'.seq hD1) ?_ fun D H2 nD s2 e2 => ?_
      · rintro j x H5 H' R hj s5 ⟨rfl, hx⟩ hk
        rw [List.length_map] at hj
        have ex : V.int (d.getD j 0) = x := Option.some.inj ((iv_get hj).symm.trans hx)
        subst ex
        refine ⟨rfl, ?_⟩
        walk_at "go"
        exact ⟨_, rfl, hk _ (Same.refl _)⟩
      walk_at "go"
      refine go_all (sq_bls (f := fun _ => true) e2) ?_
      walk_at "go"
      rw [all_map_id, show ((List.range (d.map V.int).length).all fun _ => true) = true by simp]
      refine if_no rfl ?_
      walk_at "go"
      refine ⟨a, dl, rs, n, d, rfl, hR.same (s1.trans s2), G, by omega, s2.seq hD1, by omega, fun H3 s3 => ?_⟩
      walk_at "go"
      rw [he]
      exact leaf q rfl (s2.trans s3)
    refine if_no rfl ?_
    have s1 := s1.trans s0
    have hD1 := s0.seq hD1
    walk_at "go"
    refine go_mkK fun x dx H2 nx ndx ne s2 e2 => ?_
    refine ⟨x, dx, a, rs, n, rfl, e2, hR.same (s1.trans s2), RW, fun Z tl sl hl al as H3 sZ W => ⟨rfl, ?_⟩⟩
    have s3 : Same H H3 := (hide_old (s1.trans s2) (s1.free nx)).trans (sZ.trans W.zs)
    walk_at "go"
    refine ⟨x, dx, tl, sl, hl, al, Z, as, rs, n, walk n rs, dep, rfl, W, RW, F, fun q H6 s6 nq e6 => ?_⟩
    have hlen := hds_len (n := n) (s := walk n rs)
    have hD6 := (s3.trans s6).seq hD
    walk_at "go"
    refine go_lcP (walk_enum (xs := nv (hds n (walk n rs)))) (by rw [nv_len]; omega) (fun j => .int (d.getD ((hds n (walk n rs)).getD j 0) 0 * 2 ^ j)) (fun H' s' => s'.seq (sqL_of e6)) ?_ fun D H7 nD s7 e7 => ?_
    · rintro j z H7 H' R hj s7 ⟨Tp, x1, x2, rfl, nT, rfl, ex1, ex2⟩ hk
      rw [nv_len] at hj
      have ex1 : V.int ((j : Nat) : Int) = x1 := Option.some.inj ex1
      have ex2 : V.int ((hds n (walk n rs)).getD j 0 : Nat) = x2 := Option.some.inj ((nv_get hj).symm.trans ex2)
      subst ex1 ex2
      obtain ⟨_, hg, _⟩ := hix_at F hj
      refine go_gtup (sqT_of upd_same) rfl ?_
      have s8 : Same H7 (upd H7 Tp (.tup [V.int ((j : Nat) : Int), V.int ((hds n (walk n rs)).getD j 0 : Nat)])) := same_new nT
      revert s8
      generalize upd H7 Tp (.tup [V.int ((j : Nat) : Int), V.int ((hds n (walk n rs)).getD j 0 : Nat)]) = H8
      intro s8
      refine go_gcons (go_name (go_gcons (go_name (go_gnil ⟨rfl, ?_⟩))))
      have hb := is01_iff.mp (all_getD ev2 (show (hds n (walk n rs)).getD j 0 < d.length by omega))
      walk_at "go"
      refine go_ixL ((s7.trans s8).seq hD6) (iv_at rfl (by omega)) ?_
      walk_at "go"
      refine go_I ⟨by omega, by omega, by omega⟩ ?_
      rw [Int.toNat_natCast]
      exact hk _ s8
    walk_at "go"
    rw [nv_len] at e7
    refine go_sumI (ns := (List.range (hds n (walk n rs)).length).map fun j => d.getD ((hds n (walk n rs)).getD j 0) 0 * 2 ^ j) (sqL_of (by rw [e7, List.map_map]; rfl)) ?_
    rw [sum_nof]
    exact k H7 (s3.trans (s6.trans s7))
def sp__law_copied (K : PySem.W.Frag) : Nat → Sp
  | 0 => fun _ _ _ _ => False
  | n + 1 => fun vs H Q _ => ∃ (v : V) (d : PyData), vs = [v] ∧ Dp K H v d ∧ SDL n d ∧ ∀ v' fp H', Same H H' → TrD H' d v' fp → fp.Nodup → (∀ b ∈ fp, H b = none) → Q v' H'
theorem nd_app {f g : List Addr} (h1 : f.Nodup) (h2 : g.Nodup) (h : ∀ b ∈ f, b ∉ g) : (f ++ g).Nodup := List.nodup_append.mpr ⟨h1, h2, fun x hx y hy e => h x hx (e ▸ hy)⟩
theorem take_snocT {α : Type} {l : List α} {i : Nat} {x : α} (h : l[i]? = some x) : l.take (i + 1) = l.take i ++ [x] := by
  rw [List.take_succ, h]
  rfl
theorem ok__law_copied (T : Prog K mg) (B : Blt mg) : ∀ n : Nat, FnOk P w K mg base CX0 (n + 1) T.f__law_copied T.d__law_copied ["_law_thing"] (sp__law_copied K n) := by
  intro n
  induction n with
  | zero => exact ⟨fun _ _ _ _ h => h.elim, fun _ _ _ _ _ _ _ _ _ _ _ _ _ h => h.elim⟩
  | succ n ih =>
  have G__law_copied := ih
  refine T.F__law_copied.ok sc__law_copied (fun vs H Q E h => ?_) (fun cdv A outer s H vs Q E hr h => ?_)
  · obtain ⟨v, d, rfl, _⟩ := h
    rfl
  · obtain ⟨v, d, rfl, hd, sd, k⟩ := h
    refine ⟨_, pss_one (ps_ret (pe_ifExp (pt_val (pe_callB (cIsi K) (by rfl) B.isinstance (by decide +kernel) (pa_cons (pv 0) (pa_cons (pe_bltn (v := .ty "list") (by rfl) B.list (by decide +kernel) rfl) pa_nil)))) (pe_lc (own := [("_law_one", 1)]) (by rfl) sc__law_copied.nd (iLst K (pv 0)) (blkOk_by (own := [("_law_one", 1)]) (N := N__law_copied) (sc := defScope s__law_copied) (by decide +kernel)) (fun _ _ _ _ _ => (pg_name (i := 1) sc__law_copied.nd rfl (by first | exact .inl rfl | exact .inr rfl))) (fun _ _ _ _ _ => pts_nil) (fun _ _ _ _ _ => (pe_call G__law_copied (hr.mono (by omega)) (by rfl) T.g__law_copied T.F__law_copied.kp T.b__law_copied .nil pass0 (pa_cons (pv 1) pa_nil)))) (pv 0))), ?_⟩

    cases sd with
    | int i =>
      cases hd
      walk_at "go"
      refine go_isi (b := false) (.ty "list") (.base (.int i)) (kit_ty (by decide +kernel)) ?_
      walk_at "go"
      exact k _ [] _ (Same.refl _) (.int i) (by simp) (by simp)
    | @lst m es le hes =>
      cases hd with
      | @lst a xs _ hA hX =>
      have hlen := dpAll_len hX
      walk_at "go"
      refine go_isi (b := true) (.ty "list") (sq_ty hA) (kit_ty (by decide +kernel)) ?_
      walk_at "go"
      intro D nD
      refine lc_it (walk_list (xs := xs)) (fun i H' => ∃ ys f, Same H H' ∧ H' D = some (.lst ys) ∧ TrL H' (es.take i) ys f ∧ (D :: f).Nodup ∧ ∀ b ∈ D :: f, H b = none) ⟨[], [], same_new nD, upd_same, .nil, by simp, by simpa using nD⟩ (fun i H' _ ⟨_, _, s', _⟩ => s'.seq hA) ?_ ?_
      · rintro i x Hq H1 hi ⟨ys, f, s1, e1, t1, nd, fr⟩ ⟨rfl, hx⟩
        obtain ⟨e, he⟩ : ∃ e, es[i]? = some e := ⟨_, List.getElem?_eq_getElem (by omega)⟩
        obtain ⟨y, hy, hdy⟩ := dpAll_get (dpAll_same s1 _ _ hX) he
        obtain rfl : y = x := Option.some.inj (hy.symm.trans hx)
        have hys := trL_len t1
        rw [List.length_take] at hys
        refine go_name ⟨rfl, ?_⟩
        walk_at "go"
        refine ⟨y, e, rfl, hdy, hes e (List.mem_of_getElem? he), fun v' fp H2 s2 t2 nd2 fr2 => ⟨ys, s2 _ _ e1, small_lt (by omega), ?_⟩⟩
        obtain ⟨ndD, ndf⟩ := List.nodup_cons.mp nd
        have hDp : D ∉ fp := fun z => by
          have := fr2 D z
          rw [e1] at this
          cases this
        have hfp : ∀ b ∈ f, b ∉ fp := fun b hb z => by
          obtain ⟨zs, hz⟩ := trL_some _ t1 b hb
          rw [fr2 b z] at hz
          cases hz
        have nD2 : D ∉ f ++ fp := fun z => (List.mem_append.mp z).elim ndD hDp
        refine ⟨ys ++ [v'], f ++ fp, same_mut (s1.trans s2) nD, upd_same, ?_, List.nodup_cons.mpr ⟨nD2, nd_app ndf nd2 hfp⟩, fun b hb => ?_⟩
        · rw [take_snocT he]
          refine trL_app (trL_one (trD_mono e (fun b hb o ho => ?_) t2)) (trL_mono _ (fun b hb o ho => ?_) t1)
          · rw [upd_ne (fun z : b = D => hDp (z ▸ hb))]
            exact ho
          · rw [upd_ne (fun z : b = D => ndD (z ▸ hb))]
            exact s2 b o ho
        · rcases List.mem_cons.mp hb with rfl | hb
          · exact nD
          · rcases List.mem_append.mp hb with hb | hb
            · exact fr b (List.mem_cons_of_mem _ hb)
            · exact s1.free (fr2 b hb)
      · rintro H1 ⟨ys, f, s1, e1, t1, nd, fr⟩
        rw [hlen, List.take_length] at t1
        exact k _ _ _ s1 (.lst e1 t1) nd fr
def sp__law_spoiled (K : PySem.W.Frag) : Nat → Sp
  | 0 => fun _ _ _ _ => False
  | n + 1 => fun vs H Q _ => ∃ (v : V) (ds : List PyData) (fp : List Addr), vs = [v] ∧ TrD H (.list ds) v fp ∧ fp.Nodup ∧ SDL n (.list ds) ∧ ∀ H', Fr fp H H' → Q .non H'
theorem mem_drop_of {α : Type} {l : List α} {i : Nat} {x : α} (h : l[i]? = some x) : l.drop i = x :: l.drop (i + 1) := by
  obtain ⟨hi, e⟩ := List.getElem?_eq_some_iff.mp h
  rw [List.drop_eq_getElem_cons hi, e]
theorem ok__law_spoiled (T : Prog K mg) (B : Blt mg) : ∀ n : Nat, FnOk P w K mg base CX0 (n + 1) T.f__law_spoiled T.d__law_spoiled ["_law_thing"] (sp__law_spoiled K n) := by
  intro n
  induction n with
  | zero => exact ⟨fun _ _ _ _ h => h.elim, fun _ _ _ _ _ _ _ _ _ _ _ _ _ h => h.elim⟩
  | succ n ih =>
  have G__law_spoiled := ih
  refine T.F__law_spoiled.ok sc__law_spoiled (fun vs H Q E h => ?_) (fun cdv A outer s H vs Q E hr h => ?_)
  · obtain ⟨v, ds, fp, rfl, _⟩ := h
    rfl
  · obtain ⟨v, ds, fp, rfl, tr, nd, sd, k⟩ := h
    refine ⟨_, pss_cons (ps_for PassesOwn.never rfl (iLst K (pv 0)) (pg_name (i := 1) sc__law_spoiled.nd rfl (.inl rfl))
        (pss_one (ps_if (pt_val (pe_callB (cIsi K) (by rfl) B.isinstance (by decide +kernel) (pa_cons (pv 1) (pa_cons (pe_bltn (v := .ty "list") (by rfl) B.list (by decide +kernel) rfl) pa_nil)))) (pss_one (ps_expr (pe_call G__law_spoiled (hr.mono (by omega)) (by rfl) T.g__law_spoiled T.F__law_spoiled.kp T.b__law_spoiled .nil pass0 (pa_cons (pv 1) pa_nil)))) pss_nil)))
      (pss_cons (ps_expr (eBm K PySem.F.plainAttrs_list PySem.F.slot_list_append PySem.F.type_list_append mt_append (pv 0) (pa_cons pe_int pa_nil)))
      (pss_one (ps_expr (eBm0 K PySem.F.plainAttrs_list PySem.F.slot_list_reverse PySem.F.type_list_reverse mt_reverse (pv 0))))), ?_⟩

    cases sd with
    | @lst m _ le hes =>
    cases tr with
    | @lst _ vs a f e t =>
    obtain ⟨na, ndf⟩ := List.nodup_cons.mp nd
    have hlen := trL_len t
    walk_at "go"
    refine go_fK (walk_list (xs := vs)) (fun i σ H' => ∃ v1 g, σ = [some (.ref a), v1] ∧ H' a = some (.lst vs) ∧ TrL H' (ds.drop i) (vs.drop i) g ∧ g.Nodup ∧ (∀ b ∈ g, b ∈ f) ∧ Fr f H H') ⟨none, f, rfl, e, by simpa using t, ndf, fun _ h => h, Fr.refl⟩ (fun i σ H' _ ⟨_, _, _, e', _⟩ => sqL_of e') ?_ ?_
    · rintro i x σ Hq H1 hi ⟨v1, g, rfl, e1, t1, nd1, sub, fr⟩ ⟨rfl, hx⟩
      obtain ⟨d, hd⟩ : ∃ d, ds[i]? = some d := ⟨_, List.getElem?_eq_getElem (by omega)⟩
      rw [mem_drop_of hd, mem_drop_of hx] at t1
      cases t1 with
      | @cons _ _ _ _ f1 g1 _ h1 t1 eg =>
      subst eg
      obtain ⟨n1, n2, n3⟩ := List.nodup_append.mp nd1
      have na1 : a ∉ f1 := fun z => na (sub a (List.mem_append_left _ z))
      have sdd := hes d (List.mem_of_getElem? hd)
      refine go_name ?_
      refine go_ifS ?_
      walk_at "go"
      cases sdd with
      | int j =>
        cases h1
        refine go_isi (b := false) (.ty "list") (.base (.int j)) (kit_ty (by decide +kernel)) ?_
        walk_at "go"
        exact ⟨_, g1, rfl, e1, t1, n2, fun b hb => sub b (by simpa using hb), fr⟩
      | @lst m2 es2 le2 hes2 =>
        have h1' := h1
        cases h1' with
        | @lst _ ws b f2 e2 t2 =>
        refine go_isi (b := true) (.ty "list") (sq_ty (sqL_of e2)) (kit_ty (by decide +kernel)) ?_
        walk_at "go"
        refine ⟨_, es2, b :: f2, rfl, h1, n1, .lst le2 hes2, fun H2 fr2 => ?_⟩
        walk_at "go"
        refine ⟨_, g1, rfl, fr2 _ _ e1 na1, trL_mono _ (fun c hc o ho => fr2 c o ho fun z => n3 c z c hc rfl) t1, n2, fun c hc => sub c (List.mem_append_right _ hc), fr.trans (fr2.mono fun c hc => sub c (List.mem_append_left _ hc))⟩
    · rintro σ H1 ⟨v1, g, rfl, e1, t1, nd1, sub, fr⟩
      walk_at "go"
      refine go_app e1 (small_lt (by omega)) ?_
      have e2 : upd H1 a (.lst (vs ++ [V.int 99])) a = some (.lst (vs ++ [V.int 99])) := upd_same
      walk_at "go"
      refine ⟨a, _, rfl, rfl, e2, ?_⟩
      walk_at "go"
      exact k _ ((fr.mono fun b hb => List.mem_cons_of_mem _ hb).trans ((fr_upd List.mem_cons_self).trans (fr_upd List.mem_cons_self)))
theorem SDL.le {k : Nat} {d : PyData} (h : SDL k d) : ∀ {j : Nat}, k ≤ j → SDL j d := fun {j} hj => by
  obtain ⟨i, rfl⟩ := Nat.exists_eq_add_of_le hj
  induction i with
  | zero => exact h
  | succ i ih => exact (ih (by omega)).up
/-- laying: the first j are as told -/
structure LIn (H : Hp) (a : Addr) (f : List Addr) (es dq : List PyData) (j : Nat) (H' : Hp) (ws : List V) (f1 : List Addr) (rest : List V) (g : List Addr) : Prop where
  ea : H' a = some (.lst (ws ++ rest))
  t1 : TrL H' (es.take j) ws f1
  t2 : TrL H' (dq.drop j) rest g
  nd : (f1 ++ g).Nodup
  na : a ∉ f1 ++ g
  s1 : ∀ b ∈ f1, b ∈ f ∨ H b = none
  s2 : ∀ b ∈ g, b ∈ f
  fr : Fr (a :: f) H H'
section
variable {H H1 H2 : Hp} {a : Addr} {f f1 g g2 fp gp : List Addr} {es dq : List PyData} {j : Nat} {ws rest rs : List V} {e : PyData} {v r : V}
theorem LIn.same (L : LIn H a f es dq j H1 ws f1 rest g) (s : Same H1 H2) : LIn H a f es dq j H2 ws f1 rest g :=
  ⟨s _ _ L.ea, trL_mono _ (fun b _ o h => s b o h) L.t1, trL_mono _ (fun b _ o h => s b o h) L.t2, L.nd, L.na, L.s1, L.s2, L.fr.trans (Same.fr s)⟩
theorem LIn.gone (L : LIn H a f es dq j H1 ws f1 rest g) {b : Addr} (h : H1 b = none) : b ∈ f ∨ H b = none := by
  by_cases hb : b ∈ a :: f
  · rcases List.mem_cons.mp hb with rfl | hb
    · rw [L.ea] at h
      cases h
    · exact .inl hb
  · cases q : H b with
    | none => exact .inr rfl
    | some o =>
      rw [L.fr b o q hb] at h
      cases h
/-- a new thing at the next place -/
theorem LIn.new (L : LIn H a f es dq j H1 ws f1 rest g) (he : es[j]? = some e) (tr : TrL H1 (dq.drop (j + 1)) rs g2) (sub : ∀ b ∈ g2, b ∈ g) (nd2 : g2.Nodup) (s : Same H1 H2) (tv : TrD H2 e v fp) (ndv : fp.Nodup) (frv : ∀ b ∈ fp, H1 b = none) :
    LIn H a f es dq (j + 1) (upd H2 a (.lst (ws ++ v :: rs))) (ws ++ [v]) (f1 ++ fp) rs g2 := by
  obtain ⟨n1, n2, n3⟩ := List.nodup_append.mp L.nd
  have pf : ∀ b ∈ f1 ++ g, b ∉ fp := fun b hb z => by
    have h := frv b z
    rcases List.mem_append.mp hb with hb | hb
    · obtain ⟨xs, q⟩ := trL_some _ L.t1 b hb
      rw [q] at h
      cases h
    · obtain ⟨xs, q⟩ := trL_some _ L.t2 b hb
      rw [q] at h
      cases h
  have pa : a ∉ fp := fun z => by
    have h := frv a z
    rw [L.ea] at h
    cases h
  have pa1 : a ∉ f1 := fun z => L.na (List.mem_append_left _ z)
  have pa2 : a ∉ g2 := fun z => L.na (List.mem_append_right _ (sub a z))
  have kp : ∀ b, b ≠ a → ∀ o, H2 b = some o → upd H2 a (.lst (ws ++ v :: rs)) b = some o := fun b hb o h => by
    rw [upd_ne hb]
    exact h
  refine ⟨by rw [upd_same]; simp, ?_, trL_mono _ (fun b hb o h => kp b (fun z => pa2 (z ▸ hb)) o (s b o h)) tr, ?_, ?_, fun b hb => ?_, fun b hb => L.s2 b (sub b hb), (L.fr.trans (Same.fr s)).trans (fr_upd List.mem_cons_self)⟩
  · rw [take_snocT he]
    exact trL_app (trL_one (trD_mono e (fun b hb o h => kp b (fun z => pa (z ▸ hb)) o h) tv)) (trL_mono _ (fun b hb o h => kp b (fun z => pa1 (z ▸ hb)) o (s b o h)) L.t1)
  · refine nd_app (nd_app n1 ndv fun b hb => pf b (List.mem_append_left _ hb)) nd2 fun b hb z => ?_
    rcases List.mem_append.mp hb with hb | hb
    · exact n3 b hb b (sub b z) rfl
    · exact pf b (List.mem_append_right _ (sub b z)) hb
  · intro z
    rcases List.mem_append.mp z with z | z
    · exact (List.mem_append.mp z).elim pa1 pa
    · exact pa2 z
  · rcases List.mem_append.mp hb with hb | hb
    · exact L.s1 b hb
    · exact L.gone (frv b hb)
/-- the next place laid over -/
theorem LIn.over (L : LIn H a f es dq j H1 ws f1 (r :: rs) g) (he : es[j]? = some e) {fo : List Addr} (tr : TrL H1 (dq.drop (j + 1)) rs g2) (eg : g = fo ++ g2) (fr : Fr fo H1 H2) (tv : TrD H2 e r gp) (ndv : gp.Nodup) (sv : ∀ b ∈ gp, b ∈ fo ∨ H1 b = none) :
    LIn H a f es dq (j + 1) H2 (ws ++ [r]) (f1 ++ gp) rs g2 := by
  subst eg
  obtain ⟨n1, n2, n3⟩ := List.nodup_append.mp L.nd
  obtain ⟨m1, m2, m3⟩ := List.nodup_append.mp n2
  have nfo : ∀ b ∈ f1, b ∉ fo := fun b hb z => n3 b hb b (List.mem_append_left _ z) rfl
  have ngo : ∀ b ∈ g2, b ∉ fo := fun b hb z => m3 b z b hb rfl
  have pa1 : a ∉ f1 := fun z => L.na (List.mem_append_left _ z)
  have pao : a ∉ fo := fun z => L.na (List.mem_append_right _ (List.mem_append_left _ z))
  have pa2 : a ∉ g2 := fun z => L.na (List.mem_append_right _ (List.mem_append_right _ z))
  have out : ∀ b, b ∉ fo → (∃ o, H1 b = some o) → b ∉ gp := fun b hb ⟨o, ho⟩ z => (sv b z).elim hb fun q => by
    rw [ho] at q
    cases q
  have s1' : ∀ b ∈ f1, b ∉ gp := fun b hb => out b (nfo b hb) (let ⟨xs, q⟩ := trL_some _ L.t1 b hb; ⟨_, q⟩)
  have s2' : ∀ b ∈ g2, b ∉ gp := fun b hb => out b (ngo b hb) (let ⟨xs, q⟩ := trL_some _ tr b hb; ⟨_, q⟩)
  refine ⟨by rw [fr _ _ L.ea pao]; simp, ?_, trL_mono _ (fun b hb o h => fr b o h (ngo b hb)) tr, ?_, ?_, fun b hb => ?_, fun b hb => L.s2 b (List.mem_append_right _ hb), L.fr.trans (fr.mono fun b hb => List.mem_cons_of_mem _ (L.s2 b (List.mem_append_left _ hb)))⟩
  · rw [take_snocT he]
    exact trL_app (trL_one tv) (trL_mono _ (fun b hb o h => fr b o h (nfo b hb)) L.t1)
  · refine nd_app (nd_app n1 ndv s1') m2 fun b hb z => ?_
    rcases List.mem_append.mp hb with hb | hb
    · exact n3 b hb b (List.mem_append_right _ z) rfl
    · exact s2' b z hb
  · intro z
    rcases List.mem_append.mp z with z | z
    · rcases List.mem_append.mp z with z | z
      · exact pa1 z
      · exact out a pao ⟨_, L.ea⟩ z
    · exact pa2 z
  · rcases List.mem_append.mp hb with hb | hb
    · exact L.s1 b hb
    · rcases sv b hb with q | q
      · exact .inl (L.s2 b (List.mem_append_left _ q))
      · exact L.gone q
end
def sp__law_laid (K : PySem.W.Frag) : Nat → Sp
  | 0 => fun _ _ _ _ => False
  | n + 1 => fun vs H Q _ => ∃ (u v : V) (ds es : List PyData) (fp : List Addr), vs = [u, v] ∧ TrD H (.list ds) u fp ∧ fp.Nodup ∧ SDL n (.list ds) ∧ Dp K (hL fp H) v (.list es) ∧ SDL n (.list es) ∧ n ≤ 5 ∧
      ∀ gp H', Fr fp H H' → TrD H' (.list es) u gp → gp.Nodup → (∀ b ∈ gp, b ∈ fp ∨ H b = none) → Q .non H'
theorem ok__law_laid (T : Prog K mg) (B : Blt mg) : ∀ n : Nat, FnOk P w K mg base CX0 (n + 8) T.f__law_laid T.d__law_laid ["_law_mine", "_law_other"] (sp__law_laid K n) := by
  intro n
  induction n with
  | zero => exact ⟨fun _ _ _ _ h => h.elim, fun _ _ _ _ _ _ _ _ _ _ _ _ _ h => h.elim⟩
  | succ n ih =>
  have G__law_laid := ih
  have G__law_copied := ok__law_copied (P := P) (w := w) (base := base) T B 6
  refine T.F__law_laid.ok sc__law_laid (fun vs H Q E h => ?_) (fun cdv A outer s H vs Q E hr h => ?_)
  · obtain ⟨u, v, ds, es, fp, rfl, _⟩ := h
    rfl
  · obtain ⟨u, v, ds, es, fp, rfl, tr, nd, sd, hv, se, n5, k⟩ := h
    refine ⟨_, pss_cons (ps_while PassesOwn.never (pt_cmpR op_gt (pe_callB (cLen K) (by rfl) B.len (by decide +kernel) (pa_cons (pv 0) pa_nil)) (pe_callB (cLen K) (by rfl) B.len (by decide +kernel) (pa_cons (pv 1) pa_nil)) (nomark _)) (pss_one (ps_expr (eBm0 K PySem.F.plainAttrs_list PySem.F.slot_list_pop PySem.F.type_list_pop mt_pop (pv 0)))))
      (pss_one (ps_for PassesOwn.never rfl (iEnm K (by rfl) B.enumerate (pa_cons (pv 1) pa_nil)) (gTpl K (n := 2) rfl (pgs_cons (pg_name (i := 2) sc__law_laid.nd rfl (.inl rfl)) (pgs_cons (pg_name (i := 3) sc__law_laid.nd rfl (.inl rfl)) pgs_nil)))
        (pss_one (ps_if (pt_cmpR op_eq (pv 2) (pe_callB (cLen K) (by rfl) B.len (by decide +kernel) (pa_cons (pv 0) pa_nil)) (nomark _)) (pss_one (ps_expr (eBm K PySem.F.plainAttrs_list PySem.F.slot_list_append PySem.F.type_list_append mt_append (pv 0) (pa_cons (pe_call G__law_copied (hr.mono (by omega)) (by rfl) T.g__law_copied T.F__law_copied.kp T.b__law_copied .nil pass0 (pa_cons (pv 3) pa_nil)) pa_nil)))) (pss_one (ps_if (PW.pt (pw_and (pt_val (pe_callB (cIsi K) (by rfl) B.isinstance (by decide +kernel) (pa_cons (pv 3) (pa_cons (pe_bltn (v := .ty "list") (by rfl) B.list (by decide +kernel) rfl) pa_nil)))) (pw_and1 (pt_val (pe_callB (cIsi K) (by rfl) B.isinstance (by decide +kernel) (pa_cons (pe_ix (ixl K) (pv 0) (pv 2) (fun _ _ => rfl)) (pa_cons (pe_bltn (v := .ty "list") (by rfl) B.list (by decide +kernel) rfl) pa_nil))))))) (pss_one (ps_expr (pe_call G__law_laid (hr.mono (by omega)) (by rfl) T.g__law_laid T.F__law_laid.kp T.b__law_laid .nil pass0 (pa_cons (pe_ix (ixl K) (pv 0) (pv 2) (fun _ _ => rfl)) (pa_cons (pv 3) pa_nil))))) (pss_one (ps_asg (pe_call G__law_copied (hr.mono (by omega)) (by rfl) T.g__law_copied T.F__law_copied.kp T.b__law_copied .nil pass0 (pa_cons (pv 3) pa_nil)) (pg_sub (pv 0) (pv 2) set_list))))))))), ?_⟩

    cases sd with
    | @lst m _ ld hds =>
    cases se with
    | lst le hes =>
    cases tr with
    | @lst _ us a f e t =>
    cases hv with
    | @lst oa os _ hO hX =>
    obtain ⟨na, ndf⟩ := List.nodup_cons.mp nd
    have hlen := trL_len t
    have hlo := dpAll_len hX
    have hOH : SqL K H oa os := hL_same.seq hO
    walk_at "go"
    refine go_while (fun c σ H' => ∃ q, q ≤ us.length ∧ σ = [some (.ref a), some (.ref oa), none, none] ∧ H' a = some (.lst (us.take q)) ∧ (∀ b o, b ≠ a → H b = some o → H' b = some o) ∧ (q = us.length ∨ os.length ≤ q) ∧ q = c) us.length ⟨us.length, Nat.le_refl _, rfl, by rw [List.take_length]; exact e, fun _ _ _ h => h, .inl rfl, rfl⟩ ?_
    rintro c σ H1 ⟨q, hq, rfl, e1, fr1, hqo, rfl⟩
    have hO1 : SqL K H1 oa os := Same.seq (fun b o eb => by
      obtain ⟨e', n'⟩ := of_hL eb
      exact fr1 b o (fun z => n' (by rw [z]; exact List.mem_cons_self)) e') hO
    refine ⟨decide ((os.length : Int) < (q : Int)), fun QB qq => ?_, fun H2 s2 => ⟨fun hb => ?_, fun hb => ?_⟩⟩
    · walk_at "go"
      rw [List.length_take, Nat.min_eq_left hq]
      exact qq _ (Same.refl _)
    · have hb : (os.length : Int) < (q : Int) := of_decide_eq_true hb
      have e2 := s2 _ _ e1
      obtain ⟨x, hx⟩ : ∃ x, us[q - 1]? = some x := ⟨_, List.getElem?_eq_getElem (by omega)⟩
      have e3 : H2 a = some (.lst (us.take (q - 1) ++ [x])) := by
        rw [e2, ← take_snocT hx, show q - 1 + 1 = q by omega]
      walk_at "go"
      refine go_pop e3 ?_
      walk_at "go"
      exact ⟨q - 1, by omega, q - 1, by omega, rfl, upd_same, fun b o hb2 eb => by rw [upd_ne hb2]; exact s2 b o (fr1 b o hb2 eb), .inr (by omega), rfl⟩
    · have hb : ¬ (os.length : Int) < (q : Int) := of_decide_eq_false hb
      have e2 := s2 _ _ e1
      obtain ⟨u1, u2, g1, g2, eu, ef, t1, t2⟩ := trL_split (show TrL H (ds.take q ++ ds.drop q) us f by rw [List.take_append_drop]; exact t)
      have hu1 := trL_len t1
      rw [List.length_take, Nat.min_eq_left (by omega)] at hu1
      have eu1 : us.take q = u1 := by rw [eu, ← hu1, List.take_left]
      rw [eu1] at e2
      have sub1 : ∀ b ∈ g1, b ∈ f := fun b hb => by rw [ef]; exact List.mem_append_left _ hb
      have nd1 : g1.Nodup := by rw [ef] at ndf; exact (List.nodup_append.mp ndf).1
      have L0 : LIn H a f es (ds.take q) 0 H2 [] [] u1 g1 := ⟨e2, by rw [List.take_zero]; exact .nil, by rw [List.drop_zero]; exact trL_mono _ (fun b hb o h => s2 b o (fr1 b o (fun z => na (z ▸ sub1 b hb)) h)) t1, by simpa using nd1, fun z => na (sub1 a (by simpa using z)), fun b hb => by simp at hb, sub1, fun b o h n => s2 b o (fr1 b o (fun z => n (by rw [z]; exact List.mem_cons_self)) h)⟩
      have hO2 : SqL K H2 oa os := s2.seq hO1
      walk_at "go"
      refine go_fK (walk_enum (xs := os)) (fun j σ H' => ∃ v2 v3 ws f1 rest g, σ = [some (.ref a), some (.ref oa), v2, v3] ∧ LIn H a f es (ds.take q) j H' ws f1 rest g) ⟨none, none, [], [], u1, g1, rfl, L0⟩ (fun j σ H' _ ⟨_, _, _, _, _, _, _, L⟩ => Same.seq (fun b o eb => by
        obtain ⟨e', n'⟩ := of_hL eb
        exact L.fr b o e' n') hO) ?_ ?_
      · rintro j y σ H6 H' hj ⟨v2, v3, ws, f1, rest, g, rfl, L6⟩ ⟨Tp, x1, x2, rfl, nT, rfl, ex1, ex2⟩
        obtain rfl : V.int ((j : Nat) : Int) = x1 := Option.some.inj ex1
        refine go_gtup (sqT_of upd_same) rfl ?_
        have s7 : Same H6 (upd H6 Tp (.tup [V.int ((j : Nat) : Int), x2])) := same_new nT
        revert s7
        generalize upd H6 Tp (.tup [V.int ((j : Nat) : Int), x2]) = H7
        intro s7
        refine go_gcons (go_name (go_gcons (go_nm (τ := [some (.ref a), some (.ref oa), some (.int ((j : Nat) : Int)), some x2]) rfl (go_gnil ?_))))
        have L7 := L6.same s7
        have hje : j < es.length := by omega
        obtain ⟨ej, hej⟩ : ∃ ej, es[j]? = some ej := ⟨_, List.getElem?_eq_getElem hje⟩
        have hws := trL_len L7.t1
        rw [List.length_take, Nat.min_eq_left (by omega)] at hws
        have sO : Same (hL (a :: f) H) H7 := fun b o eb => by
          obtain ⟨e', n'⟩ := of_hL eb
          exact L7.fr b o e' n'
        obtain ⟨y2, hy2, dy2⟩ := dpAll_get hX hej
        obtain rfl : y2 = x2 := Option.some.inj (hy2.symm.trans ex2)
        have dy7 := dp_same sO _ _ dy2
        have sdj := hes ej (List.mem_of_getElem? hej)
        have sd5 : SDL 5 ej := sdj.le (by omega)
        have eA := L7.ea
        refine go_ifS ?_
        walk_at "go"
        refine if_by (fun hb => ?_) (fun hb => ?_)
        · have hb : (j : Int) = ((ws ++ rest).length : Int) := of_decide_eq_true hb
          rw [List.length_append] at hb
          obtain rfl : rest = [] := List.length_eq_zero_iff.mp (by omega)
          walk_at "go"
          refine ⟨y2, ej, rfl, dy7, sd5, fun v' fp' H8 s8 t8 nd8 fr8 => ?_⟩
          walk_at "go"
          refine go_app (s8 _ _ eA) (small_lt (by rw [List.length_append, hws]; simp; omega)) ?_
          walk_at "go"
          have hdq : (ds.take q).drop (j + 1) = [] := by
            have h0 := trL_len L7.t2
            rw [List.length_drop] at h0
            exact List.drop_eq_nil_of_le (by have : ([] : List V).length = 0 := rfl; omega)
          have L8 := L7.new hej (rs := []) (g2 := []) (by rw [hdq]; exact .nil) (by simp) (by simp) s8 t8 nd8 fr8
          rw [List.append_nil] at *
          exact ⟨_, _, _, _, _, _, rfl, L8⟩
        · have hb : ¬ (j : Int) = ((ws ++ rest).length : Int) := of_decide_eq_false hb
          rw [List.length_append] at hb
          cases hrest : rest with
          | nil =>
            exfalso
            rw [hrest] at hb
            exact hb (by simp; omega)
          | cons r rs =>
          subst hrest
          have hld := trL_len L7.t2
          rw [List.length_drop, List.length_cons] at hld
          obtain ⟨dj, hdj⟩ : ∃ dj, (ds.take q)[j]? = some dj := ⟨_, List.getElem?_eq_getElem (by omega)⟩
          have t2 := L7.t2
          rw [mem_drop_of hdj] at t2
          cases t2 with
          | @cons _ _ _ _ fo g2 _ hr t2 eg =>
          have hmem : dj ∈ ds := List.mem_of_mem_take (List.mem_of_getElem? hdj)
          have sdd := hds dj hmem
          have hat : (ws ++ r :: rs)[j]? = some r := by rw [List.getElem?_append_right (by omega), hws, Nat.sub_self]; rfl
          have ndg : (fo ++ g2).Nodup := by
            have := (List.nodup_append.mp L7.nd).2.1
            rw [eg] at this
            exact this
          have other : ∀ (v' : V) (fp' : List Addr) (H8 : Hp), Same H7 H8 → TrD H8 ej v' fp' → fp'.Nodup → (∀ b ∈ fp', H7 b = none) → LIn H a f es (ds.take q) (j + 1) (upd H8 a (.lst ((ws ++ r :: rs).set j v'))) (ws ++ [v']) (f1 ++ fp') rs g2 := fun v' fp' H8 s8 t8 nd8 fr8 => by
            rw [show (ws ++ r :: rs).set j v' = ws ++ v' :: rs by rw [← hws, List.set_append_right _ _ (Nat.le_refl _), Nat.sub_self]; rfl]
            exact L7.new hej t2 (fun b hb => by rw [eg]; exact List.mem_append_right _ hb) (List.nodup_append.mp ndg).2.1 s8 t8 nd8 fr8
          have hix : ixN (ws ++ r :: rs).length ((j : Nat) : Int) = some j := ix_nat (by simp; omega)
          refine go_ifS ?_
          walk_at "go"
          cases sdj with
          | int z =>
            cases dy2
            refine go_isi (b := false) (.ty "list") (.base (.int z)) (kit_ty (by decide +kernel)) ?_
            walk_at "go"
            refine ⟨_, _, rfl, .int z, .int z, fun v' fp' H8 s8 t8 nd8 fr8 => ?_⟩
            walk_at "go"
            refine go_setL (n := j) (s8 _ _ eA) hix ?_
            walk_at "go"
            exact ⟨_, _, _, _, _, _, rfl, other v' fp' H8 s8 t8 nd8 fr8⟩
          | @lst m2 es2 le2 hes2 =>
            have dy7' := dy7
            cases dy7' with
            | @lst ya ys _ hY hYs =>
            refine go_isi (b := true) (.ty "list") (sq_ty hY) (kit_ty (by decide +kernel)) ?_
            walk_at "go"
            refine go_ixL (sqL_of eA) (at_of (j := j) rfl hat) ?_
            walk_at "go"
            cases sdd with
            | int z =>
              cases hr
              refine go_isi (b := false) (.ty "list") (.base (.int z)) (kit_ty (by decide +kernel)) ?_
              walk_at "go"
              refine ⟨_, _, rfl, dy7, sd5, fun v' fp' H8 s8 t8 nd8 fr8 => ?_⟩
              walk_at "go"
              refine go_setL (n := j) (s8 _ _ eA) hix ?_
              walk_at "go"
              exact ⟨_, _, _, _, _, _, rfl, other v' fp' H8 s8 t8 nd8 fr8⟩
            | @lst m3 ds2 ld2 hds2 =>
              have hr' := hr
              cases hr' with
              | @lst _ rv ra rf er tr2 =>
              refine go_isi (b := true) (.ty "list") (sq_ty (sqL_of er)) (kit_ty (by decide +kernel)) ?_
              walk_at "go"
              refine go_ixL (sqL_of eA) (at_of (j := j) rfl hat) ?_
              walk_at "go"
              have sfo : ∀ b ∈ ra :: rf, b ∈ f := fun b hb => L7.s2 b (by rw [eg]; exact List.mem_append_left _ hb)
              refine ⟨_, _, ds2, es2, ra :: rf, rfl, hr, (List.nodup_append.mp ndg).1, .lst ld2 hds2, dp_same (fr_hL L7.fr fun b hb => List.mem_cons_of_mem _ (sfo b hb)) _ _ dy2, .lst le2 hes2, by omega, fun gp H8 fr8 t8 nd8 sv8 => ?_⟩
              walk_at "go"
              exact ⟨_, _, _, _, _, _, rfl, L7.over hej t2 eg fr8 t8 nd8 sv8⟩
      · rintro σ H6 ⟨v2, v3, ws, f1, rest, g, rfl, L6⟩
        have hr := trL_len L6.t2
        rw [List.length_drop, List.length_take] at hr
        obtain rfl : rest = [] := List.length_eq_zero_iff.mp (by omega)
        have t1 := L6.t1
        rw [hlo, List.take_length] at t1
        have eA := L6.ea
        rw [List.append_nil] at eA
        walk_at "go"
        refine k (a :: f1) _ L6.fr (.lst eA t1) (List.nodup_cons.mpr ⟨fun z => L6.na (List.mem_append_left _ z), (List.nodup_append.mp L6.nd).1⟩) fun b hb => ?_
        rcases List.mem_cons.mp hb with rfl | hb
        · exact .inl List.mem_cons_self
        · exact (L6.s1 b hb).elim (fun z => .inl (List.mem_cons_of_mem _ z)) .inr
/-- a door that tells a list of numbers, by data -/
def AskF (K : PySem.W.Frag) (g : Hp → Prop) (sp : Sp) (F : PyData → List Int) (H : Hp) (D1 D2 : PyData) : Prop := ∀ H' v d, Same H H' → (d = D1 ∨ d = D2) → Dp K H' v d →
  g H' ∧ ∀ Q E, (∀ p H'', Same H' H'' → H' p = none → H'' p = some (.lst ((F d).map V.int)) → Q (.ref p) H'') → sp [v] H' Q E
def sp__law_door_right (K : PySem.W.Frag) (P : Program) (w : World) (mg : Str → Option Value) (base : Heap) : Sp := fun vs H Q _ => ∃ (f : Addr) (o1 o2 : V) (ds1 ds2 : List PyData) (g : Hp → Prop) (sp : Sp) (F : PyData → List Int), vs = [.ref f, o1, o2] ∧
  Act P w K mg base 6 f g sp ∧ AskF K g sp F H (.list ds1) (.list ds2) ∧ Dp K H o1 (.list ds1) ∧ Dp K H o2 (.list ds2) ∧ SDL 5 (.list ds1) ∧ SDL 5 (.list ds2) ∧ (F (.list ds1)).length ≤ 1000 ∧ (F (.list ds2)).length ≤ 1000 ∧ ∀ H', Same H H' → Q (.bl true) H'
/-- an own tree, apart from all that stood -/
structure Own (H : Hp) (d : PyData) (v : V) (fp : List Addr) (H' : Hp) : Prop where
  s : Same H H'
  t : TrD H' d v fp
  nd : fp.Nodup
  fr : ∀ b ∈ fp, H b = none
theorem Own.same {H H1 H2 : Hp} {d : PyData} {v : V} {fp : List Addr} (O : Own H d v fp H1) (s : Same H1 H2) : Own H d v fp H2 := ⟨O.s.trans s, trD_mono d (fun b _ o h => s b o h) O.t, O.nd, O.fr⟩
theorem Own.keep {H H1 H2 : Hp} {d : PyData} {v : V} {fp gp : List Addr} (O : Own H d v fp H1) (f : Fr gp H1 H2) (ng : ∀ b ∈ gp, H b = none) (dj : ∀ b ∈ fp, b ∉ gp) : Own H d v fp H2 := ⟨f.same O.s ng, trD_mono d (fun b hb o h => f b o h (dj b hb)) O.t, O.nd, O.fr⟩
theorem Own.apart {H H1 : Hp} {d : PyData} {v : V} {fp gp : List Addr} (O : Own H d v fp H1) (n : ∀ b ∈ gp, H1 b = none) : ∀ b ∈ fp, b ∉ gp := fun b hb z => by
  obtain ⟨xs, q⟩ := trD_some d O.t b hb
  rw [n b z] at q
  cases q
theorem Own.laid {H H1 H2 : Hp} {d e : PyData} {v : V} {fp gp : List Addr} (O : Own H d v fp H1) (f : Fr fp H1 H2) (t : TrD H2 e v gp) (nd : gp.Nodup) (sv : ∀ b ∈ gp, b ∈ fp ∨ H1 b = none) : Own H e v gp H2 :=
  ⟨f.same O.s O.fr, t, nd, fun b hb => (sv b hb).elim (O.fr b) fun z => O.s.free z⟩
theorem Own.hid {H H1 : Hp} {d : PyData} {v : V} {fp : List Addr} (O : Own H d v fp H1) : Same H (hL fp H1) := same_hL O.s O.fr
theorem ok__law_door_right (T : Prog K mg) (B : Blt mg) : FnOk P w K mg base CX0 16 T.f__law_door_right T.d__law_door_right ["_law_ask", "_law_one", "_law_other"] (sp__law_door_right K P w mg base) := by
  have G__law_copied := ok__law_copied (P := P) (w := w) (base := base) T B 6
  have G__law_spoiled := ok__law_spoiled (P := P) (w := w) (base := base) T B 6
  have G__law_laid := ok__law_laid (P := P) (w := w) (base := base) T B 6
  refine T.F__law_door_right.ok sc__law_door_right (fun vs H Q E h => ?_) (fun cdv A outer s H vs Q E hr h => ?_)
  · obtain ⟨f, o1, o2, ds1, ds2, g, sp, F, rfl, _⟩ := h
    rfl
  · obtain ⟨f, o1, o2, ds1, ds2, g, sp, F, rfl, FA, hask, hd1, hd2, sd1, sd2, l1, l2, k⟩ := h
    refine ⟨_, pss_cons (ps_set (i := 3) sc__law_door_right.nd rfl (.inl rfl) (pe_call G__law_copied (hr.mono (by decide)) (by rfl) T.g__law_copied T.F__law_copied.kp T.b__law_copied .nil pass0 (pa_cons (pv 1) pa_nil)))
      (pss_cons (ps_set (i := 4) sc__law_door_right.nd rfl (.inl rfl) (pe_callA (i := 0) FA (hr.mono (by decide)) rfl (.inl rfl) (fun σ => passS σ) (pa_cons (pv 3) pa_nil)))
      (pss_cons (ps_if (pt_cmpR (oNeD K hr.units) (pv 3) (pv 1) (nomark _)) (pss_one (ps_ret pe_bl)) pss_nil)
      (pss_cons (ps_set (i := 5) sc__law_door_right.nd rfl (.inl rfl) (pe_call G__law_copied (hr.mono (by decide)) (by rfl) T.g__law_copied T.F__law_copied.kp T.b__law_copied .nil pass0 (pa_cons (pv 4) pa_nil)))
      (pss_cons (ps_expr (pe_call G__law_spoiled (hr.mono (by decide)) (by rfl) T.g__law_spoiled T.F__law_spoiled.kp T.b__law_spoiled .nil pass0 (pa_cons (pv 4) pa_nil)))
      (pss_cons (ps_if (pt_cmpR (oNeD K hr.units) (pe_callA (i := 0) FA (hr.mono (by decide)) rfl (.inl rfl) (fun σ => passS σ) (pa_cons (pv 3) pa_nil)) (pv 5) (nomark _)) (pss_one (ps_ret pe_bl)) pss_nil)
      (pss_cons (ps_expr (pe_call G__law_laid (hr.mono (by decide)) (by rfl) T.g__law_laid T.F__law_laid.kp T.b__law_laid .nil pass0 (pa_cons (pv 3) (pa_cons (pv 2) pa_nil))))
      (pss_cons (ps_if (PW.pt (pw_or (pt_cmpR (oNeD K hr.units) (pe_callA (i := 0) FA (hr.mono (by decide)) rfl (.inl rfl) (fun σ => passS σ) (pa_cons (pv 3) pa_nil)) (pe_callA (i := 0) FA (hr.mono (by decide)) rfl (.inl rfl) (fun σ => passS σ) (pa_cons (pe_call G__law_copied (hr.mono (by decide)) (by rfl) T.g__law_copied T.F__law_copied.kp T.b__law_copied .nil pass0 (pa_cons (pv 2) pa_nil)) pa_nil)) (nomark _)) (pw_or1 (pt_cmpR (oNeD K hr.units) (pv 3) (pv 2) (nomark _))))) (pss_one (ps_ret pe_bl)) pss_nil)
      (pss_cons (ps_expr (pe_call G__law_laid (hr.mono (by decide)) (by rfl) T.g__law_laid T.F__law_laid.kp T.b__law_laid .nil pass0 (pa_cons (pv 3) (pa_cons (pv 1) pa_nil))))
      (pss_one (ps_ret (pe_and (pe_cmpR (oEqD K hr.units) (pe_callA (i := 0) FA (hr.mono (by decide)) rfl (.inl rfl) (fun σ => passS σ) (pa_cons (pv 3) pa_nil)) (pv 5) (nomark _)) (pe_one (pe_cmpR (oEqD K hr.units) (pv 3) (pv 1) (nomark _)))))))))))))), ?_⟩

    have sF1 : SDL 5 (dI (F (.list ds1))) := sdl_ints (by omega) 4
    have sF2 : SDL 5 (dI (F (.list ds2))) := sdl_ints (by omega) 4
    walk_at "go"
    refine ⟨o1, .list ds1, rfl, hd1, sd1, fun m fp1 H1 s1 t1 nd1 fr1 => ?_⟩
    have O1 : Own H (.list ds1) m fp1 H1 := ⟨s1, t1, nd1, fr1⟩
    refine go_nm (τ := [some (.ref f), some o1, some o2, some m, none, none]) rfl (go_nx ?_)
    walk_at "go"
    obtain ⟨g1, a1⟩ := hask H1 m _ s1 (.inl rfl) (trD_dp _ t1)
    refine go_callA rfl g1 ?_
    walk_at "go"
    refine ⟨g1, a1 _ _ fun p H2 s2 np e2 => ?_⟩
    refine go_nm (τ := [some (.ref f), some o1, some o2, some m, some (.ref p), none]) rfl (go_nx ?_)
    have O2 := O1.same s2
    have npf : ∀ b ∈ fp1, b ∉ [p] := O1.apart fun b hb => by
      obtain rfl : b = p := by simpa using hb
      exact np
    refine go_seq (cut_ifS false (fun QB q => ?_) (fun H3 s3 => ?_))
    · walk_at "go"
      refine go_neD (dx := .list ds1) (dy := .list ds1) (trD_dp _ O2.t) (dp_same O2.s _ _ hd1) (sd1.shaped (by decide)) (sd1.shaped (by decide)) ?_
      rw [sd1.refl]
      walk_at "go"
      exact q _ (Same.refl _)
    refine if_no rfl (go_next (go_nx ?_))
    have O3 := O2.same s3
    walk_at "go"
    refine ⟨.ref p, dI (F (.list ds1)), rfl, dp_ints (sqL_of (s3 _ _ e2)), sF1, fun bv fpb H4 s4 t4 nd4 fr4 => ?_⟩
    have O4 := O3.same s4
    have B4 : Own H (dI (F (.list ds1))) bv fpb H4 := ⟨O4.s, t4, nd4, fun b hb => O3.s.free (fr4 b hb)⟩
    have djb : ∀ b ∈ fp1, b ∉ fpb := O3.apart fr4
    have npb : ∀ b ∈ fpb, b ∉ [p] := fun b hb z => by
      obtain rfl : b = p := by simpa using z
      have := fr4 b hb
      rw [s3 _ _ e2] at this
      cases this
    have np0 : ∀ b ∈ [p], H b = none := fun b hb => by
      obtain rfl : b = p := by simpa using hb
      exact s1.free np
    refine go_nm (τ := [some (.ref f), some o1, some o2, some m, some (.ref p), some bv]) rfl (go_nx ?_)
    walk_at "go"
    refine ⟨.ref p, (F (.list ds1)).map .int, [p], rfl, trD_ints ((s3.trans s4) _ _ e2), by simp, sF1, fun H5 fr5 => ?_⟩
    have O5 := O4.keep fr5 np0 npf
    have B5 := B4.keep fr5 np0 npb
    walk_at "go"
    refine cut_ifS false (fun QB q => ?_) (fun H6 s6 => ?_)
    · walk_at "go"
      obtain ⟨g5, a5⟩ := hask H5 m _ O5.s (.inl rfl) (trD_dp _ O5.t)
      refine go_callA rfl g5 ?_
      walk_at "go"
      refine ⟨g5, a5 _ _ fun p2 H7 s7 np2 e7 => ?_⟩
      walk_at "go"
      refine go_neD (dx := dI (F (.list ds1))) (dy := dI (F (.list ds1))) (dp_ints (sqL_of e7)) (trD_dp _ (B5.same s7).t) (sF1.shaped (by decide)) (sF1.shaped (by decide)) ?_
      rw [sF1.refl]
      walk_at "go"
      exact q _ s7
    refine if_no rfl (go_next (go_nx ?_))
    have O6 := O5.same s6
    have B6 := B5.same s6
    walk_at "go"
    refine ⟨m, o2, ds1, ds2, fp1, rfl, O6.t, O6.nd, sd1, dp_same O6.hid _ _ hd2, sd2, by decide, fun fp2 H7 fr7 t7 nd7 sv7 => ?_⟩
    have O7 := O6.laid fr7 t7 nd7 sv7
    have B7 := B6.keep fr7 O6.fr fun b hb z => djb b z hb
    have djb2 : ∀ b ∈ fp2, b ∉ fpb := fun b hb z => by
      rcases sv7 b hb with h | h
      · exact djb b h z
      · obtain ⟨xs, q⟩ := trD_some _ B6.t b z
        rw [h] at q
        cases q
    walk_at "go"
    refine cut_ifS false (fun QB q => ?_) (fun H8 s8 => ?_)
    · walk_at "go"
      obtain ⟨g7, a7⟩ := hask H7 m _ O7.s (.inr rfl) (trD_dp _ O7.t)
      refine go_callA rfl g7 ?_
      walk_at "go"
      refine ⟨g7, a7 _ _ fun p3 H9 s9 np3 e9 => ?_⟩
      have O9 := O7.same s9
      walk_at "go"
      have gq : g H9 := (hask H9 m _ O9.s (.inr rfl) (trD_dp _ O9.t)).1
      refine go_callA rfl gq ?_
      walk_at "go"
      refine ⟨o2, .list ds2, rfl, dp_same O9.s _ _ hd2, sd2, fun m2 fpm HA sA tA ndA frA => ?_⟩
      obtain ⟨gA, aA⟩ := hask HA m2 _ (O9.s.trans sA) (.inr rfl) (trD_dp _ tA)
      walk_at "go"
      refine ⟨gA, aA _ _ fun p4 HB sB np4 eB => ?_⟩
      refine go_neD (dx := dI (F (.list ds2))) (dy := dI (F (.list ds2))) (dp_ints (sqL_of ((sA.trans sB) _ _ e9))) (dp_ints (sqL_of eB)) (sF2.shaped (by decide)) (sF2.shaped (by decide)) ?_
      rw [sF2.refl]
      walk_at "go"
      refine if_no rfl ?_
      walk_at "go"
      have OB := (O9.same sA).same sB
      refine go_neD (dx := .list ds2) (dy := .list ds2) (trD_dp _ OB.t) (dp_same OB.s _ _ hd2) (sd2.shaped (by decide)) (sd2.shaped (by decide)) ?_
      rw [sd2.refl]
      walk_at "go"
      exact q _ (s9.trans (sA.trans sB))
    refine if_no rfl (go_next (go_nx ?_))
    have O8 := O7.same s8
    have B8 := B7.same s8
    walk_at "go"
    refine ⟨m, o1, ds2, ds1, fp2, rfl, O8.t, O8.nd, sd2, dp_same O8.hid _ _ hd1, sd1, by decide, fun fp3 H9 fr9 t9 nd9 sv9 => ?_⟩
    have O9 := O8.laid fr9 t9 nd9 sv9
    have B9 := B8.keep fr9 O8.fr fun b hb z => djb2 b z hb
    walk_at "go"
    obtain ⟨g9, a9⟩ := hask H9 m _ O9.s (.inl rfl) (trD_dp _ O9.t)
    refine go_callA rfl g9 ?_
    walk_at "go"
    refine ⟨g9, a9 _ _ fun p5 HA sA np5 eA => ?_⟩
    walk_at "go"
    refine go_eqD (dx := dI (F (.list ds1))) (dy := dI (F (.list ds1))) (dp_ints (sqL_of eA)) (trD_dp _ (B9.same sA).t) (sF1.shaped (by decide)) (sF1.shaped (by decide)) ?_
    rw [sF1.refl]
    walk_at "go"
    have OA := O9.same sA
    refine go_eqD (dx := .list ds1) (dy := .list ds1) (trD_dp _ OA.t) (dp_same OA.s _ _ hd1) (sd1.shaped (by decide)) (sd1.shaped (by decide)) ?_
    rw [sd1.refl]
    exact k _ OA.s
def sp__law_row (K : PySem.W.Frag) : Sp := fun vs H Q _ => ∃ (a : Addr) (cs : List Int) (n m : Nat), vs = [.ref a, .int (n : Int), .int (m : Int)] ∧ SqL K H a (cs.map V.int) ∧ 0 < cs.length ∧ n ≤ 1000 ∧ m ≤ 1000 ∧ ∀ p (r : List Nat) H', Same H H' → H p = none → H' p = some (.lst (nv r)) → r.Perm (List.range n) → Q (.ref p) H'
theorem nv_erase (l : List Nat) (k : Nat) : (nv l).eraseIdx k = nv (l.eraseIdx k) := by
  unfold nv
  rw [List.eraseIdx_eq_take_drop_succ, List.eraseIdx_eq_take_drop_succ, List.map_append, List.map_take, List.map_drop]
theorem abs_nat (i : Int) : ∃ m : Nat, (if i < 0 then -i else i) = (m : Int) := by
  by_cases h : i < 0
  · rw [if_pos h]
    exact ⟨(-i).toNat, by omega⟩
  · rw [if_neg h]
    exact ⟨i.toNat, by omega⟩
theorem erase_perm {l : List Nat} {k : Nat} (h : k < l.length) : (l.eraseIdx k ++ [l.getD k 0]).Perm l := by
  rw [List.getD_eq_getElem?_getD, List.getElem?_eq_getElem h]
  have e : l = l.take k ++ l[k] :: l.drop (k + 1) := by rw [List.getElem_cons_drop, List.take_append_drop]
  rw [List.eraseIdx_eq_take_drop_succ]
  show (l.take k ++ l.drop (k + 1) ++ [l[k]]).Perm l
  refine List.Perm.trans ?_ (List.Perm.of_eq e.symm)
  rw [List.append_assoc]
  exact List.Perm.append_left _ List.perm_append_comm
theorem ok__law_row (T : Prog K mg) (B : Blt mg) : FnOk P w K mg base CX0 1 T.f__law_row T.d__law_row ["_law_cells", "_law_many", "_law_by"] (sp__law_row K) := by
  refine T.F__law_row.ok sc__law_row (fun vs H Q E h => ?_) (fun cdv A outer s H vs Q E hr h => ?_)
  · obtain ⟨a, cs, n, m, rfl, _⟩ := h
    rfl
  · obtain ⟨a, cs, n, m, rfl, hA, hc0, ln, lm, k⟩ := h
    refine ⟨_, pss_cons (ps_par (i := 3) (j := 4) (by rfl) sc__law_row.nd rfl rfl (by decide) rfl rfl (pa_cons (pe_listRg (by rfl) (by rfl) B.list (prg_1 (by rfl) B.range (pv 1))) (pa_cons (pe_lst pa_nil) pa_nil)) (by rfl))
      (pss_cons (ps_for PassesOwn.never rfl (pi_range1 (by rfl) B.range (pa_cons (pv 1) pa_nil)) (pg_name (i := 5) sc__law_row.nd rfl (.inl rfl))
        (pss_cons (ps_set (i := 6) sc__law_row.nd rfl (.inl rfl) (pe_op op_fdiv (pe_callB call_abs (by rfl) B.abs (by decide +kernel) (pa_cons (pe_ix (ixl K) (pv 0) (pe_op op_mod (pe_op op_add (pv 5) (pv 2)) (pe_callB (cLen K) (by rfl) B.len (by decide +kernel) (pa_cons (pv 0) pa_nil))) (fun _ _ => rfl)) pa_nil)) (pe_op op_add pe_int (pv 2))))
      (pss_one (ps_expr (eBm K PySem.F.plainAttrs_list PySem.F.slot_list_append PySem.F.type_list_append mt_append (pv 4) (pa_cons (eBm K PySem.F.plainAttrs_list PySem.F.slot_list_pop PySem.F.type_list_pop mt_popAt (pv 3) (pa_cons (pe_op op_mod (pe_op op_fdiv (pv 6) (pe_op op_add pe_int (pv 5))) (pe_callB (cLen K) (by rfl) B.len (by decide +kernel) (pa_cons (pv 3) pa_nil))) pa_nil)) pa_nil))))))
      (pss_one (ps_ret (pv 4)))), ?_⟩

    walk_at "go"
    refine go_lrK (RgOk.of_le (by omega) (by omega) (by omega) (by omega)) fun lf H1 nlf s1 e1 => ?_
    rw [nv_range] at e1
    walk_at "go"
    refine go_lstK (Nat.zero_le _) fun fo H2 nfo s2 e2 => ?_
    have nl : lf ≠ fo := ne_free e1 nfo
    have e12 := s2 _ _ e1
    walk_at "go"
    refine go_irK (by omega) ?_
    refine go_fK walk_r0 (fun i σ H' => ∃ (v5 v6 : Option V) (l f : List Nat), σ = [some (.ref a), some (.int (n : Int)), some (.int (m : Int)), some (.ref lf), some (.ref fo), v5, v6] ∧ Same H H' ∧ H' lf = some (.lst (nv l)) ∧ H' fo = some (.lst (nv f)) ∧ (f ++ l).Perm (List.range n) ∧ f.length = i)
      ⟨none, none, List.range n, [], rfl, s1.trans s2, e12, e2, List.Perm.refl _, rfl⟩ (fun _ _ _ _ _ => trivial) ?_ ?_
    · rintro i x σ H3 H' hi ⟨v5, v6, l, f, rfl, s3, el, ef, hp, hl⟩ ⟨rfl, rfl⟩
      have hlen : f.length + l.length = n := by
        have := hp.length_eq
        rw [List.length_append, List.length_range] at this
        exact this
      have hA3 := s3.seq hA
      have hel := sqL_of (K := K) el
      have hef := sqL_of (K := K) ef
      walk_at "go"
      rw [List.length_map]
      refine go_I (by omega) ?_
      obtain ⟨j, hj, ej⟩ := mod_nat hc0 ((i : Int) + (m : Int))
      rw [ej]
      refine go_ixL hA3 (iv_at rfl hj) ?_
      walk_at "go"
      refine ⟨_, rfl, ?_⟩
      obtain ⟨c1, hc1⟩ := abs_nat (cs.getD j 0)
      rw [hc1]
      walk_at "go"
      refine go_I ⟨by omega, by omega⟩ ?_
      obtain ⟨c, hc⟩ : ∃ c : Nat, (c1 : Int) / (1 + (m : Int)) = (c : Int) := ⟨c1 / (1 + m), by rw [Int.natCast_ediv, Int.natCast_add]; rfl⟩
      rw [hc]
      walk_at "go"
      refine go_I ⟨by omega, by omega⟩ ?_
      walk_at "go"
      rw [nv_len]
      refine go_I (by omega) ?_
      obtain ⟨q, hq, eq⟩ := mod_nat (n := l.length) (by omega) ((c : Int) / (1 + (i : Int)))
      rw [eq]
      walk_at "go"
      refine go_popAt el rfl (by rw [nv_len]; exact hq) (by rw [nv_len]; omega) (nv_get hq) ?_
      walk_at "go"
      refine go_app (xs := nv f) (by rw [upd_ne nl.symm]; exact ef) (small_lt (by rw [nv_len]; omega)) ?_
      walk_at "go"
      have nH1 : H lf = none := nlf
      have nH2 : H fo = none := s1.free nfo
      refine ⟨_, _, l.eraseIdx q, f ++ [l.getD q 0], rfl, same_mut (same_mut s3 nH1) nH2, ?_, ?_, ?_, by simp [hl]⟩
      · rw [upd_ne nl, upd_same, nv_erase]
      · rw [upd_same, nv_snoc]
      · refine List.Perm.trans ?_ hp
        rw [List.append_assoc]
        refine List.Perm.append_left f ?_
        exact List.perm_append_comm.trans (erase_perm hq)
    · rintro σ H3 ⟨v5, v6, l, f, rfl, s3, el, ef, hp, hl⟩
      walk_at "go"
      have h0 : l = [] := by
        have := hp.length_eq
        rw [List.length_append, List.length_range] at this
        exact List.length_eq_zero_iff.mp (by omega)
      subst h0
      rw [List.append_nil] at hp
      exact k fo f H3 s3 (s1.free nfo) ef hp
/-- an answer just told: what it holds is new -/
inductive An (CD CR CC CF : Addr) (H0 H : Hp) (e : Addr) : Prop where
  | d {dx l : Addr} {s : List Int} (he : H e = some (.ins CD dx (f1 "sides" l))) (hl : H l = some (.lst (s.map V.int))) (nl : H0 l = none) (ls : s.length ≤ 5001)
  | r {dx l m : Addr} {s t : List Int} (he : H e = some (.ins CR dx (f2 "things" "places" l m))) (hl : H l = some (.lst (s.map V.int))) (hm : H m = some (.lst (t.map V.int))) (nl : H0 l = none) (nm : H0 m = none) (lm : l ≠ m) (ls : s.length ≤ 5001) (lt : t.length ≤ 5001)
  | c {dx l m : Addr} {s t : List Int} (he : H e = some (.ins CC dx (f2 "things" "places" l m))) (hl : H l = some (.lst (s.map V.int))) (hm : H m = some (.lst (t.map V.int))) (nl : H0 l = none) (nm : H0 m = none) (lm : l ≠ m) (ls : s.length ≤ 5001) (lt : t.length ≤ 5001)
  | f {dx l m : Addr} {s t : List Int} (he : H e = some (.ins CF dx (f2 "same" "unlike" l m))) (hl : H l = some (.lst (s.map V.int))) (hm : H m = some (.lst (t.map V.int))) (nl : H0 l = none) (nm : H0 m = none) (lm : l ≠ m) (ls : s.length ≤ 5001) (lt : t.length ≤ 5001)
theorem An.same {CD CR CC CF : Addr} {H0 H H' : Hp} {e : Addr} (a : An CD CR CC CF H0 H e) (s : Same H H') : An CD CR CC CF H0 H' e := by
  cases a with
  | d he hl nl ls => exact .d (s _ _ he) (s _ _ hl) nl ls
  | r he hl hm nl nm lm ls lt => exact .r (s _ _ he) (s _ _ hl) (s _ _ hm) nl nm lm ls lt
  | c he hl hm nl nm lm ls lt => exact .c (s _ _ he) (s _ _ hl) (s _ _ hm) nl nm lm ls lt
  | f he hl hm nl nm lm ls lt => exact .f (s _ _ he) (s _ _ hl) (s _ _ hm) nl nm lm ls lt
def sp__law_told (K : PySem.W.Frag) (CD CR CC CF : Addr) : Sp := fun vs H Q _ => ∃ (e : Addr) (H0 : Hp), vs = [.ref e] ∧ Same H0 H ∧ An CD CR CC CF H0 H e ∧ ∀ v ds fp H', Same H H' → TrD H' (.list ds) v fp → fp.Nodup → (∀ b ∈ fp, H0 b = none) → SDL 5 (.list ds) → Q v H'
theorem tr_two {H : Hp} {p l m : Addr} {s t : List Int} (hp : H p = some (.lst [.ref l, .ref m])) (hl : H l = some (.lst (s.map V.int))) (hm : H m = some (.lst (t.map V.int))) : TrD H (.list [dI s, dI t]) (.ref p) [p, l, m] :=
  .lst hp (.cons (trD_ints hl) (.cons (trD_ints hm) .nil rfl) rfl)
theorem sdl_two {s t : List Int} (ls : s.length ≤ 5001) (lt : t.length ≤ 5001) : SDL 5 (.list [dI s, dI t]) := .lst (by simp) fun e he => by
  simp only [List.mem_cons, List.not_mem_nil, or_false] at he
  rcases he with rfl | rfl
  · exact sdl_ints (by omega) 3
  · exact sdl_ints (by omega) 3
theorem ok__law_told (T : Prog K mg) (B : Blt mg) : FnOk P w K mg base CX0 1 T.f__law_told T.d__law_told ["_law_found"] (sp__law_told K T.C_Dealt T.C_Ring T.C_Chain T.C_Free) := by
  refine T.F__law_told.ok sc__law_told (fun vs H Q E h => ?_) (fun cdv A outer s H vs Q E hr h => ?_)
  · obtain ⟨e, H0, rfl, _⟩ := h
    rfl
  · obtain ⟨e, H0, rfl, s0, an, k⟩ := h
    refine ⟨_, pss_cons (ps_if (pt_val (pe_callB (cIsi K) (by rfl) B.isinstance (by decide +kernel) (pa_cons (pv 0) (pa_cons (pe_glob (v := .ref T.C_Dealt) (by rfl) T.gDealt rfl) pa_nil)))) (pss_one (ps_ret (eFld K (pv 0)))) pss_nil)
      (pss_cons (ps_if (pt_val (pe_callB (cIsi K) (by rfl) B.isinstance (by decide +kernel) (pa_cons (pv 0) (pa_cons (pe_glob (v := .ref T.C_Free) (by rfl) T.gFree rfl) pa_nil)))) (pss_one (ps_ret (pe_lst (pa_cons (eFld K (pv 0)) (pa_cons (eFld K (pv 0)) pa_nil))))) pss_nil)
      (pss_one (ps_ret (pe_ifExp (PW.pt (pw_or (pt_val (pe_callB (cIsi K) (by rfl) B.isinstance (by decide +kernel) (pa_cons (pv 0) (pa_cons (pe_glob (v := .ref T.C_Chain) (by rfl) T.gChain rfl) pa_nil)))) (pw_or1 (pt_val (pe_callB (cIsi K) (by rfl) B.isinstance (by decide +kernel) (pa_cons (pv 0) (pa_cons (pe_glob (v := .ref T.C_Ring) (by rfl) T.gRing rfl) pa_nil))))))) (pe_lst (pa_cons (eFld K (pv 0)) (pa_cons (eFld K (pv 0)) pa_nil))) (pe_lst pa_nil))))), ?_⟩

    cases an with
    | @d dx l s he hl nl ls =>
      refine go_seq (cut_ifS true (fun QB q => ?_) (fun H1 s1 => ?_))
      · walk_at "go"
        refine go_isi (b := true) (.own _) (.base (.ins he T.cDealt T.hc_Dealt T.sg1 T.sg2 T.ho_Dealt)) T.k_Dealt_Dealt ?_
        walk_at "go"
        exact q _ (Same.refl _)
      refine if_yes rfl ?_
      walk_at "go"
      refine go_fldK (s1 _ _ he) T.cDealt T.n_Dealt_sides f1_at ?_
      refine k _ _ [l] _ s1 (trD_ints (s1 _ _ hl)) (by simp) (fun b hb => ?_) (sdl_ints (by omega) 4)
      obtain rfl : b = l := by simpa using hb
      exact nl
    | @f dx l m s t he hl hm nl nm lm ls lt =>
      refine go_seq (cut_ifS false (fun QB q => ?_) (fun HDealt sDealt => ?_))
      · walk_at "go"
        refine go_isi (b := false) (.own _) (.base (.ins he T.cFree T.hc_Free T.sg1 T.sg2 T.ho_Free)) T.k_Free_Dealt ?_
        walk_at "go"
        exact q _ (Same.refl _)
      refine if_no rfl (go_next (go_nx ?_))
      replace he := sDealt _ _ he
      replace hl := sDealt _ _ hl
      replace hm := sDealt _ _ hm
      refine go_seq (cut_ifS true (fun QB q => ?_) (fun H1 s1 => ?_))
      · walk_at "go"
        refine go_isi (b := true) (.own _) (.base (.ins he T.cFree T.hc_Free T.sg1 T.sg2 T.ho_Free)) T.k_Free_Free ?_
        walk_at "go"
        exact q _ (Same.refl _)
      refine if_yes rfl ?_
      replace he := s1 _ _ he
      replace hl := s1 _ _ hl
      replace hm := s1 _ _ hm
      walk_at "go"
      refine go_fldK he T.cFree T.n_Free_same f2_fst ?_
      walk_at "go"
      refine go_fldK he T.cFree T.n_Free_unlike (f2_snd (by decide +kernel)) ?_
      walk_at "go"
      refine go_lstK (by show 2 ≤ sizeLine; decide) fun p HP np sP eP => ?_
      have s0P := sDealt.trans s1
      refine k _ _ [p, l, m] _ (s0P.trans sP) (tr_two eP (sP _ _ hl) (sP _ _ hm)) ?_ (fun b hb => ?_) (sdl_two ls lt)
      · have n1 := ne_of_none hl np
        have n2 := ne_of_none hm np
        simp only [List.nodup_cons, List.mem_cons, List.not_mem_nil, or_false, not_or, List.nodup_nil, and_true, not_false_eq_true]
        exact ⟨⟨n1.symm, n2.symm⟩, lm⟩
      · simp only [List.mem_cons, List.not_mem_nil, or_false] at hb
        rcases hb with rfl | rfl | rfl
        · exact (s0.trans s0P).free np
        · exact nl
        · exact nm
    | @c dx l m s t he hl hm nl nm lm ls lt =>
      refine go_seq (cut_ifS false (fun QB q => ?_) (fun HDealt sDealt => ?_))
      · walk_at "go"
        refine go_isi (b := false) (.own _) (.base (.ins he T.cChain T.hc_Chain T.sg1 T.sg2 T.ho_Chain)) T.k_Chain_Dealt ?_
        walk_at "go"
        exact q _ (Same.refl _)
      refine if_no rfl (go_next (go_nx ?_))
      replace he := sDealt _ _ he
      replace hl := sDealt _ _ hl
      replace hm := sDealt _ _ hm
      refine go_seq (cut_ifS false (fun QB q => ?_) (fun HFree sFree => ?_))
      · walk_at "go"
        refine go_isi (b := false) (.own _) (.base (.ins he T.cChain T.hc_Chain T.sg1 T.sg2 T.ho_Chain)) T.k_Chain_Free ?_
        walk_at "go"
        exact q _ (Same.refl _)
      refine if_no rfl (go_next (go_nx ?_))
      replace he := sFree _ _ he
      replace hl := sFree _ _ hl
      replace hm := sFree _ _ hm
      walk_at "go"
      refine go_isi (b := true) (.own _) (.base (.ins he T.cChain T.hc_Chain T.sg1 T.sg2 T.ho_Chain)) T.k_Chain_Chain ?_
      walk_at "go"
      refine go_fldK he T.cChain T.n_Chain_things f2_fst ?_
      walk_at "go"
      refine go_fldK he T.cChain T.n_Chain_places (f2_snd (by decide +kernel)) ?_
      walk_at "go"
      refine go_lstK (by show 2 ≤ sizeLine; decide) fun p HP np sP eP => ?_
      have s0P := sDealt.trans sFree
      refine k _ _ [p, l, m] _ (s0P.trans sP) (tr_two eP (sP _ _ hl) (sP _ _ hm)) ?_ (fun b hb => ?_) (sdl_two ls lt)
      · have n1 := ne_of_none hl np
        have n2 := ne_of_none hm np
        simp only [List.nodup_cons, List.mem_cons, List.not_mem_nil, or_false, not_or, List.nodup_nil, and_true, not_false_eq_true]
        exact ⟨⟨n1.symm, n2.symm⟩, lm⟩
      · simp only [List.mem_cons, List.not_mem_nil, or_false] at hb
        rcases hb with rfl | rfl | rfl
        · exact (s0.trans s0P).free np
        · exact nl
        · exact nm
    | @r dx l m s t he hl hm nl nm lm ls lt =>
      refine go_seq (cut_ifS false (fun QB q => ?_) (fun HDealt sDealt => ?_))
      · walk_at "go"
        refine go_isi (b := false) (.own _) (.base (.ins he T.cRing T.hc_Ring T.sg1 T.sg2 T.ho_Ring)) T.k_Ring_Dealt ?_
        walk_at "go"
        exact q _ (Same.refl _)
      refine if_no rfl (go_next (go_nx ?_))
      replace he := sDealt _ _ he
      replace hl := sDealt _ _ hl
      replace hm := sDealt _ _ hm
      refine go_seq (cut_ifS false (fun QB q => ?_) (fun HFree sFree => ?_))
      · walk_at "go"
        refine go_isi (b := false) (.own _) (.base (.ins he T.cRing T.hc_Ring T.sg1 T.sg2 T.ho_Ring)) T.k_Ring_Free ?_
        walk_at "go"
        exact q _ (Same.refl _)
      refine if_no rfl (go_next (go_nx ?_))
      replace he := sFree _ _ he
      replace hl := sFree _ _ hl
      replace hm := sFree _ _ hm
      walk_at "go"
      refine go_isi (b := false) (.own _) (.base (.ins he T.cRing T.hc_Ring T.sg1 T.sg2 T.ho_Ring)) T.k_Ring_Chain ?_
      walk_at "go"
      refine go_isi (b := true) (.own _) (.base (.ins he T.cRing T.hc_Ring T.sg1 T.sg2 T.ho_Ring)) T.k_Ring_Ring ?_
      walk_at "go"
      refine go_fldK he T.cRing T.n_Ring_things f2_fst ?_
      walk_at "go"
      refine go_fldK he T.cRing T.n_Ring_places (f2_snd (by decide +kernel)) ?_
      walk_at "go"
      refine go_lstK (by show 2 ≤ sizeLine; decide) fun p HP np sP eP => ?_
      have s0P := sDealt.trans sFree
      refine k _ _ [p, l, m] _ (s0P.trans sP) (tr_two eP (sP _ _ hl) (sP _ _ hm)) ?_ (fun b hb => ?_) (sdl_two ls lt)
      · have n1 := ne_of_none hl np
        have n2 := ne_of_none hm np
        simp only [List.nodup_cons, List.mem_cons, List.not_mem_nil, or_false, not_or, List.nodup_nil, and_true, not_false_eq_true]
        exact ⟨⟨n1.symm, n2.symm⟩, lm⟩
      · simp only [List.mem_cons, List.not_mem_nil, or_false] at hb
        rcases hb with rfl | rfl | rfl
        · exact (s0.trans s0P).free np
        · exact nl
        · exact nm
theorem Told.same {CR CC CF : Addr} {H0 H H' : Hp} {n : Nat} {rs : List (List Nat)} {x y : Nat} {e : Addr} (t : Told CR CC CF H0 H n rs x y e) (s : Same H H') : Told CR CC CF H0 H' n rs x y e := by
  cases t with
  | ring hb he hl hm ne nl nm lm ok ev lt lp => exact .ring hb (s _ _ he) (s _ _ hl) (s _ _ hm) ne nl nm lm ok ev lt lp
  | chain hb hh he hl hm ne nl nm lm ok ev lt lp => exact .chain hb hh (s _ _ he) (s _ _ hl) (s _ _ hm) ne nl nm lm ok ev lt lp
  | free hb hh he hl hm ne nl nm lm ok lt lp => exact .free hb hh (s _ _ he) (s _ _ hl) (s _ _ hm) ne nl nm lm ok lt lp
def sp__law_holds (K : PySem.W.Frag) (CR CC CF : Addr) : Sp := fun vs H Q _ => ∃ (e a : Addr) (rs : List (List Nat)) (n x y : Nat) (H0 : Hp), vs = [.ref e, .ref a, .int (x : Int), .int (y : Int)] ∧ RowsAt K H a rs ∧ Rw n rs ∧ x < n ∧ y < n ∧ Told CR CC CF H0 H n rs x y e ∧ ∀ H', Same H H' → Q (.bl true) H'
theorem ok__law_holds (T : Prog K mg) (B : Blt mg) : FnOk P w K mg base CX0 4 T.f__law_holds T.d__law_holds ["_law_found", "_law_rows", "_law_one", "_law_other"] (sp__law_holds K T.C_Ring T.C_Chain T.C_Free) := by
  have G_Ring_shows := ok_Ring_shows (P := P) (w := w) (base := base) T B
  have G_Chain_shows := ok_Chain_shows (P := P) (w := w) (base := base) T B
  have G_Free_shows := ok_Free_shows (P := P) (w := w) (base := base) T B
  refine T.F__law_holds.ok sc__law_holds (fun vs H Q E h => ?_) (fun cdv A outer s H vs Q E hr h => ?_)
  · obtain ⟨e, a, rs, n, x, y, H0, rfl, _⟩ := h
    rfl
  · obtain ⟨e, a, rs, n, x, y, H0, rfl, hR, RW, hx, hy, tl, k⟩ := h
    refine ⟨_, pss_one (ps_ret (pe_ifExp (pt_val (pe_callB (cIsi K) (by rfl) B.isinstance (by decide +kernel) (pa_cons (pv 0) (pa_cons (pe_glob (v := .ref T.C_Ring) (by rfl) T.gRing rfl) pa_nil)))) (pe_meth (pv 0) T.cRing T.me_Ring_shows G_Ring_shows (hr.mono (by decide)) T.b_Ring_shows .nil pass0 (pa_cons (pv 1) pa_nil)) (pe_or2 (pe_meth (pv 0) T.cChain T.me_Chain_shows G_Chain_shows (hr.mono (by decide)) T.b_Chain_shows .nil pass0 (pa_cons (pv 1) (pa_cons (pv 2) (pa_cons (pv 3) pa_nil)))) (pe_meth (pv 0) T.cFree T.me_Free_shows G_Free_shows (hr.mono (by decide)) T.b_Free_shows .nil pass0 (pa_cons (pv 1) (pa_cons (pv 2) (pa_cons (pv 3) pa_nil))))))), ?_⟩

    have ln := RW.ln
    cases tl with
    | @ring dx l m ts ps hb2 he hl hm _ _ _ _ ok _ lt lp =>
      walk_at "go"
      refine go_isi (b := true) (.own _) (.base (.ins he T.cRing T.hc_Ring T.sg1 T.sg2 T.ho_Ring)) T.k_Ring_Ring ?_
      walk_at "go"
      refine go_meK he (f2_no (by decide +kernel) (by decide +kernel)) ?_
      walk_at "go"
      refine ⟨e, dx, l, m, a, rs, n, ts, ps, rfl, he, hR, RW.G, by omega, sqL_of hl, sqL_of hm, by omega, by omega, fun H7 s7 => ?_⟩
      rw [ok]
      exact k _ s7
    | @chain dx l m ts ps _ hh he hl hm _ _ _ _ ok _ lt lp =>
      walk_at "go"
      refine go_isi (b := false) (.own _) (.base (.ins he T.cChain T.hc_Chain T.sg1 T.sg2 T.ho_Chain)) T.k_Chain_Ring ?_
      walk_at "go"
      refine .inl ?_
      walk_at "go"
      refine go_meK he (f2_no (by decide +kernel) (by decide +kernel)) ?_
      walk_at "go"
      refine ⟨e, dx, l, m, a, rs, n, ts, ps, _, _, rfl, he, hR, RW.G, by omega, sqL_of hl, sqL_of hm, by omega, by omega, fun H7 s7 => ?_⟩
      rw [ok]
      exact k _ s7
    | @free dx l m ts ps _ hh he hl hm _ _ _ _ ok lt lp =>
      walk_at "go"
      refine go_isi (b := false) (.own _) (.base (.ins he T.cFree T.hc_Free T.sg1 T.sg2 T.ho_Free)) T.k_Free_Ring ?_
      walk_at "go"
      refine .inr ?_
      walk_at "go"
      refine go_meK he (f2_no (by decide +kernel) (by decide +kernel)) ?_
      walk_at "go"
      refine ⟨e, dx, l, m, a, rs, n, x, y, ts, ps, rfl, hx, hy, he, hR, RW.G, by omega, sqL_of hl, sqL_of hm, by omega, by omega, fun H7 s7 => ?_⟩
      rw [ok]
      exact k _ s7
theorem dpAll_rowsV {K : PySem.W.Frag} {H : Hp} : ∀ {rs : List (List Nat)} {vs : List V}, DpAll K H vs (rs.map fun r => dI (iN r)) → RowsV K H vs rs
  | [], _, h => by cases h; exact .nil
  | r :: rs, _, h => by
    cases h with
    | cons h t =>
      obtain ⟨p, rfl, hp⟩ := dp_dI h
      exact .cons (by rw [nv_iv]; exact hp) (dpAll_rowsV t)
theorem rows_of_dp {K : PySem.W.Frag} {H : Hp} {v : V} {rs : List (List Nat)} (h : Dp K H v (dR rs)) : ∃ a, v = .ref a ∧ RowsAt K H a rs := by
  unfold dR at h
  cases h with
  | @lst a xs _ hA hX => exact ⟨a, rfl, RowsV.at hA (dpAll_rowsV hX)⟩
/-- a door whose answer is free, by rows; its own word -/
def FreeF (K : PySem.W.Frag) (CD CR CC CF : Addr) (g : Hp → Prop) (sp : Sp) (Ok : List (List Nat) → Addr → Hp → Prop) (H : Hp) (r1 r2 : List (List Nat)) : Prop := ∀ H' a rs, Same H H' → (rs = r1 ∨ rs = r2) → RowsAt K H' a rs →
  g H' ∧ ∀ Q E, (∀ e H'', Same H' H'' → An CD CR CC CF H' H'' e → Ok rs e H'' → Q (.ref e) H'') → sp [.ref a] H' Q E
def HoldF (K : PySem.W.Frag) (g : Hp → Prop) (sp : Sp) (Ok : List (List Nat) → Addr → Hp → Prop) (H : Hp) (r1 r2 : List (List Nat)) : Prop := ∀ H' a e rs, Same H H' → (rs = r1 ∨ rs = r2) → RowsAt K H' a rs → Ok rs e H' →
  g H' ∧ ∀ Q E, (∀ H'', Same H' H'' → Q (.bl true) H'') → sp [.ref e, .ref a] H' Q E
def sp__law_free_right (K : PySem.W.Frag) (P : Program) (w : World) (mg : Str → Option Value) (base : Heap) (CD CR CC CF : Addr) : Sp := fun vs H Q _ => ∃ (f1 f2 o1 o2 : Addr) (r1 r2 : List (List Nat)) (n1 n2 : Nat) (g1 g2 : Hp → Prop) (sp1 sp2 : Sp) (Ok : List (List Nat) → Addr → Hp → Prop),
  vs = [.ref f1, .ref f2, .ref o1, .ref o2] ∧ Act P w K mg base 6 f1 g1 sp1 ∧ Act P w K mg base 6 f2 g2 sp2 ∧ FreeF K CD CR CC CF g1 sp1 Ok H r1 r2 ∧ HoldF K g2 sp2 Ok H r1 r2 ∧ (∀ rs e H H', Same H H' → Ok rs e H → Ok rs e H') ∧ RowsAt K H o1 r1 ∧ RowsAt K H o2 r2 ∧ Rw n1 r1 ∧ Rw n2 r2 ∧ ∀ H', Same H H' → Q (.bl true) H'
theorem ok__law_free_right (T : Prog K mg) (B : Blt mg) : FnOk P w K mg base CX0 16 T.f__law_free_right T.d__law_free_right ["_law_ask", "_law_holds_here", "_law_one", "_law_other"] (sp__law_free_right K P w mg base T.C_Dealt T.C_Ring T.C_Chain T.C_Free) := by
  have G__law_copied := ok__law_copied (P := P) (w := w) (base := base) T B 6
  have G__law_spoiled := ok__law_spoiled (P := P) (w := w) (base := base) T B 6
  have G__law_laid := ok__law_laid (P := P) (w := w) (base := base) T B 6
  have G__law_told := ok__law_told (P := P) (w := w) (base := base) T B
  refine T.F__law_free_right.ok sc__law_free_right (fun vs H Q E h => ?_) (fun cdv A outer s H vs Q E hr h => ?_)
  · obtain ⟨f1, f2, o1, o2, r1, r2, n1, n2, g1, g2, sp1, sp2, Ok, rfl, _⟩ := h
    rfl
  · obtain ⟨f1, f2, o1, o2, r1, r2, n1, n2, g1, g2, sp1, sp2, Ok, rfl, FA, FB, hask, hhold, oks, hR1, hR2, RW1, RW2, k⟩ := h
    refine ⟨_, pss_cons (ps_set (i := 4) sc__law_free_right.nd rfl (.inl rfl) (pe_call G__law_copied (hr.mono (by decide)) (by rfl) T.g__law_copied T.F__law_copied.kp T.b__law_copied .nil pass0 (pa_cons (pv 2) pa_nil)))
      (pss_cons (ps_for PassesOwn.never rfl (iTpl K (pe_tup (pa_cons (pv 2) (pa_cons (pv 2) (pa_cons (pv 3) (pa_cons (pv 2) pa_nil)))))) (pg_name (i := 5) sc__law_free_right.nd rfl (.inl rfl))
        (pss_cons (ps_expr (pe_call G__law_laid (hr.mono (by decide)) (by rfl) T.g__law_laid T.F__law_laid.kp T.b__law_laid .nil pass0 (pa_cons (pv 4) (pa_cons (pv 5) pa_nil))))
      (pss_cons (ps_set (i := 6) sc__law_free_right.nd rfl (.inl rfl) (pe_callA (i := 0) FA (hr.mono (by decide)) rfl (.inl rfl) (fun σ => passS σ) (pa_cons (pv 4) pa_nil)))
      (pss_cons (ps_if (PW.pt (pw_or (pt_cmpR (oNeD K hr.units) (pv 4) (pv 5) (nomark _)) (pw_or1 (pt_cmpR op_notBl (pe_callA (i := 1) FB (hr.mono (by decide)) rfl (.inl rfl) (fun σ => passS σ) (pa_cons (pv 6) (pa_cons (pe_call G__law_copied (hr.mono (by decide)) (by rfl) T.g__law_copied T.F__law_copied.kp T.b__law_copied .nil pass0 (pa_cons (pv 5) pa_nil)) pa_nil))) pe_bl (nomark _))))) (pss_one (ps_ret pe_bl)) pss_nil)
      (pss_one (ps_expr (pe_call G__law_spoiled (hr.mono (by decide)) (by rfl) T.g__law_spoiled T.F__law_spoiled.kp T.b__law_spoiled .nil pass0 (pa_cons (pe_call G__law_told (hr.mono (by decide)) (by rfl) T.g__law_told T.F__law_told.kp T.b__law_told .nil pass0 (pa_cons (pv 6) pa_nil)) pa_nil))))))))
      (pss_one (ps_ret (pe_cmpR (oEqD K hr.units) (pv 4) (pv 2) (nomark _))))), ?_⟩

    have sd1 : SDL 5 (dR r1) := sdl_rows RW1 3
    have sd2 : SDL 5 (dR r2) := sdl_rows RW2 3
    walk_at "go"
    refine ⟨.ref o1, dR r1, rfl, hR1.dp, sd1, fun m fp1 H1 s1 t1 nd1 fr1 => ?_⟩
    refine go_nm (τ := [some (.ref f1), some (.ref f2), some (.ref o1), some (.ref o2), some m, none, none]) rfl (go_nx ?_)
    walk_at "go"
    refine go_tupK (by show 4 ≤ sizeLine; decide) fun tp H2 ntp s2 etp => ?_
    refine go_itK (sqT_of etp) ?_
    have O2 : Own H (dR r1) m fp1 H2 := (Own.same ⟨s1, t1, nd1, fr1⟩ s2)
    refine go_fK (walk_tup (xs := [V.ref o1, V.ref o1, V.ref o2, V.ref o1])) (fun i σ H' => ∃ v5 v6 fp, σ = [some (.ref f1), some (.ref f2), some (.ref o1), some (.ref o2), some m, v5, v6] ∧ Own H (dR (if i = 3 then r2 else r1)) m fp H' ∧ H' tp = some (.tup [V.ref o1, V.ref o1, V.ref o2, V.ref o1])) ⟨none, none, fp1, rfl, O2, etp⟩ (fun i σ H' _ ⟨_, _, _, _, _, e'⟩ => sqT_of e') ?_ ?_
    · rintro i x σ Hq H3 hi ⟨v5, v6, fp, rfl, O3, et3⟩ ⟨rfl, hx⟩
      have hi4 : i < 4 := hi
      obtain ⟨o, rs', n', rfl, hR', RW', hrs', heq⟩ : ∃ (o : Addr) (rs' : List (List Nat)) (n' : Nat), x = .ref o ∧ RowsAt K H o rs' ∧ Rw n' rs' ∧ (rs' = r1 ∨ rs' = r2) ∧ rs' = (if i + 1 = 3 then r2 else r1) := by
        match i, hi4, hx with
        | 0, _, hx => cases hx; exact ⟨o1, r1, n1, rfl, hR1, RW1, .inl rfl, rfl⟩
        | 1, _, hx => cases hx; exact ⟨o1, r1, n1, rfl, hR1, RW1, .inl rfl, rfl⟩
        | 2, _, hx => cases hx; exact ⟨o2, r2, n2, rfl, hR2, RW2, .inr rfl, rfl⟩
        | 3, _, hx => cases hx; exact ⟨o1, r1, n1, rfl, hR1, RW1, .inl rfl, rfl⟩
      rw [← heq]
      have sd' : SDL 5 (dR rs') := sdl_rows RW' 3
      have sdc : SDL 5 (dR (if i = 3 then r2 else r1)) := by split <;> assumption
      refine go_nm (τ := [some (.ref f1), some (.ref f2), some (.ref o1), some (.ref o2), some m, some (.ref o), v6]) rfl ?_
      walk_at "go"
      refine ⟨m, .ref o, _, _, fp, rfl, O3.t, O3.nd, sdc, dp_same O3.hid _ _ hR'.dp, sd', by decide, fun fp2 H4 fr4 t4 nd4 sv4 => ?_⟩
      have O4 : Own H (dR rs') m fp2 H4 := O3.laid fr4 t4 nd4 sv4
      have et4 := fr4 _ _ et3 fun z => by
        obtain ⟨xs, q⟩ := trD_some _ O3.t tp z
        rw [et3] at q
        cases q
      obtain ⟨a, em, hRm⟩ := rows_of_dp (K := K) (trD_dp _ O4.t)
      subst em
      walk_at "go"
      obtain ⟨q1, a1⟩ := hask H4 a rs' O4.s hrs' hRm
      refine go_callA rfl q1 ?_
      walk_at "go"
      refine ⟨q1, a1 _ _ fun e H5 s5 an5 ok5 => ?_⟩
      refine go_nm (τ := [some (.ref f1), some (.ref f2), some (.ref o1), some (.ref o2), some (.ref a), some (.ref o), some (.ref e)]) rfl (go_nx ?_)
      have O5 := O4.same s5
      refine go_seq (cut_ifS false (fun QB q => ?_) (fun H6 s6 => ?_))
      · walk_at "go"
        refine go_neD (dx := dR rs') (dy := dR rs') (trD_dp _ O5.t) (dp_same O5.s _ _ hR'.dp) (sd'.shaped (by decide)) (sd'.shaped (by decide)) ?_
        rw [sd'.refl]
        walk_at "go"
        refine if_no rfl ?_
        walk_at "go"
        obtain ⟨q0, _⟩ := hhold H5 a e rs' O5.s hrs' (hRm.same s5) ok5
        refine go_callA rfl q0 ?_
        walk_at "go"
        refine ⟨.ref o, dR rs', rfl, dp_same O5.s _ _ hR'.dp, sd', fun m2 fpm H7 s7 t7 nd7 fr7 => ?_⟩
        obtain ⟨a2, em2, hR2'⟩ := rows_of_dp (K := K) (trD_dp _ t7)
        subst em2
        obtain ⟨q2, b2⟩ := hhold H7 a2 e rs' (O5.s.trans s7) hrs' hR2' (oks _ _ _ _ s7 ok5)
        walk_at "go"
        refine ⟨q2, b2 _ _ fun H8 s8 => ?_⟩
        walk_at "go"
        refine go_notB ?_
        walk_at "go"
        exact q _ (s7.trans s8)
      refine if_no rfl (go_next (go_nx ?_))
      have O6 := O5.same s6
      walk_at "go"
      refine ⟨e, H4, rfl, s5.trans s6, an5.same s6, fun tv ds fpt H7 s7 t7 nd7 fr7 sdt => ?_⟩
      have O7 := O6.same s7
      walk_at "go"
      refine ⟨tv, ds, fpt, rfl, t7, nd7, sdt, fun H8 fr8 => ?_⟩
      have O8 := O7.keep fr8 (fun b hb => O4.s.free (fr7 b hb)) (O4.apart fr7)
      have et8 := fr8 _ _ ((s5.trans (s6.trans s7)) _ _ et4) fun z => by
        have := fr7 tp z
        rw [et4] at this
        cases this
      walk_at "go"
      exact ⟨_, _, fp2, rfl, O8, et8⟩
    · rintro σ H3 ⟨v5, v6, fp, rfl, O3, et3⟩
      walk_at "go"
      refine go_eqD (dx := dR r1) (dy := dR r1) (trD_dp _ O3.t) (dp_same O3.s _ _ hR1.dp) (sd1.shaped (by decide)) (sd1.shaped (by decide)) ?_
      rw [sd1.refl]
      exact k _ O3.s
def sp_law (K : PySem.W.Frag) (TT : List (Addr × Str)) : Sp := fun vs H Q _ => ∃ (a : Addr) (ns : List Int), vs = [.ref a] ∧ SqL K H a (ns.map V.int) ∧ ns.length ≤ 63 ∧ LamX.Tabs TT H ∧ ∀ H', Q (.bl true) H'
theorem cellsB_nil (base : Heap) : CellsB base [] [] [] := ⟨rfl, fun _ _ e => (by cases e), fun _ _ _ e => (by cases e), fun _ _ e => (by simp at e)⟩
/-! data read back -/
def natsOf : PyData → List Nat
  | .list es => es.map fun e => match e with | .int i => i.toNat | _ => 0
  | _ => []
def intsOf : PyData → List Int
  | .list es => es.map fun e => match e with | .int i => i | _ => 0
  | _ => []
def rowsOf : PyData → List (List Nat)
  | .list es => es.map natsOf
  | _ => []
def elOf (i : Nat) : PyData → PyData
  | .list es => es.getD i .none
  | _ => .none
theorem natsOf_iN (r : List Nat) : natsOf (dI (iN r)) = r := by
  unfold natsOf dI iN
  simp only [List.map_map]
  exact (List.map_congr_left fun x _ => rfl).trans (List.map_id r)
theorem rowsOf_dR (rs : List (List Nat)) : rowsOf (dR rs) = rs := by
  unfold rowsOf dR
  simp only [List.map_map]
  exact (List.map_congr_left fun x _ => natsOf_iN x).trans (List.map_id rs)
theorem intsOf_dI (l : List Int) : intsOf (dI l) = l := by
  unfold intsOf dI
  simp only [List.map_map]
  exact (List.map_congr_left fun x _ => rfl).trans (List.map_id l)
theorem cnt_two {n : Nat} {rs : List (List Nat)} {s : S} {dep : Nat → Nat} (F : Fin n rs s dep) (hn : 0 < n) (hb : s.bar = none) : 1 < cntN n s := by
  unfold cntN
  rw [if_pos hb]
  obtain ⟨g, hg, _, h2, _⟩ := F.hd 0 hn
  have : 0 < (hds n s).length := List.length_pos_of_mem (hds_mem.mpr ⟨hg, h2⟩)
  have := Nat.pow_le_pow_right (show 0 < 2 by decide) this
  omega
/-! items -/
def AskIt (K : PySem.W.Frag) (P : Program) (w : World) (mg : Str → Option Value) (base : Heap) (v : V) (H : Hp) : Prop := ∃ (t f : Addr) (o1 o2 : V) (ds1 ds2 : List PyData) (g : Hp → Prop) (sp : Sp) (F : PyData → List Int), v = .ref t ∧ H t = some (.tup [.ref f, o1, o2]) ∧
  Act P w K mg base 6 f g sp ∧ (∀ H', Same (noT H) H' → AskF K g sp F H' (.list ds1) (.list ds2)) ∧ Dp K H o1 (.list ds1) ∧ Dp K H o2 (.list ds2) ∧ SDL 5 (.list ds1) ∧ SDL 5 (.list ds2) ∧ (F (.list ds1)).length ≤ 1000 ∧ (F (.list ds2)).length ≤ 1000
theorem AskIt.mono {K : PySem.W.Frag} {P : Program} {w : World} {mg : Str → Option Value} {base : Heap} {v : V} {H H' : Hp} (h : AskIt K P w mg base v H) (s : Same (noT H) H') : AskIt K P w mg base v H' := by
  obtain ⟨t, f, o1, o2, ds1, ds2, g, sp, F, e, ht, A, hf, d1, d2, z⟩ := h
  exact ⟨t, f, o1, o2, ds1, ds2, g, sp, F, e, s _ _ (noT_at ht (by intro ps z; cases z)), A, fun H2 s2 => hf H2 (noT_trans s s2), dp_same s _ _ (dp_noT _ _ d1), dp_same s _ _ (dp_noT _ _ d2), z⟩
def FreeIt (K : PySem.W.Frag) (P : Program) (w : World) (mg : Str → Option Value) (base : Heap) (CD CR CC CF : Addr) (v : V) (H : Hp) : Prop := ∃ (t f1 f2 o1 o2 : Addr) (r1 r2 : List (List Nat)) (n1 n2 : Nat) (g1 g2 : Hp → Prop) (sp1 sp2 : Sp) (Ok : List (List Nat) → Addr → Hp → Prop), v = .ref t ∧ H t = some (.tup [.ref f1, .ref f2, .ref o1, .ref o2]) ∧
  Act P w K mg base 6 f1 g1 sp1 ∧ Act P w K mg base 6 f2 g2 sp2 ∧ (∀ H', Same (noT H) H' → FreeF K CD CR CC CF g1 sp1 Ok H' r1 r2) ∧ (∀ H', Same (noT H) H' → HoldF K g2 sp2 Ok H' r1 r2) ∧ (∀ rs e H H', Same H H' → Ok rs e H → Ok rs e H') ∧ RowsAt K H o1 r1 ∧ RowsAt K H o2 r2 ∧ Rw n1 r1 ∧ Rw n2 r2
theorem FreeIt.mono {K : PySem.W.Frag} {P : Program} {w : World} {mg : Str → Option Value} {base : Heap} {CD CR CC CF : Addr} {v : V} {H H' : Hp} (h : FreeIt K P w mg base CD CR CC CF v H) (s : Same (noT H) H') : FreeIt K P w mg base CD CR CC CF v H' := by
  obtain ⟨t, f1, f2, o1, o2, r1, r2, n1, n2, g1, g2, sp1, sp2, Ok, e, ht, A, B, hf, hh, ok, R1, R2, z⟩ := h
  exact ⟨t, f1, f2, o1, o2, r1, r2, n1, n2, g1, g2, sp1, sp2, Ok, e, s _ _ (noT_at ht (by intro ps z; cases z)), A, B, fun H2 s2 => hf H2 (noT_trans s s2), fun H2 s2 => hh H2 (noT_trans s s2), ok, (noT_rows R1).same s, (noT_rows R2).same s, z⟩
/-- the two lists as they grow; H0 what is known of all else -/
structure AF (IA IF : V → Hp → Prop) (TT : List (Addr × Str)) (H0 : Hp) (ak fr : Addr) (xs ys : List V) (H : Hp) : Prop where
  s : Same (noT H0) (hL [ak, fr] H)
  T : LamX.Tabs TT H
  ea : H ak = some (.lst xs)
  ef : H fr = some (.lst ys)
  ia : ∀ x ∈ xs, IA x (hL [ak, fr] H)
  iF : ∀ y ∈ ys, IF y (hL [ak, fr] H)
  ne : ak ≠ fr
section
variable {IA IF : V → Hp → Prop} {TT : List (Addr × Str)} {H0 H H' : Hp} {ak fr : Addr} {xs ys : List V} {x : V}
theorem hL_same2 {fp : List Addr} (s : Same H H') : Same (hL fp H) (hL fp H') := fun b o e => by
  obtain ⟨e1, n⟩ := of_hL e
  exact hL_at (s b o e1) n
theorem hL_upd {fp : List Addr} {a : Addr} {o : HO} (h : a ∈ fp) : hL fp (upd H a o) = hL fp H := by
  funext b
  unfold hL
  by_cases hb : b ∈ fp
  · rw [if_pos hb, if_pos hb]
  · rw [if_neg hb, if_neg hb, upd_ne (fun z => hb (by rw [z]; exact h))]
theorem hL_ext {fp : List Addr} (e : LamX.ExtN H H') : Same (noT (hL fp H)) (hL fp H') := fun b o q => by
  have q1 := noT_same _ b o q
  obtain ⟨q2, n⟩ := of_hL q1
  refine hL_at (e b o q2 fun ps z => ?_) n
  subst z
  unfold noT at q
  rw [q1] at q
  cases q
theorem AF.same (MA : ∀ x H H', Same (noT H) H' → IA x H → IA x H') (MF : ∀ x H H', Same (noT H) H' → IF x H → IF x H') (A : AF IA IF TT H0 ak fr xs ys H) (s : Same H H') : AF IA IF TT H0 ak fr xs ys H' :=
  have q : Same (noT (hL [ak, fr] H)) (hL [ak, fr] H') := fun b o e => hL_same2 s b o (noT_same _ b o e)
  ⟨noT_trans A.s q, A.T.ext s, s _ _ A.ea, s _ _ A.ef, fun x hx => MA x _ _ q (A.ia x hx), fun y hy => MF y _ _ q (A.iF y hy), A.ne⟩
theorem AF.lam (MA : ∀ x H H', Same (noT H) H' → IA x H → IA x H') (MF : ∀ x H H', Same (noT H) H' → IF x H → IF x H') (A : AF IA IF TT H0 ak fr xs ys H) (e : LamX.ExtN H H') (T : LamX.Tabs TT H') : AF IA IF TT H0 ak fr xs ys H' :=
  have q : Same (noT (hL [ak, fr] H)) (hL [ak, fr] H') := hL_ext e
  ⟨noT_trans A.s q, T, e _ _ A.ea (by intro ps z; cases z), e _ _ A.ef (by intro ps z; cases z), fun x hx => MA x _ _ q (A.ia x hx), fun y hy => MF y _ _ q (A.iF y hy), A.ne⟩
theorem AF.addA (A : AF IA IF TT H0 ak fr xs ys H) (hx : IA x (hL [ak, fr] H)) : AF IA IF TT H0 ak fr (xs ++ [x]) ys (upd H ak (.lst (xs ++ [x]))) := by
  have eq : hL [ak, fr] (upd H ak (.lst (xs ++ [x]))) = hL [ak, fr] H := hL_upd (by simp)
  refine ⟨by rw [eq]; exact A.s, tabs_lst A.T A.ea, upd_same, by rw [upd_ne A.ne.symm]; exact A.ef, fun z hz => ?_, fun y hy => by rw [eq]; exact A.iF y hy, A.ne⟩
  rw [eq]
  rcases List.mem_append.mp hz with hz | hz
  · exact A.ia z hz
  · obtain rfl : z = x := by simpa using hz
    exact hx
theorem AF.addF (A : AF IA IF TT H0 ak fr xs ys H) (hx : IF x (hL [ak, fr] H)) : AF IA IF TT H0 ak fr xs (ys ++ [x]) (upd H fr (.lst (ys ++ [x]))) := by
  have eq : hL [ak, fr] (upd H fr (.lst (ys ++ [x]))) = hL [ak, fr] H := hL_upd (by simp)
  refine ⟨by rw [eq]; exact A.s, tabs_lst A.T A.ef, by rw [upd_ne A.ne]; exact A.ea, upd_same, fun z hz => by rw [eq]; exact A.ia z hz, fun y hy => ?_, A.ne⟩
  rw [eq]
  rcases List.mem_append.mp hy with hy | hy
  · exact A.iF y hy
  · obtain rfl : y = x := by simpa using hy
    exact hx
theorem AF.out (A : AF IA IF TT H0 ak fr xs ys H) {b : Addr} {o : HO} (e : H b = some o) (n : ∀ l, o ≠ .lst l) : hL [ak, fr] H b = some o := hL_at e fun z => by
  simp only [List.mem_cons, List.not_mem_nil, or_false] at z
  rcases z with rfl | rfl
  · rw [A.ea] at e
    exact n _ (Option.some.inj e).symm
  · rw [A.ef] at e
    exact n _ (Option.some.inj e).symm
theorem AF.fresh (A : AF IA IF TT H0 ak fr xs ys H) {b : Addr} (h : H b = none) : b ∉ [ak, fr] := fun z => by
  simp only [List.mem_cons, List.not_mem_nil, or_false] at z
  rcases z with rfl | rfl
  · rw [A.ea] at h
    cases h
  · rw [A.ef] at h
    cases h
theorem AF.all (A : AF IA IF TT H0 ak fr xs ys H) : Same (noT H0) H := fun b o e => hL_same b o (A.s b o e)
end
/-- two families of rows of the same things -/
def pairR (K : PySem.W.Frag) : SR := ⟨fun v H => ∃ (t a b : Addr) (r1 r2 : List (List Nat)) (n : Nat), v = .ref t ∧ H t = some (.tup [.ref a, .ref b]) ∧ RowsAt K H a r1 ∧ RowsAt K H b r2 ∧ Rw n r1 ∧ Rw n r2 ∧ 3 ≤ n,
  fun _ _ _ s ⟨t, a, b, r1, r2, n, e, h, R1, R2, z⟩ => ⟨t, a, b, r1, r2, n, e, s _ _ h, R1.same s, R2.same s, z⟩⟩
def OkD (CD CR : Addr) (n : Nat) (rs : List (List Nat)) (e : Addr) (H : Hp) : Prop := (∃ dx l s, H e = some (.ins CD dx (f1 "sides" l)) ∧ H l = some (.lst (s.map V.int)) ∧ s.length ≤ 5001 ∧ isEven n rs s = true) ∨
  (∃ dx l m ts ps, H e = some (.ins CR dx (f2 "things" "places" l m)) ∧ H l = some (.lst (ts.map V.int)) ∧ H m = some (.lst (ps.map V.int)) ∧ ts.length ≤ 5001 ∧ ps.length ≤ 5001 ∧ isRing n rs ts ps = true)
theorem OkD.same {CD CR : Addr} {n : Nat} {rs : List (List Nat)} {e : Addr} {H H' : Hp} (h : OkD CD CR n rs e H) (s : Same H H') : OkD CD CR n rs e H' :=
  h.elim (fun ⟨dx, l, z, h1, h2, q⟩ => .inl ⟨dx, l, z, s _ _ h1, s _ _ h2, q⟩) fun ⟨dx, l, m, ts, ps, h1, h2, h3, q⟩ => .inr ⟨dx, l, m, ts, ps, s _ _ h1, s _ _ h2, s _ _ h3, q⟩
def OkT (CR CC CF : Addr) (n x y : Nat) (rs : List (List Nat)) (e : Addr) (H : Hp) : Prop := ∃ H0, Told CR CC CF H0 H n rs x y e
theorem Told.an {CD CR CC CF : Addr} {H0 H : Hp} {n : Nat} {rs : List (List Nat)} {x y : Nat} {e : Addr} (ln : n ≤ 1000) (t : Told CR CC CF H0 H n rs x y e) : An CD CR CC CF H0 H e := by
  cases t with
  | ring hb he hl hm ne nl nm lm ok ev lt lp => exact .r he hl hm nl nm lm lt lp
  | chain hb hh he hl hm ne nl nm lm ok ev lt lp => exact .c he hl hm nl nm lm lt lp
  | free hb hh he hl hm ne nl nm lm ok lt lp => exact .f he hl hm nl nm lm (by omega) (by omega)
theorem go_prT {i j : Nat} {x y : V} {D : Ends} {σ τ : L2.St} {H : Hp} (e : (σ.set i (some x)).set j (some y) = τ) (k : D.nx τ H) : prK i j D σ [x, y] H := by
  subst e
  exact go_prK k
theorem go_pr3T {i j l : Nat} {x y z : V} {D : Ends} {σ τ : L2.St} {H : Hp} (e : ((σ.set i (some x)).set j (some y)).set l (some z) = τ) (k : D.nx τ H) : prK3 i j l D σ [x, y, z] H := by
  subst e
  exact go_prK3 k
theorem ev_prs {K : PySem.W.Frag} {σ : L2.St} {H0 : Hp} {ta tb : TE} {r1 r2 : List (List Nat)} {n : Nat} (h1 : Ev σ H0 ta (rowsR K r1)) (h2 : Ev σ H0 tb (rowsR K r2)) (R1 : Rw n r1) (R2 : Rw n r2) (hn : 3 ≤ n) : Ev σ H0 (tTup (tCons ta (tCons tb tNil))) (pairR K) :=
  (ev_tup (evS_cons h1 (evS_cons h2 evS_nil))).mono fun v H ⟨t, xs, e1, ht, k⟩ => by
    cases k with | cons a k => cases k with | cons b k =>
    cases k
    obtain ⟨a, rfl, ha⟩ := a
    obtain ⟨b, rfl, hb⟩ := b
    exact ⟨t, a, b, r1, r2, n, e1, ht, ha, hb, R1, R2, hn⟩
theorem ev_rw1 {K : PySem.W.Frag} {σ : L2.St} {H0 : Hp} {i : Nat} {p : Addr} {q : List Nat} (hs : σ[i]? = some (some (.ref p))) (h : H0 p = some (.lst (nv q))) : Ev σ H0 (tLst (tCons (tVar i) tNil)) (rowsR K [q]) := fun H s Q k =>
  go_lst (go_cons (go_var hs (go_nil (go_lstK (by show 1 ≤ sizeLine; decide) fun l H' nl s' e' => k _ _ s' ⟨l, rfl, RowsV.at (sqL_of e') (.cons (sqL_of (s' _ _ (s _ _ h))) .nil)⟩))))
theorem ev_rw2 {K : PySem.W.Frag} {σ : L2.St} {H0 : Hp} {i j : Nat} {p p2 : Addr} {q q2 : List Nat} (hs : σ[i]? = some (some (.ref p))) (hs2 : σ[j]? = some (some (.ref p2))) (h : H0 p = some (.lst (nv q))) (h2 : H0 p2 = some (.lst (nv q2))) : Ev σ H0 (tLst (tCons (tVar i) (tCons (tVar j) tNil))) (rowsR K [q, q2]) := fun H s Q k =>
  go_lst (go_cons (go_var hs (go_cons (go_var hs2 (go_nil (go_lstK (by show 2 ≤ sizeLine; decide) fun l H' nl s' e' => k _ _ s' ⟨l, rfl, RowsV.at (sqL_of e') (.cons (sqL_of (s' _ _ (s _ _ h))) (.cons (sqL_of (s' _ _ (s _ _ h2))) .nil))⟩))))))
def rnd3 : List (List Nat) := [[0, 1, 2], [1, 2, 0], [2, 0, 1]]
def pln3 : List (List Nat) := [[0, 1, 2], [0, 2, 1], [0, 1, 2]]
theorem rw_rnd3 : Rw 3 rnd3 := ⟨⟨by decide, by decide⟩, by decide, by decide⟩
theorem rw_pln3 : Rw 3 pln3 := ⟨⟨by decide, by decide⟩, by decide, by decide⟩
theorem rw_q1 {n : Nat} {q : List Nat} (h : q.Perm (List.range n)) (ln : n ≤ 1000) : Rw n [q] := ⟨⟨by simp, fun r hr => by
  obtain rfl : r = q := by simpa using hr
  exact h⟩, ln, by simp⟩
theorem rw_q2 {n : Nat} {q q2 : List Nat} (h : q.Perm (List.range n)) (h2 : q2.Perm (List.range n)) (ln : n ≤ 1000) : Rw n [q, q2] := ⟨⟨by simp, fun r hr => by
  simp only [List.mem_cons, List.not_mem_nil, or_false] at hr
  rcases hr with rfl | rfl
  · exact h
  · exact h2⟩, ln, by simp⟩
/-- rows are no empty lists -/
theorem sq_hL {K : PySem.W.Frag} {H : Hp} {ak fr a : Addr} {xs : List V} (h : SqL K H a xs) (hx : xs ≠ []) (ea : H ak = some (.lst [])) (ef : H fr = some (.lst [])) : SqL K (hL [ak, fr] H) a xs := by
  have key : ∀ o, H a = some o → (o = .lst xs ∨ ∃ q, o = .frz q (.lst xs)) → hL [ak, fr] H a = some o := fun o e ho => hL_at e fun z => by
    simp only [List.mem_cons, List.not_mem_nil, or_false] at z
    have e2 : some o = some (HO.lst []) := by
      rcases z with rfl | rfl
      · exact e.symm.trans ea
      · exact e.symm.trans ef
    cases e2
    rcases ho with ho | ⟨q, ho⟩
    · cases ho
      exact hx rfl
    · cases ho
  rcases h with (h | ⟨o, h⟩) | h
  · exact .inl (.inl (key _ h (.inl rfl)))
  · exact .inl (.inr ⟨o, key _ h (.inr ⟨o, rfl⟩)⟩)
  · exact .inr h
theorem rows_hL {K : PySem.W.Frag} {H : Hp} {ak fr a : Addr} {rs : List (List Nat)} {n : Nat} (h : RowsAt K H a rs) (R : Rw n rs) (hn : 3 ≤ n) (ea : H ak = some (.lst [])) (ef : H fr = some (.lst [])) : RowsAt K (hL [ak, fr] H) a rs := by
  obtain ⟨xs, h1, h2, h3⟩ := h
  refine ⟨xs, sq_hL h1 (fun z => R.G.ne (List.length_eq_zero_iff.mp (by rw [← h2, z]; rfl))) ea ef, h2, fun k hk => ?_⟩
  obtain ⟨p, e, h⟩ := h3 k hk
  refine ⟨p, e, sq_hL h (fun z => ?_) ea ef⟩
  have hm : rs.getD k [] ∈ rs := by
    rw [List.getD_eq_getElem?_getD, List.getElem?_eq_getElem (by omega)]
    exact List.getElem_mem _
  have hl := (R.G.perm _ hm).length_eq
  rw [List.length_range] at hl
  have := congrArg List.length z
  rw [nv_len] at this
  have h0 : ([] : List V).length = 0 := rfl
  omega
theorem ok_law (T : Prog K mg) (B : Blt mg) (TB : Tbs T base) : FnOk P w K mg base CX0 18 T.f_law T.d_law ["_law_script"] (sp_law K (tabs T)) := by
  have G__law_row := ok__law_row (P := P) (w := w) (base := base) T B
  have G_dealing := ok_dealing (P := P) (w := w) (base := base) T B
  have GC__law_door_right := fun base : Heap => ok__law_door_right (P := P) (w := w) (base := base) T B
  have GC__law_free_right := fun base : Heap => ok__law_free_right (P := P) (w := w) (base := base) T B
  refine okC T.F_law sc_law T.dc_law (fun vs H Q E h => ?_) (fun A outer s H vs Q E hr h => ?_)
  · obtain ⟨a, ns, rfl, _⟩ := h
    rfl
  · obtain ⟨a, ns, rfl, hA, la, hT, k⟩ := h
    refine ⟨_, pss_cons (ps_set (i := 1) sc_law.nd rfl (.inl rfl) (pe_ifExp (pt_cmpR (oNeD K hr.units) (pv 0) (pe_lst pa_nil) (nomark _)) (pe_slice (slL K) (pv 0) po_none (po_some pe_int)) (pe_lst (pa_cons pe_int pa_nil))))
      (pss_cons (ps_set (i := 2) sc_law.nd rfl (.inl rfl) (pe_callB call_abs (by rfl) B.abs (by decide +kernel) (pa_cons (pe_callB (cSum K) (by rfl) B.sum (by decide +kernel) (pa_cons (pv 1) pa_nil)) pa_nil)))
      (pss_cons (ps_par (i := 3) (j := 4) (by rfl) sc_law.nd rfl rfl (by decide) rfl rfl (pa_cons (pe_lst pa_nil) (pa_cons (pe_lst pa_nil) pa_nil)) (by rfl))
      (pss_cons (ps_set (i := 5) sc_law.nd rfl (.inl rfl) (pe_op op_add pe_int (pe_op op_mod (pv 2) pe_int)))
      (pss_cons (ps_par3 (i := 6) (j := 7) (l := 8) (by rfl) sc_law.nd rfl rfl rfl (by decide) (by decide) (by decide) rfl rfl rfl (pa_cons (pe_call G__law_row (hr.mono (by decide)) (by rfl) T.g__law_row T.F__law_row.kp T.b__law_row .nil pass0 (pa_cons (pv 1) (pa_cons (pv 5) (pa_cons pe_int pa_nil)))) (pa_cons (pe_call G__law_row (hr.mono (by decide)) (by rfl) T.g__law_row T.F__law_row.kp T.b__law_row .nil pass0 (pa_cons (pv 1) (pa_cons (pv 5) (pa_cons pe_int pa_nil)))) (pa_cons (pe_call G__law_row (hr.mono (by decide)) (by rfl) T.g__law_row T.F__law_row.kp T.b__law_row .nil pass0 (pa_cons (pv 1) (pa_cons (pv 5) (pa_cons pe_int pa_nil)))) pa_nil))) (by rfl))
      (pss_cons (ps_par (i := 9) (j := 10) (by rfl) sc_law.nd rfl rfl (by decide) rfl rfl (pa_cons (pe_lst (pa_cons (pe_lst (pa_cons pe_int (pa_cons pe_int (pa_cons pe_int pa_nil)))) (pa_cons (pe_lst (pa_cons pe_int (pa_cons pe_int (pa_cons pe_int pa_nil)))) (pa_cons (pe_lst (pa_cons pe_int (pa_cons pe_int (pa_cons pe_int pa_nil)))) pa_nil)))) (pa_cons (pe_lst (pa_cons (pe_lst (pa_cons pe_int (pa_cons pe_int (pa_cons pe_int pa_nil)))) (pa_cons (pe_lst (pa_cons pe_int (pa_cons pe_int (pa_cons pe_int pa_nil)))) (pa_cons (pe_lst (pa_cons pe_int (pa_cons pe_int (pa_cons pe_int pa_nil)))) pa_nil)))) pa_nil)) (by rfl))
      (pss_cons (ps_for PassesOwn.never rfl (iTpl K (pe_tup (pa_cons (pe_tup (pa_cons (pe_lst (pa_cons (pv 6) (pa_cons (pv 7) pa_nil))) (pa_cons (pe_lst (pa_cons (pv 7) (pa_cons (pv 8) pa_nil))) pa_nil))) (pa_cons (pe_tup (pa_cons (pe_lst (pa_cons (pv 6) pa_nil)) (pa_cons (pe_lst (pa_cons (pv 8) pa_nil)) pa_nil))) (pa_cons (pe_tup (pa_cons (pv 9) (pa_cons (pv 10) pa_nil))) pa_nil))))) (gTpl K (n := 2) rfl (pgs_cons (pg_name (i := 11) sc_law.nd rfl (.inl rfl)) (pgs_cons (pg_name (i := 12) sc_law.nd rfl (.inl rfl)) pgs_nil)))
        (pss_cons (ps_expr (eBm K PySem.F.plainAttrs_list PySem.F.slot_list_append PySem.F.type_list_append mt_append (pv 4) (pa_cons (pe_tup (pa_cons (pe_lam TB.t_law rfl (tabs_m_law T) (tabs_u_law T) (NdefX.ndef_free (sc := defScope s_law) (fr := []) (by decide +kernel))) (pa_cons (pe_lam TB.t_law rfl (tabs_m_law T) (tabs_u_law T) (NdefX.ndef_free (sc := defScope s_law) (fr := []) (by decide +kernel))) (pa_cons (pv 11) (pa_cons (pv 12) pa_nil))))) pa_nil)))
      (pss_cons (ps_expr (eBm K PySem.F.plainAttrs_list PySem.F.slot_list_append PySem.F.type_list_append mt_append (pv 4) (pa_cons (pe_tup (pa_cons (pe_lam TB.t_law rfl (tabs_m_law T) (tabs_u_law T) (NdefX.ndef_free (sc := defScope s_law) (fr := []) (by decide +kernel))) (pa_cons (pe_lam TB.t_law rfl (tabs_m_law T) (tabs_u_law T) (NdefX.ndef_free (sc := defScope s_law) (fr := []) (by decide +kernel))) (pa_cons (pv 11) (pa_cons (pv 12) pa_nil))))) pa_nil)))
      (pss_cons (ps_expr (eBm K PySem.F.plainAttrs_list PySem.F.slot_list_append PySem.F.type_list_append mt_append (pv 4) (pa_cons (pe_tup (pa_cons (pe_lam TB.t_law rfl (tabs_m_law T) (tabs_u_law T) (NdefX.ndef_free (sc := defScope s_law) (fr := []) (by decide +kernel))) (pa_cons (pe_lam TB.t_law rfl (tabs_m_law T) (tabs_u_law T) (NdefX.ndef_free (sc := defScope s_law) (fr := []) (by decide +kernel))) (pa_cons (pv 11) (pa_cons (pv 12) pa_nil))))) pa_nil)))
      (pss_one (ps_expr (eBm K PySem.F.plainAttrs_list PySem.F.slot_list_append PySem.F.type_list_append mt_append (pv 3) (pa_cons (pe_tup (pa_cons (pe_lam TB.t_law rfl (tabs_m_law T) (tabs_u_law T) (NdefX.ndef_free (sc := defScope s_law) (fr := []) (by decide +kernel))) (pa_cons (pv 11) (pa_cons (pv 12) pa_nil)))) pa_nil))))))))
      (pss_cons (ps_expr (eBm K PySem.F.plainAttrs_list PySem.F.slot_list_append PySem.F.type_list_append mt_append (pv 3) (pa_cons (pe_tup (pa_cons (pe_lam TB.t_law rfl (tabs_m_law T) (tabs_u_law T) (NdefX.ndef_free (sc := defScope s_law) (fr := []) (by decide +kernel))) (pa_cons (pe_lst (pa_cons (pv 6) (pa_cons (pv 7) pa_nil))) (pa_cons (pe_lst (pa_cons (pv 7) (pa_cons (pv 8) pa_nil))) pa_nil)))) pa_nil)))
      (pss_cons (ps_expr (eBm K PySem.F.plainAttrs_list PySem.F.slot_list_append PySem.F.type_list_append mt_append (pv 3) (pa_cons (pe_tup (pa_cons (pe_lam TB.t_law rfl (tabs_m_law T) (tabs_u_law T) (NdefX.ndef_free (sc := defScope s_law) (fr := []) (by decide +kernel))) (pa_cons (pe_lst (pa_cons (pe_lst (pa_cons (pv 6) pa_nil)) (pa_cons (pe_call G_dealing (hr.mono (by decide)) (by rfl) T.g_dealing T.F_dealing.kp T.b_dealing .nil pass0 (pa_cons (pe_lst (pa_cons (pv 6) pa_nil)) (pa_cons pe_int pa_nil))) pa_nil))) (pa_cons (pe_lst (pa_cons (pe_lst (pa_cons (pv 8) pa_nil)) (pa_cons (pe_call G_dealing (hr.mono (by decide)) (by rfl) T.g_dealing T.F_dealing.kp T.b_dealing .nil pass0 (pa_cons (pe_lst (pa_cons (pv 8) pa_nil)) (pa_cons pe_int pa_nil))) pa_nil))) pa_nil)))) pa_nil)))
      (pss_cons (ps_if (pt_not (pt_val (pe_callB (cAll K) (by rfl) B.all (by decide +kernel) (pa_cons (pe_lc (own := [("_law_ask", 13), ("_law_one", 6), ("_law_other", 7)]) (by rfl) sc_law.nd (iLst K (pv 3)) (blkOk_by (own := [("_law_ask", 13), ("_law_one", 6), ("_law_other", 7)]) (N := N_law) (sc := defScope s_law) (by decide +kernel)) (fun _ _ _ _ _ => (gTpl K (n := 3) rfl (pgs_cons (pg_name (i := 13) sc_law.nd rfl (by first | exact .inl rfl | exact .inr rfl)) (pgs_cons (pg_name (i := 6) sc_law.nd rfl (by first | exact .inl rfl | exact .inr rfl)) (pgs_cons (pg_name (i := 7) sc_law.nd rfl (by first | exact .inl rfl | exact .inr rfl)) pgs_nil))))) (fun _ _ _ _ _ => pts_nil) (fun _ _ _ _ _ => (pe_call (GC__law_door_right base) (hr.mono (by decide)) (by rfl) T.g__law_door_right T.F__law_door_right.kp T.b__law_door_right .nil pass0 (pa_cons (pv 13) (pa_cons (pv 6) (pa_cons (pv 7) pa_nil)))))) pa_nil)))) (pss_one (ps_ret pe_bl)) pss_nil)
      (pss_one (ps_ret (pe_callB (cAll K) (by rfl) B.all (by decide +kernel) (pa_cons (pe_lc (own := [("_law_ask", 13), ("_law_holds_here", 14), ("_law_one", 6), ("_law_other", 7)]) (by rfl) sc_law.nd (iLst K (pv 4)) (blkOk_by (own := [("_law_ask", 13), ("_law_holds_here", 14), ("_law_one", 6), ("_law_other", 7)]) (N := N_law) (sc := defScope s_law) (by decide +kernel)) (fun _ _ _ _ _ => (gTpl K (n := 4) rfl (pgs_cons (pg_name (i := 13) sc_law.nd rfl (by first | exact .inl rfl | exact .inr rfl)) (pgs_cons (pg_name (i := 14) sc_law.nd rfl (by first | exact .inl rfl | exact .inr rfl)) (pgs_cons (pg_name (i := 6) sc_law.nd rfl (by first | exact .inl rfl | exact .inr rfl)) (pgs_cons (pg_name (i := 7) sc_law.nd rfl (by first | exact .inl rfl | exact .inr rfl)) pgs_nil)))))) (fun _ _ _ _ _ => pts_nil) (fun _ _ _ _ _ => (pe_call (GC__law_free_right base) (hr.mono (by decide)) (by rfl) T.g__law_free_right T.F__law_free_right.kp T.b__law_free_right .nil pass0 (pa_cons (pv 13) (pa_cons (pv 14) (pa_cons (pv 6) (pa_cons (pv 7) pa_nil))))))) pa_nil))))))))))))), ?_⟩

    refine go_seq (go_asg (cut_li (fun v H2 => ∃ q us, v = V.ref q ∧ Same H H2 ∧ SqL K H2 q (List.map V.int us) ∧ 0 < us.length ∧ us.length ≤ 63) (fun R q => ?_) ?_))
    · walk_at "go"
      refine go_lstK (Nat.zero_le _) fun p Ha np sa ea => ?_
      refine go_neL (m := []) (sa.seq hA) (sqL_of ea) ?_
      walk_at "go"
      refine if_by (fun hb => ?_) (fun hb => ?_)
      · have hne : ¬ ns = [] := of_decide_eq_false (not_tt hb)
        walk_at "go"
        refine go_cut (sa.seq hA) fun u Hu nu su eu => ?_
        rw [show (63 : Int) = ((63 : Nat) : Int) from rfl, cut_to, ← List.map_take] at eu
        have : 0 < ns.length := List.length_pos_iff.mpr hne
        exact q _ _ ⟨u, ns.take 63, rfl, sa.trans su, sqL_of eu, by rw [List.length_take]; omega, by rw [List.length_take]; omega⟩
      · walk_at "go"
        refine go_lstK (by show 1 ≤ sizeLine; decide) fun p2 Hb np2 sb eb => ?_
        exact q _ _ ⟨p2, [5], rfl, sa.trans sb, sqL_of eb, by decide, by decide⟩
    rintro _ H1 ⟨ca, cs, rfl, s1, hC, hc0, hc1⟩
    walk_at "go"
    refine go_sumI hC ?_
    walk_at "go"
    refine ⟨_, rfl, ?_⟩
    obtain ⟨m, hm⟩ := abs_nat cs.sum
    rw [hm]
    walk_at "go"
    refine go_lstK (Nat.zero_le _) fun ak H2 nak s2 eak => ?_
    walk_at "go"
    refine go_lstK (Nat.zero_le _) fun fr H3 nfr s3 efr => ?_
    walk_at "go"
    refine go_I (by decide) ?_
    walk_at "go"
    rw [show (3 : Int) + (m : Int) % 9 = ((3 + m % 9 : Nat) : Int) by omega]
    generalize hn : 3 + m % 9 = n
    have n3 : 3 ≤ n := by omega
    have n11 : n ≤ 11 := by omega
    have hC3 := (s2.trans s3).seq hC
    refine ⟨ca, cs, n, 0, rfl, hC3, hc0, by omega, by decide, fun p1 q1 H4 s4 np1 ep1 hp1 => ?_⟩
    walk_at "go"
    refine ⟨ca, cs, n, 3, rfl, s4.seq hC3, hc0, by omega, by decide, fun p2 q2 H5 s5 np2 ep2 hp2 => ?_⟩
    walk_at "go"
    refine ⟨ca, cs, n, 5, rfl, (s4.trans s5).seq hC3, hc0, by omega, by decide, fun p3 q3 H6 s6 np3 ep3 hp3 => ?_⟩
    refine go_nil (go_pr3T (τ := [some (.ref a), some (.ref ca), some (.int (m : Int)), some (.ref ak), some (.ref fr), some (.int (n : Int)), some (.ref p1), some (.ref p2), some (.ref p3), none, none, none, none, none, none]) rfl (go_nx ?_))
    refine go_seq (go_par (go_cons (Ev.go (R := rowsR K rnd3) (ev_rows (evR_cons (r := [0, 1, 2]) (evI_cons (evI_cons (evI_cons evI_nil))) rfl (by decide) (evR_cons (r := [1, 2, 0]) (evI_cons (evI_cons (evI_cons evI_nil))) rfl (by decide) (evR_cons (r := [2, 0, 1]) (evI_cons (evI_cons (evI_cons evI_nil))) rfl (by decide) evR_nil))) (by decide)) (Same.refl _) fun vr H7 s7 ⟨w1, ew1, hRr⟩ => go_cons (Ev.go (R := rowsR K pln3) (ev_rows (evR_cons (r := [0, 1, 2]) (evI_cons (evI_cons (evI_cons evI_nil))) rfl (by decide) (evR_cons (r := [0, 2, 1]) (evI_cons (evI_cons (evI_cons evI_nil))) rfl (by decide) (evR_cons (r := [0, 1, 2]) (evI_cons (evI_cons (evI_cons evI_nil))) rfl (by decide) evR_nil))) (by decide)) (Same.refl _) fun vp H8 s8 ⟨w2, ew2, hRp⟩ => ?_))))
    subst ew1 ew2
    refine go_nil (go_prT (τ := [some (.ref a), some (.ref ca), some (.int (m : Int)), some (.ref ak), some (.ref fr), some (.int (n : Int)), some (.ref p1), some (.ref p2), some (.ref p3), some (.ref w1), some (.ref w2), none, none, none, none]) rfl (go_nx ?_))
    have s68 := s7.trans s8
    have x1 := s68 _ _ (s6 _ _ (s5 _ _ ep1))
    have x2 := s68 _ _ (s6 _ _ ep2)
    have x3 := s68 _ _ ep3
    have R12 := rw_q2 hp1 hp2 (by omega)
    have R23 := rw_q2 hp2 hp3 (by omega)
    have RW1' := rw_q1 hp1 (by omega)
    have RW3' := rw_q1 hp3 (by omega)
    refine go_seq (go_for (go_it (Ev.go (H0 := H8) (R := tupA (pairR K) 3) (ev_tupA (evA_cons (ev_prs (ev_rw2 rfl rfl x1 x2) (ev_rw2 rfl rfl x2 x3) R12 R23 n3) (evA_cons (ev_prs (ev_rw1 rfl x1) (ev_rw1 rfl x3) RW1' RW3' n3) (evA_cons (ev_prs (ev_var rfl ⟨w1, rfl, hRr.same s8⟩) (ev_var rfl ⟨w2, rfl, hRp⟩) rw_rnd3 rw_pln3 (by decide)) evA_nil))) (by decide)) (Same.refl _) fun vt H9 s9 rt => ?_)))
    obtain ⟨tp, ts, rfl, etp, ltp, ktp⟩ := rt
    have s39 : Same H3 H9 := s4.trans (s5.trans (s6.trans (s68.trans s9)))
    have ea9 := s39 _ _ (s3 _ _ eak)
    have ef9 := s39 _ _ efr
    have MA : ∀ x H H', Same (noT H) H' → AskIt K P w mg base x H → AskIt K P w mg base x H' := fun x H H' s h => h.mono s
    have MF : ∀ x H H', Same (noT H) H' → FreeIt K P w mg base T.C_Dealt T.C_Ring T.C_Chain T.C_Free x H → FreeIt K P w mg base T.C_Dealt T.C_Ring T.C_Chain T.C_Free x H' := fun x H H' s h => h.mono s
    have A9 : AF (AskIt K P w mg base) (FreeIt K P w mg base T.C_Dealt T.C_Ring T.C_Chain T.C_Free) (tabs T) (hL [ak, fr] H9) ak fr [] [] H9 := ⟨noT_same _, (hT.ext s1).ext ((s2.trans s3).trans s39), ea9, ef9, by simp, by simp, ne_free eak nfr⟩
    have etp0 := A9.out etp (by intro l z; cases z)
    have prs : ∀ x ∈ ts, (pairR K).r x (hL [ak, fr] H9) := fun x hx => by
      obtain ⟨t, ra, rb, r1, r2, n', rfl, ht, R1, R2, RW1, RW2, hn3⟩ := ktp x hx
      exact ⟨t, ra, rb, r1, r2, n', rfl, A9.out ht (by intro l z; cases z), rows_hL R1 RW1 hn3 ea9 ef9, rows_hL R2 RW2 hn3 ea9 ef9, RW1, RW2, hn3⟩
    have y1 : hL [ak, fr] H9 p1 = some (.lst (nv q1)) := hL_at (s9 _ _ x1) fun z => by
      have q0 : (nv q1).length = n := by rw [nv_len, hp1.length_eq, List.length_range]
      simp only [List.mem_cons, List.not_mem_nil, or_false] at z
      rcases z with rfl | rfl
      · have e := (s9 _ _ x1).symm.trans ea9
        injection e with e
        injection e with e
        rw [e] at q0
        simp at q0
        omega
      · have e := (s9 _ _ x1).symm.trans ef9
        injection e with e
        injection e with e
        rw [e] at q0
        simp at q0
        omega
    have y2 : hL [ak, fr] H9 p2 = some (.lst (nv q2)) := hL_at (s9 _ _ x2) fun z => by
      have q0 : (nv q2).length = n := by rw [nv_len, hp2.length_eq, List.length_range]
      simp only [List.mem_cons, List.not_mem_nil, or_false] at z
      rcases z with rfl | rfl
      · have e := (s9 _ _ x2).symm.trans ea9
        injection e with e
        injection e with e
        rw [e] at q0
        simp at q0
        omega
      · have e := (s9 _ _ x2).symm.trans ef9
        injection e with e
        injection e with e
        rw [e] at q0
        simp at q0
        omega
    have y3 : hL [ak, fr] H9 p3 = some (.lst (nv q3)) := hL_at (s9 _ _ x3) fun z => by
      have q0 : (nv q3).length = n := by rw [nv_len, hp3.length_eq, List.length_range]
      simp only [List.mem_cons, List.not_mem_nil, or_false] at z
      rcases z with rfl | rfl
      · have e := (s9 _ _ x3).symm.trans ea9
        injection e with e
        injection e with e
        rw [e] at q0
        simp at q0
        omega
      · have e := (s9 _ _ x3).symm.trans ef9
        injection e with e
        injection e with e
        rw [e] at q0
        simp at q0
        omega
    have hCn := cellsB_nil base
    refine go_itK (sqT_of etp) ?_
    refine go_fK (walk_tup (xs := ts)) (fun i σ H' => ∃ v11 v12 xs ys, σ = [some (.ref a), some (.ref ca), some (.int (m : Int)), some (.ref ak), some (.ref fr), some (.int (n : Int)), some (.ref p1), some (.ref p2), some (.ref p3), some (.ref w1), some (.ref w2), v11, v12, none, none] ∧ AF (AskIt K P w mg base) (FreeIt K P w mg base T.C_Dealt T.C_Ring T.C_Chain T.C_Free) (tabs T) (hL [ak, fr] H9) ak fr xs ys H' ∧ xs.length ≤ i ∧ ys.length ≤ 3 * i) ⟨none, none, [], [], rfl, A9, by simp, by simp⟩ (fun i σ H' _ ⟨_, _, _, _, _, A', _⟩ => sqT_of (A'.all _ _ (noT_at etp0 (by intro ps z; cases z)))) ?_ ?_
    · rintro i x σ Hq H10 hi ⟨v11, v12, xs, ys, rfl, A10, lx, ly⟩ ⟨rfl, hx⟩
      have hi3 : i < 3 := by omega
      obtain ⟨t, ra, rb, r1, r2, n', rfl, ht, R1, R2, RW1, RW2, hn3⟩ := prs x (List.mem_of_getElem? hx)
      have ln' := RW1.ln
      have hC := hCn
      refine go_gtup (sqT_of (A10.all _ _ (noT_at ht (by intro ps z; cases z)))) rfl (go_gcons (go_name (go_gcons (go_nm (τ := [some (.ref a), some (.ref ca), some (.int (m : Int)), some (.ref ak), some (.ref fr), some (.int (n : Int)), some (.ref p1), some (.ref p2), some (.ref p3), some (.ref w1), some (.ref w2), some (.ref ra), some (.ref rb), none, none]) rfl (go_gnil ?_)))))
      have eF := A10.ef
      walk_at "go"
      refine go_lam A10.T fun f1 c1 G1 eN1 T1 nf1 hf1 hc1 => ?_
      have B1 := A10.lam MA MF eN1 T1
      walk_at "go"
      refine go_lam B1.T fun f2 c2 G2 eN2 T2 nf2 hf2 hc2 => ?_
      have B2 := B1.lam MA MF eN2 T2
      replace hf1 := eN2 _ _ hf1 lamO_ne
      replace hc1 := eN2 _ _ hc1 LamX.codeO_ne
      walk_at "go"
      refine go_tupK (by show 4 ≤ sizeLine; decide) fun t3 G3 nt3 g3 e3 => ?_
      have B3 := B2.same MA MF g3
      have hf1z := noT_at (B3.out (g3 _ _ hf1) (fun _ => lamO_lst)) lamO_ne
      have hc1z := noT_at (B3.out (g3 _ _ hc1) (fun _ => codeO_lst)) LamX.codeO_ne
      have hf2z := noT_at (B3.out (g3 _ _ hf2) (fun _ => lamO_lst)) lamO_ne
      have hc2z := noT_at (B3.out (g3 _ _ hc2) (fun _ => codeO_lst)) LamX.codeO_ne
      have it : FreeIt K P w mg base T.C_Dealt T.C_Ring T.C_Chain T.C_Free (.ref t3) (hL [ak, fr] G3) := by
        refine ⟨t3, f1, f2, ra, rb, r1, r2, n', n', _, _, _, _, OkD T.C_Dealt T.C_Ring n', rfl, B3.out e3 (by intro l z; cases z), (act_lamH hf1 (N := ["_law_it"]) (ps := ["_law_it"]) (fr := []) (NdefX.nscope_by (by dsimp only; decide +kernel)) (fun pm ctv us hl => match us, hl with | [_], _ => rfl) hC (fun A outer s H E hr => by have G_deal := ok_deal (P := P) (w := w) (base := base) T B; exact (pe_call G_deal (hr.mono (by decide)) (by rfl) T.g_deal T.F_deal.kp T.b_deal .nil pass0 (pa_cons (pv 0) pa_nil)))), (act_lamH hf2 (N := ["_law_found", "_law_it"]) (ps := ["_law_found", "_law_it"]) (fr := []) (NdefX.nscope_by (by dsimp only; decide +kernel)) (fun pm ctv us hl => match us, hl with | [_, _], _ => rfl) hC (fun A outer s H E hr => by have G_Dealt_shows := ok_Dealt_shows (P := P) (w := w) (base := base) T B; have G_Ring_shows := ok_Ring_shows (P := P) (w := w) (base := base) T B; exact (pe_or2 (pe_meth (pv 0) T.cDealt T.me_Dealt_shows G_Dealt_shows (hr.mono (by decide)) T.b_Dealt_shows .nil pass0 (pa_cons (pv 1) pa_nil)) (pe_meth (pv 0) T.cRing T.me_Ring_shows G_Ring_shows (hr.mono (by decide)) T.b_Ring_shows .nil pass0 (pa_cons (pv 1) pa_nil))))), ?_, ?_, fun rs e H H' s h => OkD.same h s, (noT_rows R1).same B3.s, (noT_rows R2).same B3.s, RW1, RW2⟩
        · intro H' s' H'' a' rs ss hrs hR
          have RWr : Rw n' rs := by rcases hrs with rfl | rfl <;> assumption
          obtain ⟨dep, F⟩ := walk_fin RWr.G
          have lf := ss _ _ (s' _ _ hf1z)
          refine ⟨lf, fun Q2 E2 hq => ⟨rfl, lf, ss _ _ (s' _ _ hc1z), ?_⟩⟩
          walk_at "go"
          refine ⟨a', rs, n', rfl, hR, RWr, fun hb r dx l H4 s4 nr nl hr hl => ?_, fun bb hb r dx l m H4 s4 nr nl nm lm hr hl hm l1 l2 => ?_⟩
          · have ldl : (dl n' (walk n' rs)).length ≤ 5001 := by rw [dl_len]; omega
            exact hq _ _ s4 (.d hr hl nl ldl) (.inl ⟨dx, l, _, hr, hl, ldl, dl_even RWr.G F hb⟩)
          · obtain ⟨rok, _⟩ := ring_ok RWr.G (F.ring RWr.G hb)
            rw [nv_iN] at hl hm
            exact hq _ _ s4 (.r hr hl hm nl nm lm (by rw [iN_len]; exact l1) (by rw [iN_len]; exact l2)) (.inr ⟨dx, l, m, _, _, hr, hl, hm, by rw [iN_len]; exact l1, by rw [iN_len]; exact l2, rok⟩)
        · intro H' s' H'' a' e rs ss hrs hR ok
          have RWr : Rw n' rs := by rcases hrs with rfl | rfl <;> assumption
          have lf := ss _ _ (s' _ _ hf2z)
          refine ⟨lf, fun Q2 E2 hq => ⟨rfl, lf, ss _ _ (s' _ _ hc2z), ?_⟩⟩
          walk_at "go"
          rcases ok with ⟨dx, l, s, he, hl, ls, hev⟩ | ⟨dx, l, m, ts, ps, he, hl, hm, l1, l2, hev⟩
          · refine .inl ?_
            walk_at "go"
            refine go_meK he (f1_no (by decide +kernel)) ?_
            walk_at "go"
            refine ⟨e, dx, l, a', rs, n', s, rfl, he, hR, RWr.G, by omega, sqL_of hl, by omega, fun H4 s4 => ?_⟩
            rw [hev]
            exact hq _ s4
          · refine .inr ?_
            walk_at "go"
            refine go_meK he (f2_no (by decide +kernel) (by decide +kernel)) ?_
            walk_at "go"
            refine ⟨e, dx, l, m, a', rs, n', ts, ps, rfl, he, hR, RWr.G, by omega, sqL_of hl, sqL_of hm, by omega, by omega, fun H4 s4 => ?_⟩
            rw [hev]
            exact hq _ s4
      walk_at "go"
      refine go_app B3.ef (small_lt (by first | omega | (simp; omega))) ?_
      have A11 := B3.addF it
      revert A11
      generalize upd G3 fr _ = H11
      intro A11
      clear it B1 B2 B3 hf1 hc1 hf2 hc2 hf1z hc1z hf2z hc2z e3
      have eF := A11.ef
      walk_at "go"
      refine go_lam A11.T fun f1 c1 G1 eN1 T1 nf1 hf1 hc1 => ?_
      have B1 := A11.lam MA MF eN1 T1
      walk_at "go"
      refine go_lam B1.T fun f2 c2 G2 eN2 T2 nf2 hf2 hc2 => ?_
      have B2 := B1.lam MA MF eN2 T2
      replace hf1 := eN2 _ _ hf1 lamO_ne
      replace hc1 := eN2 _ _ hc1 LamX.codeO_ne
      walk_at "go"
      refine go_tupK (by show 4 ≤ sizeLine; decide) fun t3 G3 nt3 g3 e3 => ?_
      have B3 := B2.same MA MF g3
      have hf1z := noT_at (B3.out (g3 _ _ hf1) (fun _ => lamO_lst)) lamO_ne
      have hc1z := noT_at (B3.out (g3 _ _ hc1) (fun _ => codeO_lst)) LamX.codeO_ne
      have hf2z := noT_at (B3.out (g3 _ _ hf2) (fun _ => lamO_lst)) lamO_ne
      have hc2z := noT_at (B3.out (g3 _ _ hc2) (fun _ => codeO_lst)) LamX.codeO_ne
      have it : FreeIt K P w mg base T.C_Dealt T.C_Ring T.C_Chain T.C_Free (.ref t3) (hL [ak, fr] G3) := by
        refine ⟨t3, f1, f2, ra, rb, r1, r2, n', n', _, _, _, _, OkT T.C_Ring T.C_Chain T.C_Free n' 0 1, rfl, B3.out e3 (by intro l z; cases z), (act_lamH hf1 (N := ["_law_it"]) (ps := ["_law_it"]) (fr := []) (NdefX.nscope_by (by dsimp only; decide +kernel)) (fun pm ctv us hl => match us, hl with | [_], _ => rfl) hC (fun A outer s H E hr => by have G_tied := ok_tied (P := P) (w := w) (base := base) T B; exact (pe_call G_tied (hr.mono (by decide)) (by rfl) T.g_tied T.F_tied.kp T.b_tied .nil pass0 (pa_cons (pv 0) (pa_cons pe_int (pa_cons pe_int pa_nil)))))), (act_lamH hf2 (N := ["_law_found", "_law_it"]) (ps := ["_law_found", "_law_it"]) (fr := []) (NdefX.nscope_by (by dsimp only; decide +kernel)) (fun pm ctv us hl => match us, hl with | [_, _], _ => rfl) hC (fun A outer s H E hr => by have G__law_holds := ok__law_holds (P := P) (w := w) (base := base) T B; exact (pe_call G__law_holds (hr.mono (by decide)) (by rfl) T.g__law_holds T.F__law_holds.kp T.b__law_holds .nil pass0 (pa_cons (pv 0) (pa_cons (pv 1) (pa_cons pe_int (pa_cons pe_int pa_nil))))))), ?_, ?_, fun rs e H H' s ⟨H0, h⟩ => ⟨H0, h.same s⟩, (noT_rows R1).same B3.s, (noT_rows R2).same B3.s, RW1, RW2⟩
        · intro H' s' H'' a' rs ss hrs hR
          have RWr : Rw n' rs := by rcases hrs with rfl | rfl <;> assumption
          obtain ⟨dep, F⟩ := walk_fin RWr.G
          have lf := ss _ _ (s' _ _ hf1z)
          refine ⟨lf, fun Q2 E2 hq => ⟨rfl, lf, ss _ _ (s' _ _ hc1z), ?_⟩⟩
          walk_at "go"
          exact ⟨a', rs, n', 0, 1, rfl, hR, RWr, by omega, by omega, fun e H4 s4 tl => hq _ _ s4 (tl.an (by omega)) ⟨_, tl⟩⟩
        · intro H' s' H'' a' e rs ss hrs hR ok
          have RWr : Rw n' rs := by rcases hrs with rfl | rfl <;> assumption
          have lf := ss _ _ (s' _ _ hf2z)
          refine ⟨lf, fun Q2 E2 hq => ⟨rfl, lf, ss _ _ (s' _ _ hc2z), ?_⟩⟩
          walk_at "go"
          obtain ⟨Ht0, tl⟩ := ok
          exact ⟨e, a', rs, n', 0, 1, Ht0, rfl, hR, RWr, by omega, by omega, tl, fun H4 s4 => hq _ s4⟩
      walk_at "go"
      refine go_app B3.ef (small_lt (by first | omega | (simp; omega))) ?_
      have A12 := B3.addF it
      revert A12
      generalize upd G3 fr _ = H12
      intro A12
      clear it B1 B2 B3 hf1 hc1 hf2 hc2 hf1z hc1z hf2z hc2z e3
      have eF := A12.ef
      walk_at "go"
      refine go_lam A12.T fun f1 c1 G1 eN1 T1 nf1 hf1 hc1 => ?_
      have B1 := A12.lam MA MF eN1 T1
      walk_at "go"
      refine go_lam B1.T fun f2 c2 G2 eN2 T2 nf2 hf2 hc2 => ?_
      have B2 := B1.lam MA MF eN2 T2
      replace hf1 := eN2 _ _ hf1 lamO_ne
      replace hc1 := eN2 _ _ hc1 LamX.codeO_ne
      walk_at "go"
      refine go_tupK (by show 4 ≤ sizeLine; decide) fun t3 G3 nt3 g3 e3 => ?_
      have B3 := B2.same MA MF g3
      have hf1z := noT_at (B3.out (g3 _ _ hf1) (fun _ => lamO_lst)) lamO_ne
      have hc1z := noT_at (B3.out (g3 _ _ hc1) (fun _ => codeO_lst)) LamX.codeO_ne
      have hf2z := noT_at (B3.out (g3 _ _ hf2) (fun _ => lamO_lst)) lamO_ne
      have hc2z := noT_at (B3.out (g3 _ _ hc2) (fun _ => codeO_lst)) LamX.codeO_ne
      have it : FreeIt K P w mg base T.C_Dealt T.C_Ring T.C_Chain T.C_Free (.ref t3) (hL [ak, fr] G3) := by
        refine ⟨t3, f1, f2, ra, rb, r1, r2, n', n', _, _, _, _, OkT T.C_Ring T.C_Chain T.C_Free n' 2 0, rfl, B3.out e3 (by intro l z; cases z), (act_lamH hf1 (N := ["_law_it"]) (ps := ["_law_it"]) (fr := []) (NdefX.nscope_by (by dsimp only; decide +kernel)) (fun pm ctv us hl => match us, hl with | [_], _ => rfl) hC (fun A outer s H E hr => by have G_tied := ok_tied (P := P) (w := w) (base := base) T B; exact (pe_call G_tied (hr.mono (by decide)) (by rfl) T.g_tied T.F_tied.kp T.b_tied .nil pass0 (pa_cons (pv 0) (pa_cons pe_int (pa_cons pe_int pa_nil)))))), (act_lamH hf2 (N := ["_law_found", "_law_it"]) (ps := ["_law_found", "_law_it"]) (fr := []) (NdefX.nscope_by (by dsimp only; decide +kernel)) (fun pm ctv us hl => match us, hl with | [_, _], _ => rfl) hC (fun A outer s H E hr => by have G__law_holds := ok__law_holds (P := P) (w := w) (base := base) T B; exact (pe_call G__law_holds (hr.mono (by decide)) (by rfl) T.g__law_holds T.F__law_holds.kp T.b__law_holds .nil pass0 (pa_cons (pv 0) (pa_cons (pv 1) (pa_cons pe_int (pa_cons pe_int pa_nil))))))), ?_, ?_, fun rs e H H' s ⟨H0, h⟩ => ⟨H0, h.same s⟩, (noT_rows R1).same B3.s, (noT_rows R2).same B3.s, RW1, RW2⟩
        · intro H' s' H'' a' rs ss hrs hR
          have RWr : Rw n' rs := by rcases hrs with rfl | rfl <;> assumption
          obtain ⟨dep, F⟩ := walk_fin RWr.G
          have lf := ss _ _ (s' _ _ hf1z)
          refine ⟨lf, fun Q2 E2 hq => ⟨rfl, lf, ss _ _ (s' _ _ hc1z), ?_⟩⟩
          walk_at "go"
          exact ⟨a', rs, n', 2, 0, rfl, hR, RWr, by omega, by omega, fun e H4 s4 tl => hq _ _ s4 (tl.an (by omega)) ⟨_, tl⟩⟩
        · intro H' s' H'' a' e rs ss hrs hR ok
          have RWr : Rw n' rs := by rcases hrs with rfl | rfl <;> assumption
          have lf := ss _ _ (s' _ _ hf2z)
          refine ⟨lf, fun Q2 E2 hq => ⟨rfl, lf, ss _ _ (s' _ _ hc2z), ?_⟩⟩
          walk_at "go"
          obtain ⟨Ht0, tl⟩ := ok
          exact ⟨e, a', rs, n', 2, 0, Ht0, rfl, hR, RWr, by omega, by omega, tl, fun H4 s4 => hq _ s4⟩
      walk_at "go"
      refine go_app B3.ef (small_lt (by first | omega | (simp; omega))) ?_
      have A13 := B3.addF it
      revert A13
      generalize upd G3 fr _ = H13
      intro A13
      clear it B1 B2 B3 hf1 hc1 hf2 hc2 hf1z hc1z hf2z hc2z e3
      have eA := A13.ea
      walk_at "go"
      refine go_lam A13.T fun f1 c1 G1 eN1 T1 nf1 hf1 hc1 => ?_
      have B1 := A13.lam MA MF eN1 T1
      have B2 := B1
      walk_at "go"
      refine go_tupK (by show 3 ≤ sizeLine; decide) fun t3 G3 nt3 g3 e3 => ?_
      have B3 := B2.same MA MF g3
      have hf1z := noT_at (B3.out (g3 _ _ hf1) (fun _ => lamO_lst)) lamO_ne
      have hc1z := noT_at (B3.out (g3 _ _ hc1) (fun _ => codeO_lst)) LamX.codeO_ne
      have it : AskIt K P w mg base (.ref t3) (hL [ak, fr] G3) := by
        refine ⟨t3, f1, .ref ra, .ref rb, (r1.map fun r => dI (iN r)), (r2.map fun r => dI (iN r)), _, _, fun d => [((cntN n' (walk n' (rowsOf d)) : Nat) : Int)], rfl, B3.out e3 (by intro l z; cases z), (act_lamH hf1 (N := ["_law_it"]) (ps := ["_law_it"]) (fr := []) (NdefX.nscope_by (by dsimp only; decide +kernel)) (fun pm ctv us hl => match us, hl with | [_], _ => rfl) hC (fun A outer s H E hr => by have G_count := ok_count (P := P) (w := w) (base := base) T B; exact (pe_lst (pa_cons (pe_call G_count (hr.mono (by decide)) (by rfl) T.g_count T.F_count.kp T.b_count .nil pass0 (pa_cons (pv 0) pa_nil)) pa_nil)))), ?_, ((noT_rows R1).same B3.s).dp, ((noT_rows R2).same B3.s).dp, sdl_rows RW1 3, sdl_rows RW2 3, by simp, by simp⟩
        intro H' s' H'' v d ss hd hdp
        have lf := ss _ _ (s' _ _ hf1z)
        refine ⟨lf, fun Q2 E2 hq => ⟨rfl, lf, ss _ _ (s' _ _ hc1z), ?_⟩⟩
        obtain ⟨rs, RWr, rfl⟩ : ∃ rs, Rw n' rs ∧ d = dR rs := by
          rcases hd with rfl | rfl
          · exact ⟨r1, RW1, rfl⟩
          · exact ⟨r2, RW2, rfl⟩
        obtain ⟨a', rfl, hR⟩ := rows_of_dp hdp
        walk_at "go"
        refine ⟨a', rs, n', rfl, hR, RWr, fun H4 s4 => ?_⟩
        walk_at "go"
        refine go_lstK (by show 1 ≤ sizeLine; decide) fun p5 H5 np5 s5 e5 => hq p5 _ (s4.trans s5) (s4.free np5) ?_
        show _ = some (HO.lst (List.map V.int [((cntN n' (walk n' (rowsOf (dR rs))) : Nat) : Int)]))
        rw [e5, rowsOf_dR]
        rfl
      walk_at "go"
      refine go_app B3.ea (small_lt (by first | omega | (simp; omega))) ?_
      have A14 := B3.addA it
      revert A14
      generalize upd G3 ak _ = H14
      intro A14
      clear it B1 B2 B3 hf1 hc1 hf1z hc1z e3
      walk_at "go"
      exact ⟨_, _, _, _, rfl, A14, by simp; omega, by simp; omega⟩
    · rintro σ H10 ⟨v11, v12, xs, ys, rfl, A10, lx, ly⟩
      rw [ltp] at lx ly
      have hC := hCn
      have nt : ∀ l, ∀ ps, HO.lst l ≠ .tbl ps := fun l ps z => by cases z
      have sdN : ∀ (q : List Nat), Rw n [q] → ∀ kk : Nat, SDL 5 (.list [dR [q], dI (dln n (walk n [q]) kk)]) := fun q R kk => .lst (by simp) fun e he => by
        simp only [List.mem_cons, List.not_mem_nil, or_false] at he
        rcases he with rfl | rfl
        · exact sdl_rows R 2
        · exact sdl_ints (by rw [dln_len]; omega) 3
      have cn : ∀ rs, Rw n rs → rs.length ≤ 2 → (∃ dep, Fin n rs (walk n rs) dep) ∧ (walk n rs).bar = none ∧ 1 < cntN n (walk n rs) := fun rs R h2 => by
        obtain ⟨dep, F⟩ := walk_fin R.G
        have hb := F.dealt R.G h2
        exact ⟨⟨dep, F⟩, hb, cnt_two F (by omega) hb⟩
      refine go_nx ?_
      have eA := A10.ea
      walk_at "go"
      refine go_lam A10.T fun f1 c1 G1 eN1 T1 nf1 hf1 hc1 => ?_
      have B1 := A10.lam MA MF eN1 T1
      walk_at "go"
      refine go_lstK (by show 2 ≤ sizeLine; decide) fun l1 K1 nl1 k1 el1 => ?_
      have C1 := B1.same MA MF k1
      walk_at "go"
      refine go_lstK (by show 2 ≤ sizeLine; decide) fun l2 K2 nl2 k2 el2 => ?_
      have B2 := C1.same MA MF k2
      replace hf1 := k2 _ _ (k1 _ _ hf1)
      replace hc1 := k2 _ _ (k1 _ _ hc1)
      walk_at "go"
      refine go_tupK (by show 3 ≤ sizeLine; decide) fun t3 G3 nt3 g3 e3 => ?_
      have B3 := B2.same MA MF g3
      have hf1z := noT_at (B3.out (g3 _ _ hf1) (fun _ => lamO_lst)) lamO_ne
      have hc1z := noT_at (B3.out (g3 _ _ hc1) (fun _ => codeO_lst)) LamX.codeO_ne
      have it : AskIt K P w mg base (.ref t3) (hL [ak, fr] G3) := by
        refine ⟨t3, f1, .ref l1, .ref l2, ([q1, q2].map fun r => dI (iN r)), ([q2, q3].map fun r => dI (iN r)), _, _, fun d => dln n (walk n (rowsOf d)) 1, rfl, B3.out e3 (by intro l z; cases z), (act_lamH hf1 (N := ["_law_it"]) (ps := ["_law_it"]) (fr := []) (NdefX.nscope_by (by dsimp only; decide +kernel)) (fun pm ctv us hl => match us, hl with | [_], _ => rfl) hC (fun A outer s H E hr => by have G_dealing := ok_dealing (P := P) (w := w) (base := base) T B; exact (pe_call G_dealing (hr.mono (by decide)) (by rfl) T.g_dealing T.F_dealing.kp T.b_dealing .nil pass0 (pa_cons (pv 0) (pa_cons pe_int pa_nil))))), ?_, (RowsAt.dp (rs := [q1, q2]) (RowsV.at (sqL_of (hL_at (g3 _ _ (k2 _ _ el1)) (B1.fresh nl1))) (.cons (sqL_of (B3.s _ _ (noT_at y1 (nt _)))) (.cons (sqL_of (B3.s _ _ (noT_at y2 (nt _)))) .nil)))), (RowsAt.dp (rs := [q2, q3]) (RowsV.at (sqL_of (hL_at (g3 _ _ el2) (C1.fresh nl2))) (.cons (sqL_of (B3.s _ _ (noT_at y2 (nt _)))) (.cons (sqL_of (B3.s _ _ (noT_at y3 (nt _)))) .nil)))), sdl_rows R12 3, sdl_rows R23 3, by rw [dln_len]; omega, by rw [dln_len]; omega⟩
        intro H' s' H'' v d ss hd hdp
        have lf := ss _ _ (s' _ _ hf1z)
        refine ⟨lf, fun Q2 E2 hq => ⟨rfl, lf, ss _ _ (s' _ _ hc1z), ?_⟩⟩
        obtain ⟨rs, RWr, h2, rfl⟩ : ∃ rs, Rw n rs ∧ rs.length ≤ 2 ∧ d = dR rs := by
          rcases hd with rfl | rfl
          · exact ⟨[q1, q2], R12, by simp, rfl⟩
          · exact ⟨[q2, q3], R23, by simp, rfl⟩
        obtain ⟨a', rfl, hR⟩ := rows_of_dp hdp
        walk_at "go"
        refine ⟨a', rs, n, 1, rfl, hR, RWr, (cn rs RWr h2).2.2, fun p5 H5 s5 np5 e5 => hq p5 _ s5 np5 ?_⟩
        show _ = some (HO.lst (List.map V.int (dln n (walk n (rowsOf (dR rs))) 1)))
        rw [e5, rowsOf_dR]
      walk_at "go"
      refine go_app B3.ea (small_lt (by first | omega | (simp; omega))) ?_
      have A11 := B3.addA it
      revert A11
      generalize upd G3 ak _ = H11
      intro A11
      clear it B1 B2 B3 hf1 hc1 hf1z hc1z e3
      walk_at "go"
      have eA := A11.ea
      walk_at "go"
      refine go_lam A11.T fun f1 c1 G1 eN1 T1 nf1 hf1 hc1 => ?_
      have B1 := A11.lam MA MF eN1 T1
      have B1p1 := B1.all _ _ (noT_at y1 (nt _))
      walk_at "go"
      refine go_lstK (by show 1 ≤ sizeLine; decide) fun l1 K1 nl1 k1 el1 => ?_
      have C1 := B1.same MA MF k1
      walk_at "go"
      refine go_lstK (by show 1 ≤ sizeLine; decide) fun l2 K2 nl2 k2 el2 => ?_
      have C2 := C1.same MA MF k2
      walk_at "go"
      refine ⟨l2, [q1], n, 1, rfl, RowsV.at (sqL_of el2) (.cons (sqL_of (C2.all _ _ (noT_at y1 (nt _)))) .nil), RW1', (cn _ RW1' (by simp)).2.2, fun sd1 K3 k3 nsd1 esd1 => ?_⟩
      have C3 := C2.same MA MF k3
      walk_at "go"
      refine go_lstK (by show 2 ≤ sizeLine; decide) fun l3 K4 nl3 k4 el3 => ?_
      have C4 := C3.same MA MF k4
      walk_at "go"
      refine go_lstK (by show 1 ≤ sizeLine; decide) fun l4 K5 nl4 k5 el4 => ?_
      have C5 := C4.same MA MF k5
      walk_at "go"
      refine go_lstK (by show 1 ≤ sizeLine; decide) fun l5 K6 nl5 k6 el5 => ?_
      have C6 := C5.same MA MF k6
      walk_at "go"
      refine ⟨l5, [q3], n, 0, rfl, RowsV.at (sqL_of el5) (.cons (sqL_of (C6.all _ _ (noT_at y3 (nt _)))) .nil), RW3', Nat.lt_trans Nat.zero_lt_one (cn _ RW3' (by simp)).2.2, fun sd2 K7 k7 nsd2 esd2 => ?_⟩
      have C7 := C6.same MA MF k7
      walk_at "go"
      refine go_lstK (by show 2 ≤ sizeLine; decide) fun l6 K8 nl6 k8 el6 => ?_
      have B2 := C7.same MA MF k8
      have k18 := k1.trans (k2.trans (k3.trans (k4.trans (k5.trans (k6.trans (k7.trans k8))))))
      replace hf1 := k18 _ _ hf1
      replace hc1 := k18 _ _ hc1
      walk_at "go"
      refine go_tupK (by show 3 ≤ sizeLine; decide) fun t3 G3 nt3 g3 e3 => ?_
      have B3 := B2.same MA MF g3
      have hf1z := noT_at (B3.out (g3 _ _ hf1) (fun _ => lamO_lst)) lamO_ne
      have hc1z := noT_at (B3.out (g3 _ _ hc1) (fun _ => codeO_lst)) LamX.codeO_ne
      have it : AskIt K P w mg base (.ref t3) (hL [ak, fr] G3) := by
        refine ⟨t3, f1, .ref l3, .ref l6, [dR [q1], dI (dln n (walk n [q1]) 1)], [dR [q3], dI (dln n (walk n [q3]) 0)], _, _, fun d => [nof n (walk n (rowsOf (elOf 0 d))) (intsOf (elOf 1 d))], rfl, B3.out e3 (by intro l z; cases z), (act_lamH hf1 (N := ["_law_it"]) (ps := ["_law_it"]) (fr := []) (NdefX.nscope_by (by dsimp only; decide +kernel)) (fun pm ctv us hl => match us, hl with | [_], _ => rfl) hC (fun A outer s H E hr => by have G_number_of := ok_number_of (P := P) (w := w) (base := base) T B; exact (pe_lst (pa_cons (pe_call G_number_of (hr.mono (by decide)) (by rfl) T.g_number_of T.F_number_of.kp T.b_number_of .nil pass0 (pa_cons (pe_ix (ixl K) (pv 0) pe_int (fun _ _ => rfl)) (pa_cons (pe_ix (ixl K) (pv 0) pe_int (fun _ _ => rfl)) pa_nil))) pa_nil)))), ?_, (.lst (sqL_of (hL_at (g3 _ _ ((k5.trans (k6.trans (k7.trans k8))) _ _ el3)) (C3.fresh nl3))) (.cons (RowsAt.dp (rs := [q1]) (RowsV.at (sqL_of (hL_at (g3 _ _ ((k2.trans (k3.trans (k4.trans (k5.trans (k6.trans (k7.trans k8)))))) _ _ el1)) (B1.fresh nl1))) (.cons (sqL_of (B3.s _ _ (noT_at y1 (nt _)))) .nil))) (.cons (dp_ints (sqL_of (hL_at (g3 _ _ ((k4.trans (k5.trans (k6.trans (k7.trans k8)))) _ _ esd1)) (C2.fresh nsd1)))) .nil))), (.lst (sqL_of (hL_at (g3 _ _ el6) (C7.fresh nl6))) (.cons (RowsAt.dp (rs := [q3]) (RowsV.at (sqL_of (hL_at (g3 _ _ ((k6.trans (k7.trans k8)) _ _ el4)) (C4.fresh nl4))) (.cons (sqL_of (B3.s _ _ (noT_at y3 (nt _)))) .nil))) (.cons (dp_ints (sqL_of (hL_at (g3 _ _ (k8 _ _ esd2)) (C6.fresh nsd2)))) .nil))), sdN _ RW1' 1, sdN _ RW3' 0, by simp, by simp⟩
        intro H' s' H'' v d ss hd hdp
        have lf := ss _ _ (s' _ _ hf1z)
        refine ⟨lf, fun Q2 E2 hq => ⟨rfl, lf, ss _ _ (s' _ _ hc1z), ?_⟩⟩
        obtain ⟨q, kk, RWq, hkk, rfl⟩ : ∃ (q : List Nat) (kk : Nat), Rw n [q] ∧ kk ≤ 1 ∧ d = .list [dR [q], dI (dln n (walk n [q]) kk)] := by
          rcases hd with rfl | rfl
          · exact ⟨q1, 1, RW1', by omega, rfl⟩
          · exact ⟨q3, 0, RW3', by omega, rfl⟩
        obtain ⟨⟨dep, F⟩, hb, _⟩ := cn [q] RWq (by simp)
        cases hdp with
        | @lst a' zs _ hA' hX =>
        cases hX with
        | cons h0 hX =>
        cases hX with
        | cons h1 hX =>
        cases hX
        obtain ⟨a0, rfl, hR0⟩ := rows_of_dp h0
        obtain ⟨p0, rfl, hP0⟩ := dp_dI h1
        walk_at "go"
        refine go_ixL hA' (at_of (j := 0) rfl rfl) ?_
        walk_at "go"
        refine go_ixL hA' (at_of (j := 1) rfl rfl) ?_
        walk_at "go"
        refine ⟨a0, p0, [q], n, _, rfl, hR0, RWq, hP0, dln_even RWq.G F hb kk, fun H4 s4 => ?_⟩
        walk_at "go"
        refine go_lstK (by show 1 ≤ sizeLine; decide) fun p5 H5 np5 s5 e5 => hq p5 _ (s4.trans s5) (s4.free np5) ?_
        show _ = some (HO.lst (List.map V.int [nof n (walk n (rowsOf (dR [q]))) (intsOf (dI (dln n (walk n [q]) kk)))]))
        rw [e5, rowsOf_dR, intsOf_dI]
        rfl
      walk_at "go"
      refine go_app B3.ea (small_lt (by first | omega | (simp; omega))) ?_
      have A12 := B3.addA it
      revert A12
      generalize upd G3 ak _ = H12
      intro A12
      clear it B1 B2 B3 hf1 hc1 hf1z hc1z e3
      have eA := A12.ea
      have eF := A12.ef
      refine go_nx ?_
      refine go_seq (go_ifS ?_)
      walk_at "go"
      refine go_lcP (walk_list (xs := (xs ++ [_]) ++ [_])) (by simp; omega) (fun _ => .bl true) (fun H' s' => s'.seq (sqL_of eA)) ?_ fun D H13 nD s13 e13 => ?_
      · rintro j y Hq H14 R hj s14 ⟨rfl, hy⟩ hk
        obtain ⟨t, f, o1, o2, ds1, ds2, g, sp, F, rfl, ht, AC, hAF, d1, d2, z1, z2, z3, z4⟩ := AskIt.mono (H' := H14) (A12.ia y (List.mem_of_getElem? hy)) (fun b o e => s14 b o (hL_same b o (noT_same _ b o e)))
        refine go_gtup (sqT_of ht) rfl (go_gcons (go_name (go_gcons (go_name (go_gcons (go_name (go_gnil ⟨rfl, ?_⟩)))))))
        walk_at "go"
        exact ⟨f, o1, o2, ds1, ds2, g, sp, F, rfl, AC, hAF H14 (noT_same _), d1, d2, z1, z2, z3, z4, fun H4 s4 => hk _ s4⟩
      walk_at "go"
      refine go_all (sq_bls (f := fun _ => true) e13) ?_
      walk_at "go"
      rw [all_map_id]
      refine if_no (by simp) ?_
      refine go_next (go_nx ?_)
      have eF13 := s13 _ _ eF
      walk_at "go"
      refine go_lcP (walk_list (xs := ys)) (by omega) (fun _ => .bl true) (fun H' s' => s'.seq (sqL_of eF13)) ?_ fun D2 H15 nD2 s15 e15 => ?_
      · rintro j y Hq H14 R hj s14 ⟨rfl, hy⟩ hk
        obtain ⟨t, f1, f2, o1, o2, r1, r2, n1, n2, g1, g2, sp1, sp2, Ok, rfl, ht, AC1, AC2, hFF, hHF, okS, R1, R2, z1, z2⟩ := FreeIt.mono (H' := H14) (A12.iF y (List.mem_of_getElem? hy)) (fun b o e => s14 b o (s13 b o (hL_same b o (noT_same _ b o e))))
        refine go_gtup (sqT_of ht) rfl (go_gcons (go_name (go_gcons (go_name (go_gcons (go_name (go_gcons (go_name (go_gnil ⟨rfl, ?_⟩)))))))))
        walk_at "go"
        exact ⟨f1, f2, o1, o2, r1, r2, n1, n2, g1, g2, sp1, sp2, Ok, rfl, AC1, AC2, hFF H14 (noT_same _), hHF H14 (noT_same _), okS, R1, R2, z1, z2, fun H4 s4 => hk _ s4⟩
      walk_at "go"
      refine go_all (sq_bls (f := fun _ => true) e15) ?_
      walk_at "go"
      rw [all_map_id, show ((List.range ys.length).all fun _ => true) = true by simp]
      exact k _
end
theorem all_mk {l : PySem.W.OpenLaw} {w : World} {K : PySem.W.Frag} {h : Heap} {mg : Str → Option Value} {fa : Addr} (X : K.In h) (G : h.Ns mainGlobals mg) (hfa : mg "law" = some (.ref fa))
    {C_Answer C_Dealt C_Ring C_Chain C_Free C_Walk f_is_number f_check_rows f_check_thing f_ties_of f_is_pair f_is_chain f_is_even f_Dealt_init f_Dealt_shows f_Ring_init f_Ring_shows f_Chain_init f_Chain_shows f_Free_init f_Free_shows f_Walk_init f_Walk_meet f_Walk_way_up f_Walk_chain f_Walk_ring f_deal f_tied f_heads_of f_count_by f_count f_dealing f_number_of f__law_copied f__law_spoiled f__law_laid f__law_door_right f__law_row f__law_told f__law_free_right f__law_holds f_law cd_law tb_law : Addr}
    {cq35 : Option Addr} {cs35 : Array (Option Value)} {co35 : Value} {vs35 : Array Value} {od0 an0 od1 an1 od2 an2 od3 an3 od4 an4 od5 an5 od6 an6 od7 an7 od8 an8 od9 an9 od10 an10 od11 an11 od12 an12 od13 an13 od14 an14 od15 an15 od16 an16 od17 an17 od18 an18 od19 an19 od20 an20 od21 an21 od22 an22 od23 an23 od24 an24 od25 an25 od26 an26 od27 an27 od28 an28 od29 an29 od30 an30 od31 an31 od32 an32 od33 an33 od34 an34 od35 an35 : Option Addr} {sl0 sl1 sl2 sl3 sl4 sl5 sl6 sl7 sl8 sl9 sl10 sl11 sl12 sl13 sl14 sl15 sl16 sl17 sl18 sl19 sl20 sl21 sl22 sl23 sl24 sl25 sl26 sl27 sl28 sl29 sl30 sl31 sl32 sl33 sl34 sl35 : Array (Option Value)} {oc0 kV0 dc0 pm0 cd0 ct0 oc1 kV1 dc1 pm1 cd1 ct1 oc2 kV2 dc2 pm2 cd2 ct2 oc3 kV3 dc3 pm3 cd3 ct3 oc4 kV4 dc4 pm4 cd4 ct4 oc5 kV5 dc5 pm5 cd5 ct5 oc6 kV6 dc6 pm6 cd6 ct6 oc7 kV7 dc7 pm7 cd7 ct7 oc8 kV8 dc8 pm8 cd8 ct8 oc9 kV9 dc9 pm9 cd9 ct9 oc10 kV10 dc10 pm10 cd10 ct10 oc11 kV11 dc11 pm11 cd11 ct11 oc12 kV12 dc12 pm12 cd12 ct12 oc13 kV13 dc13 pm13 cd13 ct13 oc14 kV14 dc14 pm14 cd14 ct14 oc15 kV15 dc15 pm15 cd15 ct15 oc16 kV16 dc16 pm16 cd16 ct16 oc17 kV17 dc17 pm17 cd17 ct17 oc18 kV18 dc18 pm18 cd18 ct18 oc19 kV19 dc19 pm19 cd19 ct19 oc20 kV20 dc20 pm20 cd20 ct20 oc21 kV21 dc21 pm21 cd21 ct21 oc22 kV22 dc22 pm22 cd22 ct22 oc23 kV23 dc23 pm23 cd23 ct23 oc24 kV24 dc24 pm24 cd24 ct24 oc25 kV25 dc25 pm25 cd25 ct25 oc26 kV26 dc26 pm26 cd26 ct26 oc27 kV27 dc27 pm27 cd27 ct27 oc28 kV28 dc28 pm28 cd28 ct28 oc29 kV29 dc29 pm29 cd29 ct29 oc30 kV30 dc30 pm30 cd30 ct30 oc31 kV31 dc31 pm31 cd31 ct31 oc32 kV32 dc32 pm32 cd32 ct32 oc33 kV33 dc33 pm33 cd33 ct33 oc34 kV34 dc34 pm34 cd34 ct34 oc35 kV35 dc35 pm35  ct35 : Value}
    (a_Answer : PySem.W.nsIn K mainGlobals "Answer" = some (some (.ref C_Answer)))
    (a_Dealt : PySem.W.nsIn K mainGlobals "Dealt" = some (some (.ref C_Dealt)))
    (a_Ring : PySem.W.nsIn K mainGlobals "Ring" = some (some (.ref C_Ring)))
    (a_Chain : PySem.W.nsIn K mainGlobals "Chain" = some (some (.ref C_Chain)))
    (a_Free : PySem.W.nsIn K mainGlobals "Free" = some (some (.ref C_Free)))
    (a_Walk : PySem.W.nsIn K mainGlobals "Walk" = some (some (.ref C_Walk)))
    (a_is_number : PySem.W.nsIn K mainGlobals "is_number" = some (some (.ref f_is_number)))
    (l_is_number : K.lookup f_is_number = some ⟨oc0, od0, .func (PySem.W.fnOf "is_number" "is_number" (defArgs s_is_number) (defBody s_is_number) (defScope s_is_number) .none kV0 dc0 pm0 an0 cd0 ct0), sl0⟩)
    (c_is_number : PySem.W.codeIn K cd0 "is_number" = true)
    (k_is_number : PySem.W.keepIn K (.ref f_is_number) = true)
    (a_check_rows : PySem.W.nsIn K mainGlobals "check_rows" = some (some (.ref f_check_rows)))
    (l_check_rows : K.lookup f_check_rows = some ⟨oc1, od1, .func (PySem.W.fnOf "check_rows" "check_rows" (defArgs s_check_rows) (defBody s_check_rows) (defScope s_check_rows) .none kV1 dc1 pm1 an1 cd1 ct1), sl1⟩)
    (c_check_rows : PySem.W.codeIn K cd1 "check_rows" = true)
    (k_check_rows : PySem.W.keepIn K (.ref f_check_rows) = true)
    (a_check_thing : PySem.W.nsIn K mainGlobals "check_thing" = some (some (.ref f_check_thing)))
    (l_check_thing : K.lookup f_check_thing = some ⟨oc2, od2, .func (PySem.W.fnOf "check_thing" "check_thing" (defArgs s_check_thing) (defBody s_check_thing) (defScope s_check_thing) .none kV2 dc2 pm2 an2 cd2 ct2), sl2⟩)
    (c_check_thing : PySem.W.codeIn K cd2 "check_thing" = true)
    (k_check_thing : PySem.W.keepIn K (.ref f_check_thing) = true)
    (a_ties_of : PySem.W.nsIn K mainGlobals "ties_of" = some (some (.ref f_ties_of)))
    (l_ties_of : K.lookup f_ties_of = some ⟨oc3, od3, .func (PySem.W.fnOf "ties_of" "ties_of" (defArgs s_ties_of) (defBody s_ties_of) (defScope s_ties_of) .none kV3 dc3 pm3 an3 cd3 ct3), sl3⟩)
    (c_ties_of : PySem.W.codeIn K cd3 "ties_of" = true)
    (k_ties_of : PySem.W.keepIn K (.ref f_ties_of) = true)
    (a_is_pair : PySem.W.nsIn K mainGlobals "is_pair" = some (some (.ref f_is_pair)))
    (l_is_pair : K.lookup f_is_pair = some ⟨oc4, od4, .func (PySem.W.fnOf "is_pair" "is_pair" (defArgs s_is_pair) (defBody s_is_pair) (defScope s_is_pair) .none kV4 dc4 pm4 an4 cd4 ct4), sl4⟩)
    (c_is_pair : PySem.W.codeIn K cd4 "is_pair" = true)
    (k_is_pair : PySem.W.keepIn K (.ref f_is_pair) = true)
    (a_is_chain : PySem.W.nsIn K mainGlobals "is_chain" = some (some (.ref f_is_chain)))
    (l_is_chain : K.lookup f_is_chain = some ⟨oc5, od5, .func (PySem.W.fnOf "is_chain" "is_chain" (defArgs s_is_chain) (defBody s_is_chain) (defScope s_is_chain) .none kV5 dc5 pm5 an5 cd5 ct5), sl5⟩)
    (c_is_chain : PySem.W.codeIn K cd5 "is_chain" = true)
    (k_is_chain : PySem.W.keepIn K (.ref f_is_chain) = true)
    (a_is_even : PySem.W.nsIn K mainGlobals "is_even" = some (some (.ref f_is_even)))
    (l_is_even : K.lookup f_is_even = some ⟨oc6, od6, .func (PySem.W.fnOf "is_even" "is_even" (defArgs s_is_even) (defBody s_is_even) (defScope s_is_even) .none kV6 dc6 pm6 an6 cd6 ct6), sl6⟩)
    (c_is_even : PySem.W.codeIn K cd6 "is_even" = true)
    (k_is_even : PySem.W.keepIn K (.ref f_is_even) = true)
    (a_Dealt_init : PySem.W.findIn K (.ref C_Dealt) "__init__" = some (some (.ref f_Dealt_init)))
    (i_Dealt_init : PySem.W.isFn K (.ref f_Dealt_init) = true)
    (l_Dealt_init : K.lookup f_Dealt_init = some ⟨oc7, od7, .func (PySem.W.fnOf "__init__" "Dealt.__init__" (defArgs s_Dealt_init) (defBody s_Dealt_init) (defScope s_Dealt_init) .none kV7 dc7 pm7 an7 cd7 ct7), sl7⟩)
    (c_Dealt_init : PySem.W.codeIn K cd7 "Dealt.__init__" = true)
    (k_Dealt_init : PySem.W.keepIn K (.ref f_Dealt_init) = true)
    (a_Dealt_shows : PySem.W.findIn K (.ref C_Dealt) "shows" = some (some (.ref f_Dealt_shows)))
    (i_Dealt_shows : PySem.W.isFn K (.ref f_Dealt_shows) = true)
    (l_Dealt_shows : K.lookup f_Dealt_shows = some ⟨oc8, od8, .func (PySem.W.fnOf "shows" "Dealt.shows" (defArgs s_Dealt_shows) (defBody s_Dealt_shows) (defScope s_Dealt_shows) .none kV8 dc8 pm8 an8 cd8 ct8), sl8⟩)
    (c_Dealt_shows : PySem.W.codeIn K cd8 "Dealt.shows" = true)
    (k_Dealt_shows : PySem.W.keepIn K (.ref f_Dealt_shows) = true)
    (a_Ring_init : PySem.W.findIn K (.ref C_Ring) "__init__" = some (some (.ref f_Ring_init)))
    (i_Ring_init : PySem.W.isFn K (.ref f_Ring_init) = true)
    (l_Ring_init : K.lookup f_Ring_init = some ⟨oc9, od9, .func (PySem.W.fnOf "__init__" "Ring.__init__" (defArgs s_Ring_init) (defBody s_Ring_init) (defScope s_Ring_init) .none kV9 dc9 pm9 an9 cd9 ct9), sl9⟩)
    (c_Ring_init : PySem.W.codeIn K cd9 "Ring.__init__" = true)
    (k_Ring_init : PySem.W.keepIn K (.ref f_Ring_init) = true)
    (a_Ring_shows : PySem.W.findIn K (.ref C_Ring) "shows" = some (some (.ref f_Ring_shows)))
    (i_Ring_shows : PySem.W.isFn K (.ref f_Ring_shows) = true)
    (l_Ring_shows : K.lookup f_Ring_shows = some ⟨oc10, od10, .func (PySem.W.fnOf "shows" "Ring.shows" (defArgs s_Ring_shows) (defBody s_Ring_shows) (defScope s_Ring_shows) .none kV10 dc10 pm10 an10 cd10 ct10), sl10⟩)
    (c_Ring_shows : PySem.W.codeIn K cd10 "Ring.shows" = true)
    (k_Ring_shows : PySem.W.keepIn K (.ref f_Ring_shows) = true)
    (a_Chain_init : PySem.W.findIn K (.ref C_Chain) "__init__" = some (some (.ref f_Chain_init)))
    (i_Chain_init : PySem.W.isFn K (.ref f_Chain_init) = true)
    (l_Chain_init : K.lookup f_Chain_init = some ⟨oc11, od11, .func (PySem.W.fnOf "__init__" "Chain.__init__" (defArgs s_Chain_init) (defBody s_Chain_init) (defScope s_Chain_init) .none kV11 dc11 pm11 an11 cd11 ct11), sl11⟩)
    (c_Chain_init : PySem.W.codeIn K cd11 "Chain.__init__" = true)
    (k_Chain_init : PySem.W.keepIn K (.ref f_Chain_init) = true)
    (a_Chain_shows : PySem.W.findIn K (.ref C_Chain) "shows" = some (some (.ref f_Chain_shows)))
    (i_Chain_shows : PySem.W.isFn K (.ref f_Chain_shows) = true)
    (l_Chain_shows : K.lookup f_Chain_shows = some ⟨oc12, od12, .func (PySem.W.fnOf "shows" "Chain.shows" (defArgs s_Chain_shows) (defBody s_Chain_shows) (defScope s_Chain_shows) .none kV12 dc12 pm12 an12 cd12 ct12), sl12⟩)
    (c_Chain_shows : PySem.W.codeIn K cd12 "Chain.shows" = true)
    (k_Chain_shows : PySem.W.keepIn K (.ref f_Chain_shows) = true)
    (a_Free_init : PySem.W.findIn K (.ref C_Free) "__init__" = some (some (.ref f_Free_init)))
    (i_Free_init : PySem.W.isFn K (.ref f_Free_init) = true)
    (l_Free_init : K.lookup f_Free_init = some ⟨oc13, od13, .func (PySem.W.fnOf "__init__" "Free.__init__" (defArgs s_Free_init) (defBody s_Free_init) (defScope s_Free_init) .none kV13 dc13 pm13 an13 cd13 ct13), sl13⟩)
    (c_Free_init : PySem.W.codeIn K cd13 "Free.__init__" = true)
    (k_Free_init : PySem.W.keepIn K (.ref f_Free_init) = true)
    (a_Free_shows : PySem.W.findIn K (.ref C_Free) "shows" = some (some (.ref f_Free_shows)))
    (i_Free_shows : PySem.W.isFn K (.ref f_Free_shows) = true)
    (l_Free_shows : K.lookup f_Free_shows = some ⟨oc14, od14, .func (PySem.W.fnOf "shows" "Free.shows" (defArgs s_Free_shows) (defBody s_Free_shows) (defScope s_Free_shows) .none kV14 dc14 pm14 an14 cd14 ct14), sl14⟩)
    (c_Free_shows : PySem.W.codeIn K cd14 "Free.shows" = true)
    (k_Free_shows : PySem.W.keepIn K (.ref f_Free_shows) = true)
    (a_Walk_init : PySem.W.findIn K (.ref C_Walk) "__init__" = some (some (.ref f_Walk_init)))
    (i_Walk_init : PySem.W.isFn K (.ref f_Walk_init) = true)
    (l_Walk_init : K.lookup f_Walk_init = some ⟨oc15, od15, .func (PySem.W.fnOf "__init__" "Walk.__init__" (defArgs s_Walk_init) (defBody s_Walk_init) (defScope s_Walk_init) .none kV15 dc15 pm15 an15 cd15 ct15), sl15⟩)
    (c_Walk_init : PySem.W.codeIn K cd15 "Walk.__init__" = true)
    (k_Walk_init : PySem.W.keepIn K (.ref f_Walk_init) = true)
    (a_Walk_meet : PySem.W.findIn K (.ref C_Walk) "meet" = some (some (.ref f_Walk_meet)))
    (i_Walk_meet : PySem.W.isFn K (.ref f_Walk_meet) = true)
    (l_Walk_meet : K.lookup f_Walk_meet = some ⟨oc16, od16, .func (PySem.W.fnOf "meet" "Walk.meet" (defArgs s_Walk_meet) (defBody s_Walk_meet) (defScope s_Walk_meet) .none kV16 dc16 pm16 an16 cd16 ct16), sl16⟩)
    (c_Walk_meet : PySem.W.codeIn K cd16 "Walk.meet" = true)
    (k_Walk_meet : PySem.W.keepIn K (.ref f_Walk_meet) = true)
    (a_Walk_way_up : PySem.W.findIn K (.ref C_Walk) "way_up" = some (some (.ref f_Walk_way_up)))
    (i_Walk_way_up : PySem.W.isFn K (.ref f_Walk_way_up) = true)
    (l_Walk_way_up : K.lookup f_Walk_way_up = some ⟨oc17, od17, .func (PySem.W.fnOf "way_up" "Walk.way_up" (defArgs s_Walk_way_up) (defBody s_Walk_way_up) (defScope s_Walk_way_up) .none kV17 dc17 pm17 an17 cd17 ct17), sl17⟩)
    (c_Walk_way_up : PySem.W.codeIn K cd17 "Walk.way_up" = true)
    (k_Walk_way_up : PySem.W.keepIn K (.ref f_Walk_way_up) = true)
    (a_Walk_chain : PySem.W.findIn K (.ref C_Walk) "chain" = some (some (.ref f_Walk_chain)))
    (i_Walk_chain : PySem.W.isFn K (.ref f_Walk_chain) = true)
    (l_Walk_chain : K.lookup f_Walk_chain = some ⟨oc18, od18, .func (PySem.W.fnOf "chain" "Walk.chain" (defArgs s_Walk_chain) (defBody s_Walk_chain) (defScope s_Walk_chain) .none kV18 dc18 pm18 an18 cd18 ct18), sl18⟩)
    (c_Walk_chain : PySem.W.codeIn K cd18 "Walk.chain" = true)
    (k_Walk_chain : PySem.W.keepIn K (.ref f_Walk_chain) = true)
    (a_Walk_ring : PySem.W.findIn K (.ref C_Walk) "ring" = some (some (.ref f_Walk_ring)))
    (i_Walk_ring : PySem.W.isFn K (.ref f_Walk_ring) = true)
    (l_Walk_ring : K.lookup f_Walk_ring = some ⟨oc19, od19, .func (PySem.W.fnOf "ring" "Walk.ring" (defArgs s_Walk_ring) (defBody s_Walk_ring) (defScope s_Walk_ring) .none kV19 dc19 pm19 an19 cd19 ct19), sl19⟩)
    (c_Walk_ring : PySem.W.codeIn K cd19 "Walk.ring" = true)
    (k_Walk_ring : PySem.W.keepIn K (.ref f_Walk_ring) = true)
    (a_deal : PySem.W.nsIn K mainGlobals "deal" = some (some (.ref f_deal)))
    (l_deal : K.lookup f_deal = some ⟨oc20, od20, .func (PySem.W.fnOf "deal" "deal" (defArgs s_deal) (defBody s_deal) (defScope s_deal) .none kV20 dc20 pm20 an20 cd20 ct20), sl20⟩)
    (c_deal : PySem.W.codeIn K cd20 "deal" = true)
    (k_deal : PySem.W.keepIn K (.ref f_deal) = true)
    (a_tied : PySem.W.nsIn K mainGlobals "tied" = some (some (.ref f_tied)))
    (l_tied : K.lookup f_tied = some ⟨oc21, od21, .func (PySem.W.fnOf "tied" "tied" (defArgs s_tied) (defBody s_tied) (defScope s_tied) .none kV21 dc21 pm21 an21 cd21 ct21), sl21⟩)
    (c_tied : PySem.W.codeIn K cd21 "tied" = true)
    (k_tied : PySem.W.keepIn K (.ref f_tied) = true)
    (a_heads_of : PySem.W.nsIn K mainGlobals "heads_of" = some (some (.ref f_heads_of)))
    (l_heads_of : K.lookup f_heads_of = some ⟨oc22, od22, .func (PySem.W.fnOf "heads_of" "heads_of" (defArgs s_heads_of) (defBody s_heads_of) (defScope s_heads_of) .none kV22 dc22 pm22 an22 cd22 ct22), sl22⟩)
    (c_heads_of : PySem.W.codeIn K cd22 "heads_of" = true)
    (k_heads_of : PySem.W.keepIn K (.ref f_heads_of) = true)
    (a_count_by : PySem.W.nsIn K mainGlobals "count_by" = some (some (.ref f_count_by)))
    (l_count_by : K.lookup f_count_by = some ⟨oc23, od23, .func (PySem.W.fnOf "count_by" "count_by" (defArgs s_count_by) (defBody s_count_by) (defScope s_count_by) .none kV23 dc23 pm23 an23 cd23 ct23), sl23⟩)
    (c_count_by : PySem.W.codeIn K cd23 "count_by" = true)
    (k_count_by : PySem.W.keepIn K (.ref f_count_by) = true)
    (a_count : PySem.W.nsIn K mainGlobals "count" = some (some (.ref f_count)))
    (l_count : K.lookup f_count = some ⟨oc24, od24, .func (PySem.W.fnOf "count" "count" (defArgs s_count) (defBody s_count) (defScope s_count) .none kV24 dc24 pm24 an24 cd24 ct24), sl24⟩)
    (c_count : PySem.W.codeIn K cd24 "count" = true)
    (k_count : PySem.W.keepIn K (.ref f_count) = true)
    (a_dealing : PySem.W.nsIn K mainGlobals "dealing" = some (some (.ref f_dealing)))
    (l_dealing : K.lookup f_dealing = some ⟨oc25, od25, .func (PySem.W.fnOf "dealing" "dealing" (defArgs s_dealing) (defBody s_dealing) (defScope s_dealing) .none kV25 dc25 pm25 an25 cd25 ct25), sl25⟩)
    (c_dealing : PySem.W.codeIn K cd25 "dealing" = true)
    (k_dealing : PySem.W.keepIn K (.ref f_dealing) = true)
    (a_number_of : PySem.W.nsIn K mainGlobals "number_of" = some (some (.ref f_number_of)))
    (l_number_of : K.lookup f_number_of = some ⟨oc26, od26, .func (PySem.W.fnOf "number_of" "number_of" (defArgs s_number_of) (defBody s_number_of) (defScope s_number_of) .none kV26 dc26 pm26 an26 cd26 ct26), sl26⟩)
    (c_number_of : PySem.W.codeIn K cd26 "number_of" = true)
    (k_number_of : PySem.W.keepIn K (.ref f_number_of) = true)
    (a__law_copied : PySem.W.nsIn K mainGlobals "_law_copied" = some (some (.ref f__law_copied)))
    (l__law_copied : K.lookup f__law_copied = some ⟨oc27, od27, .func (PySem.W.fnOf "_law_copied" "_law_copied" (defArgs s__law_copied) (defBody s__law_copied) (defScope s__law_copied) .none kV27 dc27 pm27 an27 cd27 ct27), sl27⟩)
    (c__law_copied : PySem.W.codeIn K cd27 "_law_copied" = true)
    (k__law_copied : PySem.W.keepIn K (.ref f__law_copied) = true)
    (a__law_spoiled : PySem.W.nsIn K mainGlobals "_law_spoiled" = some (some (.ref f__law_spoiled)))
    (l__law_spoiled : K.lookup f__law_spoiled = some ⟨oc28, od28, .func (PySem.W.fnOf "_law_spoiled" "_law_spoiled" (defArgs s__law_spoiled) (defBody s__law_spoiled) (defScope s__law_spoiled) .none kV28 dc28 pm28 an28 cd28 ct28), sl28⟩)
    (c__law_spoiled : PySem.W.codeIn K cd28 "_law_spoiled" = true)
    (k__law_spoiled : PySem.W.keepIn K (.ref f__law_spoiled) = true)
    (a__law_laid : PySem.W.nsIn K mainGlobals "_law_laid" = some (some (.ref f__law_laid)))
    (l__law_laid : K.lookup f__law_laid = some ⟨oc29, od29, .func (PySem.W.fnOf "_law_laid" "_law_laid" (defArgs s__law_laid) (defBody s__law_laid) (defScope s__law_laid) .none kV29 dc29 pm29 an29 cd29 ct29), sl29⟩)
    (c__law_laid : PySem.W.codeIn K cd29 "_law_laid" = true)
    (k__law_laid : PySem.W.keepIn K (.ref f__law_laid) = true)
    (a__law_door_right : PySem.W.nsIn K mainGlobals "_law_door_right" = some (some (.ref f__law_door_right)))
    (l__law_door_right : K.lookup f__law_door_right = some ⟨oc30, od30, .func (PySem.W.fnOf "_law_door_right" "_law_door_right" (defArgs s__law_door_right) (defBody s__law_door_right) (defScope s__law_door_right) .none kV30 dc30 pm30 an30 cd30 ct30), sl30⟩)
    (c__law_door_right : PySem.W.codeIn K cd30 "_law_door_right" = true)
    (k__law_door_right : PySem.W.keepIn K (.ref f__law_door_right) = true)
    (a__law_row : PySem.W.nsIn K mainGlobals "_law_row" = some (some (.ref f__law_row)))
    (l__law_row : K.lookup f__law_row = some ⟨oc31, od31, .func (PySem.W.fnOf "_law_row" "_law_row" (defArgs s__law_row) (defBody s__law_row) (defScope s__law_row) .none kV31 dc31 pm31 an31 cd31 ct31), sl31⟩)
    (c__law_row : PySem.W.codeIn K cd31 "_law_row" = true)
    (k__law_row : PySem.W.keepIn K (.ref f__law_row) = true)
    (a__law_told : PySem.W.nsIn K mainGlobals "_law_told" = some (some (.ref f__law_told)))
    (l__law_told : K.lookup f__law_told = some ⟨oc32, od32, .func (PySem.W.fnOf "_law_told" "_law_told" (defArgs s__law_told) (defBody s__law_told) (defScope s__law_told) .none kV32 dc32 pm32 an32 cd32 ct32), sl32⟩)
    (c__law_told : PySem.W.codeIn K cd32 "_law_told" = true)
    (k__law_told : PySem.W.keepIn K (.ref f__law_told) = true)
    (a__law_free_right : PySem.W.nsIn K mainGlobals "_law_free_right" = some (some (.ref f__law_free_right)))
    (l__law_free_right : K.lookup f__law_free_right = some ⟨oc33, od33, .func (PySem.W.fnOf "_law_free_right" "_law_free_right" (defArgs s__law_free_right) (defBody s__law_free_right) (defScope s__law_free_right) .none kV33 dc33 pm33 an33 cd33 ct33), sl33⟩)
    (c__law_free_right : PySem.W.codeIn K cd33 "_law_free_right" = true)
    (k__law_free_right : PySem.W.keepIn K (.ref f__law_free_right) = true)
    (a__law_holds : PySem.W.nsIn K mainGlobals "_law_holds" = some (some (.ref f__law_holds)))
    (l__law_holds : K.lookup f__law_holds = some ⟨oc34, od34, .func (PySem.W.fnOf "_law_holds" "_law_holds" (defArgs s__law_holds) (defBody s__law_holds) (defScope s__law_holds) .none kV34 dc34 pm34 an34 cd34 ct34), sl34⟩)
    (c__law_holds : PySem.W.codeIn K cd34 "_law_holds" = true)
    (k__law_holds : PySem.W.keepIn K (.ref f__law_holds) = true)
    (a_law : PySem.W.nsIn K mainGlobals "law" = some (some (.ref f_law)))
    (l_law : K.lookup f_law = some ⟨oc35, od35, .func (PySem.W.fnOf "law" "law" (defArgs s_law) (defBody s_law) (defScope s_law) .none kV35 dc35 pm35 an35 (.ref cd_law) ct35), sl35⟩)
    (cl_law : K.lookup cd_law = some ⟨co35, cq35, .fields vs35, cs35⟩)
    (cp_law : vs35[11]? = some (.ref tb_law))
    (hh_law : PySem.W.codeHdIn K cd_law tb_law = true)
    (nt_law : K.lookup tb_law = none)
    (tt_law : h.get? tb_law = some { cls := .none, data := .fields #[] })
    (c_law : PySem.W.codeIn K (.ref cd_law) "law" = true)
    (k_law : PySem.W.keepIn K (.ref f_law) = true)
    (pg_Dealt : PySem.W.plainGet K C_Dealt Str.empty = true)
    (hd_Dealt : PySem.W.hasDictIn K C_Dealt = true)
    (po_Dealt : PySem.W.plainOver K C_Dealt = true)
    (sa_Dealt : PySem.W.findIn K (.ref C_Dealt) "__setattr__" = some (some (.builtin "object.__setattr__")))
    (mk_Dealt : PySem.W.makesIn K C_Dealt = true)
    (kc_Dealt : PySem.W.keepIn K (.ref C_Dealt) = true)
    (n_Dealt_sides : PySem.W.findIn K (.ref C_Dealt) "sides" = some none)
    (pg_Ring : PySem.W.plainGet K C_Ring Str.empty = true)
    (hd_Ring : PySem.W.hasDictIn K C_Ring = true)
    (po_Ring : PySem.W.plainOver K C_Ring = true)
    (sa_Ring : PySem.W.findIn K (.ref C_Ring) "__setattr__" = some (some (.builtin "object.__setattr__")))
    (mk_Ring : PySem.W.makesIn K C_Ring = true)
    (kc_Ring : PySem.W.keepIn K (.ref C_Ring) = true)
    (n_Ring_things : PySem.W.findIn K (.ref C_Ring) "things" = some none)
    (n_Ring_places : PySem.W.findIn K (.ref C_Ring) "places" = some none)
    (pg_Chain : PySem.W.plainGet K C_Chain Str.empty = true)
    (hd_Chain : PySem.W.hasDictIn K C_Chain = true)
    (po_Chain : PySem.W.plainOver K C_Chain = true)
    (sa_Chain : PySem.W.findIn K (.ref C_Chain) "__setattr__" = some (some (.builtin "object.__setattr__")))
    (mk_Chain : PySem.W.makesIn K C_Chain = true)
    (kc_Chain : PySem.W.keepIn K (.ref C_Chain) = true)
    (n_Chain_things : PySem.W.findIn K (.ref C_Chain) "things" = some none)
    (n_Chain_places : PySem.W.findIn K (.ref C_Chain) "places" = some none)
    (pg_Free : PySem.W.plainGet K C_Free Str.empty = true)
    (hd_Free : PySem.W.hasDictIn K C_Free = true)
    (po_Free : PySem.W.plainOver K C_Free = true)
    (sa_Free : PySem.W.findIn K (.ref C_Free) "__setattr__" = some (some (.builtin "object.__setattr__")))
    (mk_Free : PySem.W.makesIn K C_Free = true)
    (kc_Free : PySem.W.keepIn K (.ref C_Free) = true)
    (n_Free_same : PySem.W.findIn K (.ref C_Free) "same" = some none)
    (n_Free_unlike : PySem.W.findIn K (.ref C_Free) "unlike" = some none)
    (pg_Walk : PySem.W.plainGet K C_Walk Str.empty = true)
    (hd_Walk : PySem.W.hasDictIn K C_Walk = true)
    (po_Walk : PySem.W.plainOver K C_Walk = true)
    (sa_Walk : PySem.W.findIn K (.ref C_Walk) "__setattr__" = some (some (.builtin "object.__setattr__")))
    (mk_Walk : PySem.W.makesIn K C_Walk = true)
    (kc_Walk : PySem.W.keepIn K (.ref C_Walk) = true)
    (n_Walk_ties : PySem.W.findIn K (.ref C_Walk) "ties" = some none)
    (n_Walk_sides : PySem.W.findIn K (.ref C_Walk) "sides" = some none)
    (n_Walk_heads : PySem.W.findIn K (.ref C_Walk) "heads" = some none)
    (n_Walk_ahead : PySem.W.findIn K (.ref C_Walk) "ahead" = some none)
    (n_Walk_bar : PySem.W.findIn K (.ref C_Walk) "bar" = some none)
    (qk_Dealt_Answer : PySem.W.kitOne K (.ref C_Dealt) (.ref C_Answer) = some true)
    (qk_Dealt_Dealt : PySem.W.kitOne K (.ref C_Dealt) (.ref C_Dealt) = some true)
    (qk_Dealt_Ring : PySem.W.kitOne K (.ref C_Dealt) (.ref C_Ring) = some false)
    (qk_Dealt_Chain : PySem.W.kitOne K (.ref C_Dealt) (.ref C_Chain) = some false)
    (qk_Dealt_Free : PySem.W.kitOne K (.ref C_Dealt) (.ref C_Free) = some false)
    (qk_Ring_Answer : PySem.W.kitOne K (.ref C_Ring) (.ref C_Answer) = some true)
    (qk_Ring_Dealt : PySem.W.kitOne K (.ref C_Ring) (.ref C_Dealt) = some false)
    (qk_Ring_Ring : PySem.W.kitOne K (.ref C_Ring) (.ref C_Ring) = some true)
    (qk_Ring_Chain : PySem.W.kitOne K (.ref C_Ring) (.ref C_Chain) = some false)
    (qk_Ring_Free : PySem.W.kitOne K (.ref C_Ring) (.ref C_Free) = some false)
    (qk_Chain_Answer : PySem.W.kitOne K (.ref C_Chain) (.ref C_Answer) = some true)
    (qk_Chain_Dealt : PySem.W.kitOne K (.ref C_Chain) (.ref C_Dealt) = some false)
    (qk_Chain_Ring : PySem.W.kitOne K (.ref C_Chain) (.ref C_Ring) = some false)
    (qk_Chain_Chain : PySem.W.kitOne K (.ref C_Chain) (.ref C_Chain) = some true)
    (qk_Chain_Free : PySem.W.kitOne K (.ref C_Chain) (.ref C_Free) = some false)
    (qk_Free_Answer : PySem.W.kitOne K (.ref C_Free) (.ref C_Answer) = some true)
    (qk_Free_Dealt : PySem.W.kitOne K (.ref C_Free) (.ref C_Dealt) = some false)
    (qk_Free_Ring : PySem.W.kitOne K (.ref C_Free) (.ref C_Ring) = some false)
    (qk_Free_Chain : PySem.W.kitOne K (.ref C_Free) (.ref C_Chain) = some false)
    (qk_Free_Free : PySem.W.kitOne K (.ref C_Free) (.ref C_Free) = some true)
    (qsg1 : PySem.W.specialIn K (.builtin "object.__class__") "__get__" = some (some (.builtin "getset_descriptor.__get__")))
    (qsg2 : PySem.W.takesIn K (.builtin "object.__class__") = some true)
    (qhc_Dealt : PySem.W.findIn K (.ref C_Dealt) "__class__" = some (some (.builtin "object.__class__")))
    (qho_Dealt : PySem.W.mroIn K C_Dealt (.type "object") = some true)
    (qhc_Ring : PySem.W.findIn K (.ref C_Ring) "__class__" = some (some (.builtin "object.__class__")))
    (qho_Ring : PySem.W.mroIn K C_Ring (.type "object") = some true)
    (qhc_Chain : PySem.W.findIn K (.ref C_Chain) "__class__" = some (some (.builtin "object.__class__")))
    (qho_Chain : PySem.W.mroIn K C_Chain (.type "object") = some true)
    (qhc_Free : PySem.W.findIn K (.ref C_Free) "__class__" = some (some (.builtin "object.__class__")))
    (qho_Free : PySem.W.mroIn K C_Free (.type "object") = some true)
    (z_len : PySem.W.nsIn K mainGlobals "len" = some none)
    (z_range : PySem.W.nsIn K mainGlobals "range" = some none)
    (z_list : PySem.W.nsIn K mainGlobals "list" = some none)
    (z_sum : PySem.W.nsIn K mainGlobals "sum" = some none)
    (z_all : PySem.W.nsIn K mainGlobals "all" = some none)
    (z_any : PySem.W.nsIn K mainGlobals "any" = some none)
    (z_sorted : PySem.W.nsIn K mainGlobals "sorted" = some none)
    (z_isinstance : PySem.W.nsIn K mainGlobals "isinstance" = some none)
    (z_int : PySem.W.nsIn K mainGlobals "int" = some none)
    (z_bool : PySem.W.nsIn K mainGlobals "bool" = some none)
    (z_enumerate : PySem.W.nsIn K mainGlobals "enumerate" = some none)
    (z_zip : PySem.W.nsIn K mainGlobals "zip" = some none)
    (z_abs : PySem.W.nsIn K mainGlobals "abs" = some none)
    (z_min : PySem.W.nsIn K mainGlobals "min" = some none)
    (z_max : PySem.W.nsIn K mainGlobals "max" = some none)
    (z_set : PySem.W.nsIn K mainGlobals "set" = some none)
    (z_str : PySem.W.nsIn K mainGlobals "str" = some none)
    (z_tuple : PySem.W.nsIn K mainGlobals "tuple" = some none)
    (z_ValueError : PySem.W.nsIn K mainGlobals "ValueError" = some none)
    : LamX.LawAtS l w K CX0 18 63 "_law_script" mg fa h := by
  have e0 := hfa.symm.trans (PySem.W.mg_of X G a_law)
  have e : f_law = fa := by
    injection e0 with e0
    injection e0 with e0
    exact e0.symm
  subst e
  have F_is_number := fun_mk (st := s_is_number) l_is_number c_is_number k_is_number
  have F_check_rows := fun_mk (st := s_check_rows) l_check_rows c_check_rows k_check_rows
  have F_check_thing := fun_mk (st := s_check_thing) l_check_thing c_check_thing k_check_thing
  have F_ties_of := fun_mk (st := s_ties_of) l_ties_of c_ties_of k_ties_of
  have F_is_pair := fun_mk (st := s_is_pair) l_is_pair c_is_pair k_is_pair
  have F_is_chain := fun_mk (st := s_is_chain) l_is_chain c_is_chain k_is_chain
  have F_is_even := fun_mk (st := s_is_even) l_is_even c_is_even k_is_even
  have F_Dealt_init := fun_mk (st := s_Dealt_init) l_Dealt_init c_Dealt_init k_Dealt_init
  have F_Dealt_shows := fun_mk (st := s_Dealt_shows) l_Dealt_shows c_Dealt_shows k_Dealt_shows
  have F_Ring_init := fun_mk (st := s_Ring_init) l_Ring_init c_Ring_init k_Ring_init
  have F_Ring_shows := fun_mk (st := s_Ring_shows) l_Ring_shows c_Ring_shows k_Ring_shows
  have F_Chain_init := fun_mk (st := s_Chain_init) l_Chain_init c_Chain_init k_Chain_init
  have F_Chain_shows := fun_mk (st := s_Chain_shows) l_Chain_shows c_Chain_shows k_Chain_shows
  have F_Free_init := fun_mk (st := s_Free_init) l_Free_init c_Free_init k_Free_init
  have F_Free_shows := fun_mk (st := s_Free_shows) l_Free_shows c_Free_shows k_Free_shows
  have F_Walk_init := fun_mk (st := s_Walk_init) l_Walk_init c_Walk_init k_Walk_init
  have F_Walk_meet := fun_mk (st := s_Walk_meet) l_Walk_meet c_Walk_meet k_Walk_meet
  have F_Walk_way_up := fun_mk (st := s_Walk_way_up) l_Walk_way_up c_Walk_way_up k_Walk_way_up
  have F_Walk_chain := fun_mk (st := s_Walk_chain) l_Walk_chain c_Walk_chain k_Walk_chain
  have F_Walk_ring := fun_mk (st := s_Walk_ring) l_Walk_ring c_Walk_ring k_Walk_ring
  have F_deal := fun_mk (st := s_deal) l_deal c_deal k_deal
  have F_tied := fun_mk (st := s_tied) l_tied c_tied k_tied
  have F_heads_of := fun_mk (st := s_heads_of) l_heads_of c_heads_of k_heads_of
  have F_count_by := fun_mk (st := s_count_by) l_count_by c_count_by k_count_by
  have F_count := fun_mk (st := s_count) l_count c_count k_count
  have F_dealing := fun_mk (st := s_dealing) l_dealing c_dealing k_dealing
  have F_number_of := fun_mk (st := s_number_of) l_number_of c_number_of k_number_of
  have F__law_copied := fun_mk (st := s__law_copied) l__law_copied c__law_copied k__law_copied
  have F__law_spoiled := fun_mk (st := s__law_spoiled) l__law_spoiled c__law_spoiled k__law_spoiled
  have F__law_laid := fun_mk (st := s__law_laid) l__law_laid c__law_laid k__law_laid
  have F__law_door_right := fun_mk (st := s__law_door_right) l__law_door_right c__law_door_right k__law_door_right
  have F__law_row := fun_mk (st := s__law_row) l__law_row c__law_row k__law_row
  have F__law_told := fun_mk (st := s__law_told) l__law_told c__law_told k__law_told
  have F__law_free_right := fun_mk (st := s__law_free_right) l__law_free_right c__law_free_right k__law_free_right
  have F__law_holds := fun_mk (st := s__law_holds) l__law_holds c__law_holds k__law_holds
  have F_law := fun_mk (st := s_law) l_law c_law k_law
  let T : Prog K mg := { C_Answer := C_Answer, C_Dealt := C_Dealt, C_Ring := C_Ring, C_Chain := C_Chain, C_Free := C_Free, C_Walk := C_Walk, f_is_number := f_is_number, d_is_number := _, f_check_rows := f_check_rows, d_check_rows := _, f_check_thing := f_check_thing, d_check_thing := _, f_ties_of := f_ties_of, d_ties_of := _, f_is_pair := f_is_pair, d_is_pair := _, f_is_chain := f_is_chain, d_is_chain := _, f_is_even := f_is_even, d_is_even := _, f_Dealt_init := f_Dealt_init, d_Dealt_init := _, f_Dealt_shows := f_Dealt_shows, d_Dealt_shows := _, f_Ring_init := f_Ring_init, d_Ring_init := _, f_Ring_shows := f_Ring_shows, d_Ring_shows := _, f_Chain_init := f_Chain_init, d_Chain_init := _, f_Chain_shows := f_Chain_shows, d_Chain_shows := _, f_Free_init := f_Free_init, d_Free_init := _, f_Free_shows := f_Free_shows, d_Free_shows := _, f_Walk_init := f_Walk_init, d_Walk_init := _, f_Walk_meet := f_Walk_meet, d_Walk_meet := _, f_Walk_way_up := f_Walk_way_up, d_Walk_way_up := _, f_Walk_chain := f_Walk_chain, d_Walk_chain := _, f_Walk_ring := f_Walk_ring, d_Walk_ring := _, f_deal := f_deal, d_deal := _, f_tied := f_tied, d_tied := _, f_heads_of := f_heads_of, d_heads_of := _, f_count_by := f_count_by, d_count_by := _, f_count := f_count, d_count := _, f_dealing := f_dealing, d_dealing := _, f_number_of := f_number_of, d_number_of := _, f__law_copied := f__law_copied, d__law_copied := _, f__law_spoiled := f__law_spoiled, d__law_spoiled := _, f__law_laid := f__law_laid, d__law_laid := _, f__law_door_right := f__law_door_right, d__law_door_right := _, f__law_row := f__law_row, d__law_row := _, f__law_told := f__law_told, d__law_told := _, f__law_free_right := f__law_free_right, d__law_free_right := _, f__law_holds := f__law_holds, d__law_holds := _, f_law := f_law, d_law := _, cd_law := cd_law, tb_law := tb_law, gAnswer := PySem.W.mg_of X G a_Answer, gDealt := PySem.W.mg_of X G a_Dealt, cDealt := ⟨pg_Dealt, hd_Dealt, po_Dealt, sa_Dealt⟩, n_Dealt_sides := n_Dealt_sides, gRing := PySem.W.mg_of X G a_Ring, cRing := ⟨pg_Ring, hd_Ring, po_Ring, sa_Ring⟩, n_Ring_things := n_Ring_things, n_Ring_places := n_Ring_places, gChain := PySem.W.mg_of X G a_Chain, cChain := ⟨pg_Chain, hd_Chain, po_Chain, sa_Chain⟩, n_Chain_things := n_Chain_things, n_Chain_places := n_Chain_places, gFree := PySem.W.mg_of X G a_Free, cFree := ⟨pg_Free, hd_Free, po_Free, sa_Free⟩, n_Free_same := n_Free_same, n_Free_unlike := n_Free_unlike, gWalk := PySem.W.mg_of X G a_Walk, cWalk := ⟨pg_Walk, hd_Walk, po_Walk, sa_Walk⟩, n_Walk_ties := n_Walk_ties, n_Walk_sides := n_Walk_sides, n_Walk_heads := n_Walk_heads, n_Walk_ahead := n_Walk_ahead, n_Walk_bar := n_Walk_bar, F_is_number := F_is_number, b_is_number := F_is_number.binds (ps := ["thing"]) fun _ _ _ _ _ _ us hl => match us, hl with | [_], _ => rfl, g_is_number := PySem.W.mg_of X G a_is_number, F_check_rows := F_check_rows, b_check_rows := F_check_rows.binds (ps := ["rows"]) fun _ _ _ _ _ _ us hl => match us, hl with | [_], _ => rfl, g_check_rows := PySem.W.mg_of X G a_check_rows, F_check_thing := F_check_thing, b_check_thing := F_check_thing.binds (ps := ["rows", "thing"]) fun _ _ _ _ _ _ us hl => match us, hl with | [_, _], _ => rfl, g_check_thing := PySem.W.mg_of X G a_check_thing, F_ties_of := F_ties_of, b_ties_of := F_ties_of.binds (ps := ["rows"]) fun _ _ _ _ _ _ us hl => match us, hl with | [_], _ => rfl, g_ties_of := PySem.W.mg_of X G a_ties_of, F_is_pair := F_is_pair, b_is_pair := F_is_pair.binds (ps := ["rows", "place", "one", "other"]) fun _ _ _ _ _ _ us hl => match us, hl with | [_, _, _, _], _ => rfl, g_is_pair := PySem.W.mg_of X G a_is_pair, F_is_chain := F_is_chain, b_is_chain := F_is_chain.binds (ps := ["rows", "things", "places"]) fun _ _ _ _ _ _ us hl => match us, hl with | [_, _, _], _ => rfl, g_is_chain := PySem.W.mg_of X G a_is_chain, F_is_even := F_is_even, b_is_even := F_is_even.binds (ps := ["rows", "sides"]) fun _ _ _ _ _ _ us hl => match us, hl with | [_, _], _ => rfl, g_is_even := PySem.W.mg_of X G a_is_even, F_Dealt_init := F_Dealt_init, b_Dealt_init := F_Dealt_init.binds (ps := ["self", "sides"]) fun _ _ _ _ _ _ us hl => match us, hl with | [_, _], _ => rfl, mDealt := ⟨mk_Dealt, a_Dealt_init, i_Dealt_init, kc_Dealt⟩, F_Dealt_shows := F_Dealt_shows, b_Dealt_shows := F_Dealt_shows.binds (ps := ["self", "rows"]) fun _ _ _ _ _ _ us hl => match us, hl with | [_, _], _ => rfl, me_Dealt_shows := ⟨a_Dealt_shows, i_Dealt_shows, k_Dealt_shows⟩, F_Ring_init := F_Ring_init, b_Ring_init := F_Ring_init.binds (ps := ["self", "things", "places"]) fun _ _ _ _ _ _ us hl => match us, hl with | [_, _, _], _ => rfl, mRing := ⟨mk_Ring, a_Ring_init, i_Ring_init, kc_Ring⟩, F_Ring_shows := F_Ring_shows, b_Ring_shows := F_Ring_shows.binds (ps := ["self", "rows"]) fun _ _ _ _ _ _ us hl => match us, hl with | [_, _], _ => rfl, me_Ring_shows := ⟨a_Ring_shows, i_Ring_shows, k_Ring_shows⟩, F_Chain_init := F_Chain_init, b_Chain_init := F_Chain_init.binds (ps := ["self", "things", "places"]) fun _ _ _ _ _ _ us hl => match us, hl with | [_, _, _], _ => rfl, mChain := ⟨mk_Chain, a_Chain_init, i_Chain_init, kc_Chain⟩, F_Chain_shows := F_Chain_shows, b_Chain_shows := F_Chain_shows.binds (ps := ["self", "rows", "one", "other"]) fun _ _ _ _ _ _ us hl => match us, hl with | [_, _, _, _], _ => rfl, me_Chain_shows := ⟨a_Chain_shows, i_Chain_shows, k_Chain_shows⟩, F_Free_init := F_Free_init, b_Free_init := F_Free_init.binds (ps := ["self", "same", "unlike"]) fun _ _ _ _ _ _ us hl => match us, hl with | [_, _, _], _ => rfl, mFree := ⟨mk_Free, a_Free_init, i_Free_init, kc_Free⟩, F_Free_shows := F_Free_shows, b_Free_shows := F_Free_shows.binds (ps := ["self", "rows", "one", "other"]) fun _ _ _ _ _ _ us hl => match us, hl with | [_, _, _, _], _ => rfl, me_Free_shows := ⟨a_Free_shows, i_Free_shows, k_Free_shows⟩, F_Walk_init := F_Walk_init, b_Walk_init := F_Walk_init.binds (ps := ["self", "rows"]) fun _ _ _ _ _ _ us hl => match us, hl with | [_, _], _ => rfl, mWalk := ⟨mk_Walk, a_Walk_init, i_Walk_init, kc_Walk⟩, F_Walk_meet := F_Walk_meet, b_Walk_meet := F_Walk_meet.binds (ps := ["self", "head"]) fun _ _ _ _ _ _ us hl => match us, hl with | [_, _], _ => rfl, me_Walk_meet := ⟨a_Walk_meet, i_Walk_meet, k_Walk_meet⟩, F_Walk_way_up := F_Walk_way_up, b_Walk_way_up := F_Walk_way_up.binds (ps := ["self", "thing"]) fun _ _ _ _ _ _ us hl => match us, hl with | [_, _], _ => rfl, me_Walk_way_up := ⟨a_Walk_way_up, i_Walk_way_up, k_Walk_way_up⟩, F_Walk_chain := F_Walk_chain, b_Walk_chain := F_Walk_chain.binds (ps := ["self", "one", "other"]) fun _ _ _ _ _ _ us hl => match us, hl with | [_, _, _], _ => rfl, me_Walk_chain := ⟨a_Walk_chain, i_Walk_chain, k_Walk_chain⟩, F_Walk_ring := F_Walk_ring, b_Walk_ring := F_Walk_ring.binds (ps := ["self"]) fun _ _ _ _ _ _ us hl => match us, hl with | [_], _ => rfl, me_Walk_ring := ⟨a_Walk_ring, i_Walk_ring, k_Walk_ring⟩, F_deal := F_deal, b_deal := F_deal.binds (ps := ["rows"]) fun _ _ _ _ _ _ us hl => match us, hl with | [_], _ => rfl, g_deal := PySem.W.mg_of X G a_deal, F_tied := F_tied, b_tied := F_tied.binds (ps := ["rows", "one", "other"]) fun _ _ _ _ _ _ us hl => match us, hl with | [_, _, _], _ => rfl, g_tied := PySem.W.mg_of X G a_tied, F_heads_of := F_heads_of, b_heads_of := F_heads_of.binds (ps := ["walk"]) fun _ _ _ _ _ _ us hl => match us, hl with | [_], _ => rfl, g_heads_of := PySem.W.mg_of X G a_heads_of, F_count_by := F_count_by, b_count_by := F_count_by.binds (ps := ["walk"]) fun _ _ _ _ _ _ us hl => match us, hl with | [_], _ => rfl, g_count_by := PySem.W.mg_of X G a_count_by, F_count := F_count, b_count := F_count.binds (ps := ["rows"]) fun _ _ _ _ _ _ us hl => match us, hl with | [_], _ => rfl, g_count := PySem.W.mg_of X G a_count, F_dealing := F_dealing, b_dealing := F_dealing.binds (ps := ["rows", "number"]) fun _ _ _ _ _ _ us hl => match us, hl with | [_, _], _ => rfl, g_dealing := PySem.W.mg_of X G a_dealing, F_number_of := F_number_of, b_number_of := F_number_of.binds (ps := ["rows", "sides"]) fun _ _ _ _ _ _ us hl => match us, hl with | [_, _], _ => rfl, g_number_of := PySem.W.mg_of X G a_number_of, F__law_copied := F__law_copied, b__law_copied := F__law_copied.binds (ps := ["_law_thing"]) fun _ _ _ _ _ _ us hl => match us, hl with | [_], _ => rfl, g__law_copied := PySem.W.mg_of X G a__law_copied, F__law_spoiled := F__law_spoiled, b__law_spoiled := F__law_spoiled.binds (ps := ["_law_thing"]) fun _ _ _ _ _ _ us hl => match us, hl with | [_], _ => rfl, g__law_spoiled := PySem.W.mg_of X G a__law_spoiled, F__law_laid := F__law_laid, b__law_laid := F__law_laid.binds (ps := ["_law_mine", "_law_other"]) fun _ _ _ _ _ _ us hl => match us, hl with | [_, _], _ => rfl, g__law_laid := PySem.W.mg_of X G a__law_laid, F__law_door_right := F__law_door_right, b__law_door_right := F__law_door_right.binds (ps := ["_law_ask", "_law_one", "_law_other"]) fun _ _ _ _ _ _ us hl => match us, hl with | [_, _, _], _ => rfl, g__law_door_right := PySem.W.mg_of X G a__law_door_right, F__law_row := F__law_row, b__law_row := F__law_row.binds (ps := ["_law_cells", "_law_many", "_law_by"]) fun _ _ _ _ _ _ us hl => match us, hl with | [_, _, _], _ => rfl, g__law_row := PySem.W.mg_of X G a__law_row, F__law_told := F__law_told, b__law_told := F__law_told.binds (ps := ["_law_found"]) fun _ _ _ _ _ _ us hl => match us, hl with | [_], _ => rfl, g__law_told := PySem.W.mg_of X G a__law_told, F__law_free_right := F__law_free_right, b__law_free_right := F__law_free_right.binds (ps := ["_law_ask", "_law_holds_here", "_law_one", "_law_other"]) fun _ _ _ _ _ _ us hl => match us, hl with | [_, _, _, _], _ => rfl, g__law_free_right := PySem.W.mg_of X G a__law_free_right, F__law_holds := F__law_holds, b__law_holds := F__law_holds.binds (ps := ["_law_found", "_law_rows", "_law_one", "_law_other"]) fun _ _ _ _ _ _ us hl => match us, hl with | [_, _, _, _], _ => rfl, g__law_holds := PySem.W.mg_of X G a__law_holds, F_law := F_law, b_law := F_law.binds (ps := ["_law_script"]) fun _ _ _ _ _ _ us hl => match us, hl with | [_], _ => rfl, g_law := PySem.W.mg_of X G a_law, dc_law := rfl, k_Dealt_Answer := qk_Dealt_Answer, k_Dealt_Dealt := qk_Dealt_Dealt, k_Dealt_Ring := qk_Dealt_Ring, k_Dealt_Chain := qk_Dealt_Chain, k_Dealt_Free := qk_Dealt_Free, k_Ring_Answer := qk_Ring_Answer, k_Ring_Dealt := qk_Ring_Dealt, k_Ring_Ring := qk_Ring_Ring, k_Ring_Chain := qk_Ring_Chain, k_Ring_Free := qk_Ring_Free, k_Chain_Answer := qk_Chain_Answer, k_Chain_Dealt := qk_Chain_Dealt, k_Chain_Ring := qk_Chain_Ring, k_Chain_Chain := qk_Chain_Chain, k_Chain_Free := qk_Chain_Free, k_Free_Answer := qk_Free_Answer, k_Free_Dealt := qk_Free_Dealt, k_Free_Ring := qk_Free_Ring, k_Free_Chain := qk_Free_Chain, k_Free_Free := qk_Free_Free, sg1 := qsg1, sg2 := qsg2, hc_Dealt := qhc_Dealt, ho_Dealt := qho_Dealt, hc_Ring := qhc_Ring, ho_Ring := qho_Ring, hc_Chain := qhc_Chain, ho_Chain := qho_Chain, hc_Free := qhc_Free, ho_Free := qho_Free }
  have B : Blt mg := ⟨PySem.W.mg_none_of X G z_len, PySem.W.mg_none_of X G z_range, PySem.W.mg_none_of X G z_list, PySem.W.mg_none_of X G z_sum, PySem.W.mg_none_of X G z_all, PySem.W.mg_none_of X G z_any, PySem.W.mg_none_of X G z_sorted, PySem.W.mg_none_of X G z_isinstance, PySem.W.mg_none_of X G z_int, PySem.W.mg_none_of X G z_bool, PySem.W.mg_none_of X G z_enumerate, PySem.W.mg_none_of X G z_zip, PySem.W.mg_none_of X G z_abs, PySem.W.mg_none_of X G z_min, PySem.W.mg_none_of X G z_max, PySem.W.mg_none_of X G z_set, PySem.W.mg_none_of X G z_str, PySem.W.mg_none_of X G z_tuple, PySem.W.mg_none_of X G z_ValueError⟩
  refine ⟨T.d_law, [(cd_law, tb_law)], sp_law K (tabs T), (by intro p hp; simp only [List.mem_cons, List.not_mem_nil, or_false] at hp; subst hp; first | exact tt_law), (by intro p hp; simp only [List.mem_cons, List.not_mem_nil, or_false] at hp; subst hp; first | exact nt_law), (by intro p hp; simp only [List.mem_cons, List.not_mem_nil, or_false] at hp; subst hp; first | exact PySem.W.codeHd_of_K X hh_law), fun s v => .of_eq rfl, fun H a ns hl _ hT hS => ⟨a, ns, rfl, hS, hl, ?_, fun _ => rfl⟩, fun base _ _ TBs => ok_law T B ⟨TBs (cd_law, tb_law) (by simp)⟩⟩
  intro p hp
  unfold tabs at hp
  simp only [List.mem_cons, List.not_mem_nil, or_false] at hp
  subst hp
  · exact LamX.TabS.nil (hT (cd_law, tb_law) (by simp))
end Ed
open PySem PySem.W PyProof.Rows
set_option maxRecDepth 100000 in
set_option maxHeartbeats 0 in
theorem PySem.Challenge.cw_evendeal_k08_handed_stays_holds : PySem.Challenge.rw_evendeal_k08_handed_stays.Holds := by
  w_on; o_law; k_head; (case hw => w_witness2)
  k_fill
  refine LamX.walk_ofTs (l := PySem.Challenge.rw_evendeal_k08_handed_stays) (n := 63) (k := 18) (x := "_law_script") (CX := fun _ => L2.CX0) rfl (by decide) rfl ⟨rfl, by decide, by decide⟩ (fun w h Y => PySem.W.km_in_of Y) ?F (fun _ _ _ _ _ h => h)
  case F =>
    intro w mg fa h Y KX G hmg
    refine' Ed.all_mk KX G hmg ?a_Answer ?a_Dealt ?a_Ring ?a_Chain ?a_Free ?a_Walk ?a_is_number ?l_is_number ?c_is_number ?k_is_number ?a_check_rows ?l_check_rows ?c_check_rows ?k_check_rows ?a_check_thing ?l_check_thing ?c_check_thing ?k_check_thing ?a_ties_of ?l_ties_of ?c_ties_of ?k_ties_of ?a_is_pair ?l_is_pair ?c_is_pair ?k_is_pair ?a_is_chain ?l_is_chain ?c_is_chain ?k_is_chain ?a_is_even ?l_is_even ?c_is_even ?k_is_even ?a_Dealt_init ?i_Dealt_init ?l_Dealt_init ?c_Dealt_init ?k_Dealt_init ?a_Dealt_shows ?i_Dealt_shows ?l_Dealt_shows ?c_Dealt_shows ?k_Dealt_shows ?a_Ring_init ?i_Ring_init ?l_Ring_init ?c_Ring_init ?k_Ring_init ?a_Ring_shows ?i_Ring_shows ?l_Ring_shows ?c_Ring_shows ?k_Ring_shows ?a_Chain_init ?i_Chain_init ?l_Chain_init ?c_Chain_init ?k_Chain_init ?a_Chain_shows ?i_Chain_shows ?l_Chain_shows ?c_Chain_shows ?k_Chain_shows ?a_Free_init ?i_Free_init ?l_Free_init ?c_Free_init ?k_Free_init ?a_Free_shows ?i_Free_shows ?l_Free_shows ?c_Free_shows ?k_Free_shows ?a_Walk_init ?i_Walk_init ?l_Walk_init ?c_Walk_init ?k_Walk_init ?a_Walk_meet ?i_Walk_meet ?l_Walk_meet ?c_Walk_meet ?k_Walk_meet ?a_Walk_way_up ?i_Walk_way_up ?l_Walk_way_up ?c_Walk_way_up ?k_Walk_way_up ?a_Walk_chain ?i_Walk_chain ?l_Walk_chain ?c_Walk_chain ?k_Walk_chain ?a_Walk_ring ?i_Walk_ring ?l_Walk_ring ?c_Walk_ring ?k_Walk_ring ?a_deal ?l_deal ?c_deal ?k_deal ?a_tied ?l_tied ?c_tied ?k_tied ?a_heads_of ?l_heads_of ?c_heads_of ?k_heads_of ?a_count_by ?l_count_by ?c_count_by ?k_count_by ?a_count ?l_count ?c_count ?k_count ?a_dealing ?l_dealing ?c_dealing ?k_dealing ?a_number_of ?l_number_of ?c_number_of ?k_number_of ?a__law_copied ?l__law_copied ?c__law_copied ?k__law_copied ?a__law_spoiled ?l__law_spoiled ?c__law_spoiled ?k__law_spoiled ?a__law_laid ?l__law_laid ?c__law_laid ?k__law_laid ?a__law_door_right ?l__law_door_right ?c__law_door_right ?k__law_door_right ?a__law_row ?l__law_row ?c__law_row ?k__law_row ?a__law_told ?l__law_told ?c__law_told ?k__law_told ?a__law_free_right ?l__law_free_right ?c__law_free_right ?k__law_free_right ?a__law_holds ?l__law_holds ?c__law_holds ?k__law_holds ?a_law ?l_law ?cl_law ?cp_law ?hh_law ?nt_law ?tt_law ?c_law ?k_law ?pg_Dealt ?hd_Dealt ?po_Dealt ?sa_Dealt ?mk_Dealt ?kc_Dealt ?n_Dealt_sides ?pg_Ring ?hd_Ring ?po_Ring ?sa_Ring ?mk_Ring ?kc_Ring ?n_Ring_things ?n_Ring_places ?pg_Chain ?hd_Chain ?po_Chain ?sa_Chain ?mk_Chain ?kc_Chain ?n_Chain_things ?n_Chain_places ?pg_Free ?hd_Free ?po_Free ?sa_Free ?mk_Free ?kc_Free ?n_Free_same ?n_Free_unlike ?pg_Walk ?hd_Walk ?po_Walk ?sa_Walk ?mk_Walk ?kc_Walk ?n_Walk_ties ?n_Walk_sides ?n_Walk_heads ?n_Walk_ahead ?n_Walk_bar ?qk_Dealt_Answer ?qk_Dealt_Dealt ?qk_Dealt_Ring ?qk_Dealt_Chain ?qk_Dealt_Free ?qk_Ring_Answer ?qk_Ring_Dealt ?qk_Ring_Ring ?qk_Ring_Chain ?qk_Ring_Free ?qk_Chain_Answer ?qk_Chain_Dealt ?qk_Chain_Ring ?qk_Chain_Chain ?qk_Chain_Free ?qk_Free_Answer ?qk_Free_Dealt ?qk_Free_Ring ?qk_Free_Chain ?qk_Free_Free ?qsg1 ?qsg2 ?qhc_Dealt ?qho_Dealt ?qhc_Ring ?qho_Ring ?qhc_Chain ?qho_Chain ?qhc_Free ?qho_Free ?z_len ?z_range ?z_list ?z_sum ?z_all ?z_any ?z_sorted ?z_isinstance ?z_int ?z_bool ?z_enumerate ?z_zip ?z_abs ?z_min ?z_max ?z_set ?z_str ?z_tuple ?z_ValueError
    (case a_Answer => first | k_is | rfl | decide +kernel)
    (case a_Dealt => first | k_is | rfl | decide +kernel)
    (case a_Ring => first | k_is | rfl | decide +kernel)
    (case a_Chain => first | k_is | rfl | decide +kernel)
    (case a_Free => first | k_is | rfl | decide +kernel)
    (case a_Walk => first | k_is | rfl | decide +kernel)
    (case a_is_number => first | k_is | rfl | decide +kernel)
    (case l_is_number => first | k_is | rfl | decide +kernel)
    (case c_is_number => first | k_is | rfl | decide +kernel)
    (case k_is_number => first | k_is | rfl | decide +kernel)
    (case a_check_rows => first | k_is | rfl | decide +kernel)
    (case l_check_rows => first | k_is | rfl | decide +kernel)
    (case c_check_rows => first | k_is | rfl | decide +kernel)
    (case k_check_rows => first | k_is | rfl | decide +kernel)
    (case a_check_thing => first | k_is | rfl | decide +kernel)
    (case l_check_thing => first | k_is | rfl | decide +kernel)
    (case c_check_thing => first | k_is | rfl | decide +kernel)
    (case k_check_thing => first | k_is | rfl | decide +kernel)
    (case a_ties_of => first | k_is | rfl | decide +kernel)
    (case l_ties_of => first | k_is | rfl | decide +kernel)
    (case c_ties_of => first | k_is | rfl | decide +kernel)
    (case k_ties_of => first | k_is | rfl | decide +kernel)
    (case a_is_pair => first | k_is | rfl | decide +kernel)
    (case l_is_pair => first | k_is | rfl | decide +kernel)
    (case c_is_pair => first | k_is | rfl | decide +kernel)
    (case k_is_pair => first | k_is | rfl | decide +kernel)
    (case a_is_chain => first | k_is | rfl | decide +kernel)
    (case l_is_chain => first | k_is | rfl | decide +kernel)
    (case c_is_chain => first | k_is | rfl | decide +kernel)
    (case k_is_chain => first | k_is | rfl | decide +kernel)
    (case a_is_even => first | k_is | rfl | decide +kernel)
    (case l_is_even => first | k_is | rfl | decide +kernel)
    (case c_is_even => first | k_is | rfl | decide +kernel)
    (case k_is_even => first | k_is | rfl | decide +kernel)
    (case a_Dealt_init => first | k_is | rfl | decide +kernel)
    (case i_Dealt_init => first | k_is | rfl | decide +kernel)
    (case l_Dealt_init => first | k_is | rfl | decide +kernel)
    (case c_Dealt_init => first | k_is | rfl | decide +kernel)
    (case k_Dealt_init => first | k_is | rfl | decide +kernel)
    (case a_Dealt_shows => first | k_is | rfl | decide +kernel)
    (case i_Dealt_shows => first | k_is | rfl | decide +kernel)
    (case l_Dealt_shows => first | k_is | rfl | decide +kernel)
    (case c_Dealt_shows => first | k_is | rfl | decide +kernel)
    (case k_Dealt_shows => first | k_is | rfl | decide +kernel)
    (case a_Ring_init => first | k_is | rfl | decide +kernel)
    (case i_Ring_init => first | k_is | rfl | decide +kernel)
    (case l_Ring_init => first | k_is | rfl | decide +kernel)
    (case c_Ring_init => first | k_is | rfl | decide +kernel)
    (case k_Ring_init => first | k_is | rfl | decide +kernel)
    (case a_Ring_shows => first | k_is | rfl | decide +kernel)
    (case i_Ring_shows => first | k_is | rfl | decide +kernel)
    (case l_Ring_shows => first | k_is | rfl | decide +kernel)
    (case c_Ring_shows => first | k_is | rfl | decide +kernel)
    (case k_Ring_shows => first | k_is | rfl | decide +kernel)
    (case a_Chain_init => first | k_is | rfl | decide +kernel)
    (case i_Chain_init => first | k_is | rfl | decide +kernel)
    (case l_Chain_init => first | k_is | rfl | decide +kernel)
    (case c_Chain_init => first | k_is | rfl | decide +kernel)
    (case k_Chain_init => first | k_is | rfl | decide +kernel)
    (case a_Chain_shows => first | k_is | rfl | decide +kernel)
    (case i_Chain_shows => first | k_is | rfl | decide +kernel)
    (case l_Chain_shows => first | k_is | rfl | decide +kernel)
    (case c_Chain_shows => first | k_is | rfl | decide +kernel)
    (case k_Chain_shows => first | k_is | rfl | decide +kernel)
    (case a_Free_init => first | k_is | rfl | decide +kernel)
    (case i_Free_init => first | k_is | rfl | decide +kernel)
    (case l_Free_init => first | k_is | rfl | decide +kernel)
    (case c_Free_init => first | k_is | rfl | decide +kernel)
    (case k_Free_init => first | k_is | rfl | decide +kernel)
    (case a_Free_shows => first | k_is | rfl | decide +kernel)
    (case i_Free_shows => first | k_is | rfl | decide +kernel)
    (case l_Free_shows => first | k_is | rfl | decide +kernel)
    (case c_Free_shows => first | k_is | rfl | decide +kernel)
    (case k_Free_shows => first | k_is | rfl | decide +kernel)
    (case a_Walk_init => first | k_is | rfl | decide +kernel)
    (case i_Walk_init => first | k_is | rfl | decide +kernel)
    (case l_Walk_init => first | k_is | rfl | decide +kernel)
    (case c_Walk_init => first | k_is | rfl | decide +kernel)
    (case k_Walk_init => first | k_is | rfl | decide +kernel)
    (case a_Walk_meet => first | k_is | rfl | decide +kernel)
    (case i_Walk_meet => first | k_is | rfl | decide +kernel)
    (case l_Walk_meet => first | k_is | rfl | decide +kernel)
    (case c_Walk_meet => first | k_is | rfl | decide +kernel)
    (case k_Walk_meet => first | k_is | rfl | decide +kernel)
    (case a_Walk_way_up => first | k_is | rfl | decide +kernel)
    (case i_Walk_way_up => first | k_is | rfl | decide +kernel)
    (case l_Walk_way_up => first | k_is | rfl | decide +kernel)
    (case c_Walk_way_up => first | k_is | rfl | decide +kernel)
    (case k_Walk_way_up => first | k_is | rfl | decide +kernel)
    (case a_Walk_chain => first | k_is | rfl | decide +kernel)
    (case i_Walk_chain => first | k_is | rfl | decide +kernel)
    (case l_Walk_chain => first | k_is | rfl | decide +kernel)
    (case c_Walk_chain => first | k_is | rfl | decide +kernel)
    (case k_Walk_chain => first | k_is | rfl | decide +kernel)
    (case a_Walk_ring => first | k_is | rfl | decide +kernel)
    (case i_Walk_ring => first | k_is | rfl | decide +kernel)
    (case l_Walk_ring => first | k_is | rfl | decide +kernel)
    (case c_Walk_ring => first | k_is | rfl | decide +kernel)
    (case k_Walk_ring => first | k_is | rfl | decide +kernel)
    (case a_deal => first | k_is | rfl | decide +kernel)
    (case l_deal => first | k_is | rfl | decide +kernel)
    (case c_deal => first | k_is | rfl | decide +kernel)
    (case k_deal => first | k_is | rfl | decide +kernel)
    (case a_tied => first | k_is | rfl | decide +kernel)
    (case l_tied => first | k_is | rfl | decide +kernel)
    (case c_tied => first | k_is | rfl | decide +kernel)
    (case k_tied => first | k_is | rfl | decide +kernel)
    (case a_heads_of => first | k_is | rfl | decide +kernel)
    (case l_heads_of => first | k_is | rfl | decide +kernel)
    (case c_heads_of => first | k_is | rfl | decide +kernel)
    (case k_heads_of => first | k_is | rfl | decide +kernel)
    (case a_count_by => first | k_is | rfl | decide +kernel)
    (case l_count_by => first | k_is | rfl | decide +kernel)
    (case c_count_by => first | k_is | rfl | decide +kernel)
    (case k_count_by => first | k_is | rfl | decide +kernel)
    (case a_count => first | k_is | rfl | decide +kernel)
    (case l_count => first | k_is | rfl | decide +kernel)
    (case c_count => first | k_is | rfl | decide +kernel)
    (case k_count => first | k_is | rfl | decide +kernel)
    (case a_dealing => first | k_is | rfl | decide +kernel)
    (case l_dealing => first | k_is | rfl | decide +kernel)
    (case c_dealing => first | k_is | rfl | decide +kernel)
    (case k_dealing => first | k_is | rfl | decide +kernel)
    (case a_number_of => first | k_is | rfl | decide +kernel)
    (case l_number_of => first | k_is | rfl | decide +kernel)
    (case c_number_of => first | k_is | rfl | decide +kernel)
    (case k_number_of => first | k_is | rfl | decide +kernel)
    (case a__law_copied => first | k_is | rfl | decide +kernel)
    (case l__law_copied => first | k_is | rfl | decide +kernel)
    (case c__law_copied => first | k_is | rfl | decide +kernel)
    (case k__law_copied => first | k_is | rfl | decide +kernel)
    (case a__law_spoiled => first | k_is | rfl | decide +kernel)
    (case l__law_spoiled => first | k_is | rfl | decide +kernel)
    (case c__law_spoiled => first | k_is | rfl | decide +kernel)
    (case k__law_spoiled => first | k_is | rfl | decide +kernel)
    (case a__law_laid => first | k_is | rfl | decide +kernel)
    (case l__law_laid => first | k_is | rfl | decide +kernel)
    (case c__law_laid => first | k_is | rfl | decide +kernel)
    (case k__law_laid => first | k_is | rfl | decide +kernel)
    (case a__law_door_right => first | k_is | rfl | decide +kernel)
    (case l__law_door_right => first | k_is | rfl | decide +kernel)
    (case c__law_door_right => first | k_is | rfl | decide +kernel)
    (case k__law_door_right => first | k_is | rfl | decide +kernel)
    (case a__law_row => first | k_is | rfl | decide +kernel)
    (case l__law_row => first | k_is | rfl | decide +kernel)
    (case c__law_row => first | k_is | rfl | decide +kernel)
    (case k__law_row => first | k_is | rfl | decide +kernel)
    (case a__law_told => first | k_is | rfl | decide +kernel)
    (case l__law_told => first | k_is | rfl | decide +kernel)
    (case c__law_told => first | k_is | rfl | decide +kernel)
    (case k__law_told => first | k_is | rfl | decide +kernel)
    (case a__law_free_right => first | k_is | rfl | decide +kernel)
    (case l__law_free_right => first | k_is | rfl | decide +kernel)
    (case c__law_free_right => first | k_is | rfl | decide +kernel)
    (case k__law_free_right => first | k_is | rfl | decide +kernel)
    (case a__law_holds => first | k_is | rfl | decide +kernel)
    (case l__law_holds => first | k_is | rfl | decide +kernel)
    (case c__law_holds => first | k_is | rfl | decide +kernel)
    (case k__law_holds => first | k_is | rfl | decide +kernel)
    (case a_law => first | k_is | rfl | decide +kernel)
    (case l_law => first | k_is | rfl | decide +kernel)
    (case cl_law => first | k_is | rfl | decide +kernel)
    (case cp_law => first | k_is | rfl | decide +kernel)
    (case hh_law => first | k_is | rfl | decide +kernel)
    (case nt_law => first | k_is | rfl | decide +kernel)
    (case tt_law => exact PySem.W.km_tabs_of Y _ (by decide))
    (case c_law => first | k_is | rfl | decide +kernel)
    (case k_law => first | k_is | rfl | decide +kernel)
    (case pg_Dealt => first | k_is | rfl | decide +kernel)
    (case hd_Dealt => first | k_is | rfl | decide +kernel)
    (case po_Dealt => first | k_is | rfl | decide +kernel)
    (case sa_Dealt => first | k_is | rfl | decide +kernel)
    (case mk_Dealt => first | k_is | rfl | decide +kernel)
    (case kc_Dealt => first | k_is | rfl | decide +kernel)
    (case n_Dealt_sides => first | k_is | rfl | decide +kernel)
    (case pg_Ring => first | k_is | rfl | decide +kernel)
    (case hd_Ring => first | k_is | rfl | decide +kernel)
    (case po_Ring => first | k_is | rfl | decide +kernel)
    (case sa_Ring => first | k_is | rfl | decide +kernel)
    (case mk_Ring => first | k_is | rfl | decide +kernel)
    (case kc_Ring => first | k_is | rfl | decide +kernel)
    (case n_Ring_things => first | k_is | rfl | decide +kernel)
    (case n_Ring_places => first | k_is | rfl | decide +kernel)
    (case pg_Chain => first | k_is | rfl | decide +kernel)
    (case hd_Chain => first | k_is | rfl | decide +kernel)
    (case po_Chain => first | k_is | rfl | decide +kernel)
    (case sa_Chain => first | k_is | rfl | decide +kernel)
    (case mk_Chain => first | k_is | rfl | decide +kernel)
    (case kc_Chain => first | k_is | rfl | decide +kernel)
    (case n_Chain_things => first | k_is | rfl | decide +kernel)
    (case n_Chain_places => first | k_is | rfl | decide +kernel)
    (case pg_Free => first | k_is | rfl | decide +kernel)
    (case hd_Free => first | k_is | rfl | decide +kernel)
    (case po_Free => first | k_is | rfl | decide +kernel)
    (case sa_Free => first | k_is | rfl | decide +kernel)
    (case mk_Free => first | k_is | rfl | decide +kernel)
    (case kc_Free => first | k_is | rfl | decide +kernel)
    (case n_Free_same => first | k_is | rfl | decide +kernel)
    (case n_Free_unlike => first | k_is | rfl | decide +kernel)
    (case pg_Walk => first | k_is | rfl | decide +kernel)
    (case hd_Walk => first | k_is | rfl | decide +kernel)
    (case po_Walk => first | k_is | rfl | decide +kernel)
    (case sa_Walk => first | k_is | rfl | decide +kernel)
    (case mk_Walk => first | k_is | rfl | decide +kernel)
    (case kc_Walk => first | k_is | rfl | decide +kernel)
    (case n_Walk_ties => first | k_is | rfl | decide +kernel)
    (case n_Walk_sides => first | k_is | rfl | decide +kernel)
    (case n_Walk_heads => first | k_is | rfl | decide +kernel)
    (case n_Walk_ahead => first | k_is | rfl | decide +kernel)
    (case n_Walk_bar => first | k_is | rfl | decide +kernel)
    (case qk_Dealt_Answer => first | k_is | rfl | decide +kernel)
    (case qk_Dealt_Dealt => first | k_is | rfl | decide +kernel)
    (case qk_Dealt_Ring => first | k_is | rfl | decide +kernel)
    (case qk_Dealt_Chain => first | k_is | rfl | decide +kernel)
    (case qk_Dealt_Free => first | k_is | rfl | decide +kernel)
    (case qk_Ring_Answer => first | k_is | rfl | decide +kernel)
    (case qk_Ring_Dealt => first | k_is | rfl | decide +kernel)
    (case qk_Ring_Ring => first | k_is | rfl | decide +kernel)
    (case qk_Ring_Chain => first | k_is | rfl | decide +kernel)
    (case qk_Ring_Free => first | k_is | rfl | decide +kernel)
    (case qk_Chain_Answer => first | k_is | rfl | decide +kernel)
    (case qk_Chain_Dealt => first | k_is | rfl | decide +kernel)
    (case qk_Chain_Ring => first | k_is | rfl | decide +kernel)
    (case qk_Chain_Chain => first | k_is | rfl | decide +kernel)
    (case qk_Chain_Free => first | k_is | rfl | decide +kernel)
    (case qk_Free_Answer => first | k_is | rfl | decide +kernel)
    (case qk_Free_Dealt => first | k_is | rfl | decide +kernel)
    (case qk_Free_Ring => first | k_is | rfl | decide +kernel)
    (case qk_Free_Chain => first | k_is | rfl | decide +kernel)
    (case qk_Free_Free => first | k_is | rfl | decide +kernel)
    (case qsg1 => first | k_is | rfl | decide +kernel)
    (case qsg2 => first | k_is | rfl | decide +kernel)
    (case qhc_Dealt => first | k_is | rfl | decide +kernel)
    (case qho_Dealt => first | k_is | rfl | decide +kernel)
    (case qhc_Ring => first | k_is | rfl | decide +kernel)
    (case qho_Ring => first | k_is | rfl | decide +kernel)
    (case qhc_Chain => first | k_is | rfl | decide +kernel)
    (case qho_Chain => first | k_is | rfl | decide +kernel)
    (case qhc_Free => first | k_is | rfl | decide +kernel)
    (case qho_Free => first | k_is | rfl | decide +kernel)
    (case z_len => first | k_is | rfl | decide +kernel)
    (case z_range => first | k_is | rfl | decide +kernel)
    (case z_list => first | k_is | rfl | decide +kernel)
    (case z_sum => first | k_is | rfl | decide +kernel)
    (case z_all => first | k_is | rfl | decide +kernel)
    (case z_any => first | k_is | rfl | decide +kernel)
    (case z_sorted => first | k_is | rfl | decide +kernel)
    (case z_isinstance => first | k_is | rfl | decide +kernel)
    (case z_int => first | k_is | rfl | decide +kernel)
    (case z_bool => first | k_is | rfl | decide +kernel)
    (case z_enumerate => first | k_is | rfl | decide +kernel)
    (case z_zip => first | k_is | rfl | decide +kernel)
    (case z_abs => first | k_is | rfl | decide +kernel)
    (case z_min => first | k_is | rfl | decide +kernel)
    (case z_max => first | k_is | rfl | decide +kernel)
    (case z_set => first | k_is | rfl | decide +kernel)
    (case z_str => first | k_is | rfl | decide +kernel)
    (case z_tuple => first | k_is | rfl | decide +kernel)
    (case z_ValueError => first | k_is | rfl | decide +kernel)
